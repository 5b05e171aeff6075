import PyProof.Rows.All
import Wide.All
import OpenK.AllK
import Wide.FinOn
import HandS.ForMost
import HandS.Wide
import HandS.WideBits
import HandS.Style
import HandS.TupAny
import HandS.IsInst
import HandS.Exc
import HandS.Deep
import HandS.Zip
import KE.GoesMore
import KE.SortKeyHeap
import HandS.SortKw
import HandS.Replace
import HandS.Text
import HandS.Small
import HandS.ExcOwn
import HandS.TryOnly
import HandS.WordsExc
import HandS.Remove
import HandS.TupSets
import KE.KMinKey
import KE.DataAny
import KE.KDictLaws
import HandS.More
import KE.KDictCopyH
import KE.DataFind
import HandS.Flow
import KE.BitLaws
import KE.KBits
import PySem.Challenge.RW_mendedgates_k36_frames_as_matrices
set_option Elab.async false
set_option linter.all false
set_option maxRecDepth 100000
set_option maxHeartbeats 4000000
/-! VL: a layer of plain data over HandS. Values are trees; frozen objects stand in F; what a name of the def owns is mutable. -/
namespace VL
open PySem PySem.Spec L2

/-- built-in classes as values -/
inductive Ty where
  | tint | tbool | tstr | ttup | tlst | tdct
def Ty.name : Ty → String
  | .tint => "int"
  | .tbool => "bool"
  | .tstr => "str"
  | .ttup => "tuple"
  | .tlst => "list"
  | .tdct => "dict"
inductive D where
  | non | bl (b : Bool) | int (i : Int) | str (x : Str)
  | tup (ds : List D) | lst (ds : List D) | dct (ks : List Key) (ds : List D) | dcu (ks : List (List Key)) (ds : List D) | obj (a : Addr) | scr (ns : List Int) | ty (t : Ty) | ktp (ds : List D) | rng (n : Nat)

mutual
def D.pd : D → PyData
  | .non => .none
  | .bl b => .bool b
  | .int i => .int i
  | .str x => .str x
  | .tup ds => .tuple (D.pds ds)
  | .lst ds => .list (D.pds ds)
  | .dct _ _ => .none
  | .dcu _ _ => .none
  | .obj _ => .none
  | .scr _ => .none
  | .ty _ => .none
  | .ktp _ => .none
  | .rng _ => .none
def D.pds : List D → List PyData
  | [] => []
  | d :: ds => D.pd d :: D.pds ds
end

/-- plain data of at most that depth -/
def shD : Nat → D → Bool
  | _, .non => true
  | _, .bl _ => true
  | _, .int _ => true
  | _, .str x => PyData.strOk x
  | n + 1, .tup ds => ds.all (shD n)
  | n + 1, .lst ds => ds.all (shD n)
  | _, _ => false

mutual
def eqD : D → D → Bool
  | .non, .non => true
  | .bl a, .bl b => a == b
  | .bl a, .int j => (if a then 1 else 0) == j
  | .int i, .bl b => i == (if b then 1 else 0)
  | .int i, .int j => i == j
  | .str x, .str y => x == y
  | .tup xs, .tup ys => eqDs xs ys
  | .lst xs, .lst ys => eqDs xs ys
  | _, _ => false
def eqDs : List D → List D → Bool
  | [], [] => true
  | x :: xs, y :: ys => eqD x y && eqDs xs ys
  | _, _ => false
end

/-- a value whose tree holds no list, no dict -/
def flD : Nat → D → Bool
  | _, .non => true
  | _, .bl _ => true
  | _, .int _ => true
  | _, .str _ => true
  | _, .obj _ => true
  | n + 1, .tup ds => ds.all (flD n)
  | _, _ => false

/-- a mutable object that has a name of its own -/
inductive Ob where
  | ml (ds : List D)
  | md (ks : List Key) (ds : List D)
  | mu (ks : List (List Key)) (ds : List D)
  | ins (c : Str) (fs : List (Str × D))
  | lk (u : HO) (ks : List Key) (ds : List D)
  | lku (u : HO) (ks : List (List Key)) (ds : List D)

abbrev Oh := Addr → Option Ob
def Oh.put (h : Oh) (a : Addr) (o : Ob) : Oh := fun b => if b = a then some o else h b
theorem Oh.put_same {h : Oh} {a : Addr} {o : Ob} : h.put a o a = some o := by unfold Oh.put; rw [if_pos rfl]
theorem Oh.put_ne {h : Oh} {a b : Addr} {o : Ob} (n : b ≠ a) : h.put a o b = h b := by unfold Oh.put; rw [if_neg n]
theorem Oh.put_put {h : Oh} {a : Addr} {o u : Ob} : (h.put a o).put a u = h.put a u := by
  funext b; unfold Oh.put; split <;> rfl

/-- a slot: unset, a frozen value, a container that the name owns -/
inductive Sl where
  | u | f (d : D) | o (d : D)

structure Sg where
  s : List Sl
  h : Oh

/-! ### what a value is in the frozen part -/
mutual
inductive Rep (K : PySem.W.Frag) (F : Hp) : V → D → Prop
  | non : Rep K F .non .non
  | bl (b : Bool) : Rep K F (.bl b) (.bl b)
  | int (i : Int) : Rep K F (.int i) (.int i)
  | str (x : Str) : Rep K F (.str x) (.str x)
  | tup {a : Addr} {vs : List V} {ds : List D} : SqT K F a vs → Reps K F vs ds → Rep K F (.ref a) (.tup ds)
  | lst {a : Addr} {vs : List V} {ds : List D} : F a = some (.lst vs) → Reps K F vs ds → Rep K F (.ref a) (.lst ds)
  | dct {a : Addr} {kvs : List (Key × V)} {ks : List Key} {ds : List D} : F a = some (.dK kvs) → kvs.map (·.1) = ks → Reps K F (kvs.map (·.2)) ds → Rep K F (.ref a) (.dct ks ds)
  | dcu {a : Addr} {kvs : List (List Key × V)} {ks : List (List Key)} {ds : List D} : F a = some (.dT kvs) → kvs.map (·.1) = ks → Reps K F (kvs.map (·.2)) ds → Rep K F (.ref a) (.dcu ks ds)
  | obj (a : Addr) : Rep K F (.ref a) (.obj a)
  | scr {a : Addr} {ns : List Int} : SqL K F a (ns.map V.int) → Rep K F (.ref a) (.scr ns)
  | ty (t : Ty) : Rep K F (.ty t.name) (.ty t)
  | ktp {a : Addr} {vs : List V} {ds : List D} : F a = some (.tup vs) → Reps K F vs ds → Rep K F (.ref a) (.ktp ds)
  | rng {a : Addr} {n : Nat} : F a = some (.rng 0 n) → n < 2 ^ 62 → Rep K F (.ref a) (.rng n)
inductive Reps (K : PySem.W.Frag) (F : Hp) : List V → List D → Prop
  | nil : Reps K F [] []
  | cons {v : V} {vs : List V} {d : D} {ds : List D} : Rep K F v d → Reps K F vs ds → Reps K F (v :: vs) (d :: ds)
end

def Ext (F F' : Hp) : Prop := ∀ a o, F a = some o → F' a = some o
theorem Ext.refl (F : Hp) : Ext F F := fun _ _ h => h
theorem Ext.trans {F G H : Hp} (a : Ext F G) (b : Ext G H) : Ext F H := fun x o h => b x o (a x o h)
theorem Ext.new {F : Hp} {p : Addr} {o : HO} (h : F p = none) : Ext F (upd F p o) := fun a u e => by
  rw [upd_ne (ne_of_none e h)]
  exact e
theorem Ext.rd {F G : Hp} (e : Ext F G) {a : Addr} {u : HO} (h : Rd F a u) : Rd G a u := by
  rcases h with h | ⟨o, h⟩
  · exact .inl (e _ _ h)
  · exact .inr ⟨o, e _ _ h⟩
theorem Ext.sqL {K : PySem.W.Frag} {F G : Hp} (e : Ext F G) {a : Addr} {xs : List V} (h : SqL K F a xs) : SqL K G a xs := h.elim (fun z => .inl (e.rd z)) .inr
theorem Ext.sqT {K : PySem.W.Frag} {F G : Hp} (e : Ext F G) {a : Addr} {xs : List V} (h : SqT K F a xs) : SqT K G a xs := h.elim (fun z => .inl (e.rd z)) .inr

mutual
theorem Rep.mono {K : PySem.W.Frag} {F G : Hp} (e : Ext F G) : ∀ {v : V} {d : D}, Rep K F v d → Rep K G v d
  | _, _, .non => .non
  | _, _, .bl b => .bl b
  | _, _, .int i => .int i
  | _, _, .str x => .str x
  | _, _, .tup h r => .tup (e.sqT h) (Reps.mono e r)
  | _, _, .lst h r => .lst (e _ _ h) (Reps.mono e r)
  | _, _, .dct h k r => .dct (e _ _ h) k (Reps.mono e r)
  | _, _, .dcu h k r => .dcu (e _ _ h) k (Reps.mono e r)
  | _, _, .obj a => .obj a
  | _, _, .scr h => .scr (e.sqL h)
  | _, _, .ty t => .ty t
  | _, _, .ktp h r => .ktp (e _ _ h) (Reps.mono e r)
  | _, _, .rng h r => .rng (e _ _ h) r
theorem Reps.mono {K : PySem.W.Frag} {F G : Hp} (e : Ext F G) : ∀ {vs : List V} {ds : List D}, Reps K F vs ds → Reps K G vs ds
  | _, _, .nil => .nil
  | _, _, .cons h r => .cons (Rep.mono e h) (Reps.mono e r)
end
section
variable {K : PySem.W.Frag} {F G H : Hp}
theorem Reps.length : ∀ {vs : List V} {ds : List D}, Reps K F vs ds → vs.length = ds.length
  | _, _, .nil => rfl
  | _, _, .cons _ r => congrArg (· + 1) (Reps.length r)
theorem Reps.get : ∀ {vs : List V} {ds : List D} {i : Nat} {d : D}, Reps K F vs ds → ds[i]? = some d → ∃ v, vs[i]? = some v ∧ Rep K F v d
  | _, _, _, _, .nil, h => by simp at h
  | _, _, 0, _, .cons r _, h => by
    have e := Option.some.inj h
    subst e
    exact ⟨_, rfl, r⟩
  | _, _, i + 1, _, .cons _ t, h => Reps.get (i := i) t h
theorem Reps.append : ∀ {vs ws : List V} {ds es : List D}, Reps K F vs ds → Reps K F ws es → Reps K F (vs ++ ws) (ds ++ es)
  | _, _, _, _, .nil, s => s
  | _, _, _, _, .cons r t, s => .cons r (Reps.append t s)
theorem Reps.one {v : V} {d : D} (h : Rep K F v d) : Reps K F [v] [d] := .cons h .nil
theorem Reps.set : ∀ {vs : List V} {ds : List D} {v : V} {d : D} (i : Nat), Reps K F vs ds → Rep K F v d → Reps K F (vs.set i v) (ds.set i d)
  | _, _, _, _, _, .nil, _ => .nil
  | _, _, _, _, 0, .cons _ t, r => .cons r t
  | _, _, _, _, i + 1, .cons q t, r => .cons q (Reps.set i t r)
theorem Reps.take : ∀ {vs : List V} {ds : List D} (n : Nat), Reps K F vs ds → Reps K F (vs.take n) (ds.take n)
  | _, _, 0, _ => .nil
  | _, _, _ + 1, .nil => .nil
  | _, _, n + 1, .cons r t => .cons r (Reps.take n t)
theorem Reps.drop : ∀ {vs : List V} {ds : List D} (n : Nat), Reps K F vs ds → Reps K F (vs.drop n) (ds.drop n)
  | _, _, 0, r => r
  | _, _, _ + 1, .nil => .nil
  | _, _, n + 1, .cons _ t => Reps.drop n t
theorem Reps.dropLast {vs : List V} {ds : List D} (h : Reps K F vs ds) : Reps K F vs.dropLast ds.dropLast := by
  rw [List.dropLast_eq_take, List.dropLast_eq_take, h.length]
  exact h.take _
theorem Reps.rep {vs : List V} {ds : List D} (h : Reps K F vs ds) : ∀ k : Nat, Reps K F (List.replicate k vs).flatten (List.replicate k ds).flatten
  | 0 => .nil
  | k + 1 => by
    rw [List.replicate_succ, List.replicate_succ, List.flatten_cons, List.flatten_cons]
    exact h.append (Reps.rep h k)
theorem Reps.rev {vs : List V} {ds : List D} (h : Reps K F vs ds) : Reps K F vs.reverse ds.reverse := by
  induction h using Reps.rec (motive_1 := fun _ _ _ => True) with
  | nil => exact .nil
  | cons a b _ ih =>
    rw [List.reverse_cons, List.reverse_cons]
    exact ih.append (.one a)
  | _ => trivial
theorem Reps.ints : ∀ {vs : List V} {ns : List Int}, Reps K F vs (ns.map D.int) → vs = ns.map V.int
  | _, [], .nil => rfl
  | _, n :: ns, .cons r t => by
    cases r
    rw [List.map_cons, Reps.ints t]
theorem Reps.ofInts : ∀ (ns : List Int), Reps K F (ns.map V.int) (ns.map D.int)
  | [] => .nil
  | n :: ns => .cons (.int n) (Reps.ofInts ns)
theorem Reps.bools : ∀ {vs : List V} {ns : List Bool}, Reps K F vs (ns.map D.bl) → vs = ns.map V.bl
  | _, [], .nil => rfl
  | _, n :: ns, .cons r t => by
    cases r
    rw [List.map_cons, Reps.bools t]
theorem Reps.strs : ∀ {vs : List V} {ns : List Str}, Reps K F vs (ns.map D.str) → vs = ns.map V.str
  | _, [], .nil => rfl
  | _, n :: ns, .cons r t => by
    cases r
    rw [List.map_cons, Reps.strs t]
end

/-! ### plain data as the library's data -/
mutual
theorem Rep.dp {K : PySem.W.Frag} {F H : Hp} (e : Ext F H) : ∀ {n : Nat} {v : V} {d : D}, Rep K F v d → shD n d = true → Dp K H v d.pd
  | _, _, _, .non, _ => .non
  | _, _, _, .bl b, _ => .bl b
  | _, _, _, .int i, _ => .int i
  | _, _, _, .str x, _ => .str x
  | 0, _, _, .tup _ _, s => by simp [shD] at s
  | n + 1, _, _, .tup h r, s => .tup (e.sqT h) (Reps.dp (n := n) e r s)
  | 0, _, _, .lst _ _, s => by simp [shD] at s
  | n + 1, _, _, .lst h r, s => .lst (.of (e _ _ h)) (Reps.dp (n := n) e r s)
  | 0, _, _, .dct _ _ _, s => by simp [shD] at s
  | n + 1, _, _, .dct _ _ _, s => by simp [shD] at s
  | 0, _, _, .dcu _ _ _, s => by simp [shD] at s
  | n + 1, _, _, .dcu _ _ _, s => by simp [shD] at s
  | 0, _, _, .obj _, s => by simp [shD] at s
  | n + 1, _, _, .obj _, s => by simp [shD] at s
  | 0, _, _, .scr _, s => by simp [shD] at s
  | n + 1, _, _, .scr _, s => by simp [shD] at s
  | 0, _, _, .ty _, s => by simp [shD] at s
  | n + 1, _, _, .ty _, s => by simp [shD] at s
  | 0, _, _, .ktp _ _, s => by simp [shD] at s
  | 0, _, _, .rng _ _, s => by simp [shD] at s
  | n + 1, _, _, .ktp _ _, s => by simp [shD] at s
  | n + 1, _, _, .rng _ _, s => by simp [shD] at s
theorem Reps.dp {K : PySem.W.Frag} {F H : Hp} (e : Ext F H) : ∀ {n : Nat} {vs : List V} {ds : List D}, Reps K F vs ds → ds.all (shD n) = true → DpAll K H vs (D.pds ds)
  | _, _, _, .nil, _ => .nil
  | n, _, _, .cons r t, s => by
    rw [List.all_cons, Bool.and_eq_true] at s
    exact .cons (Rep.dp e r s.1) (Reps.dp e t s.2)
end
mutual
theorem can_sh : ∀ (n : Nat) (d : D), shD n d = true → d.pd.canLay0 = true
  | _, .non, _ => rfl
  | _, .bl _, _ => rfl
  | _, .int _, _ => rfl
  | 0, .str x, h => h
  | n + 1, .str x, h => h
  | n + 1, .tup ds, h => can_shs n ds h
  | n + 1, .lst ds, h => can_shs n ds h
  | 0, .tup ds, h => by simp [shD] at h
  | 0, .lst ds, h => by simp [shD] at h
  | 0, .dct _ _, h => by simp [shD] at h
  | n + 1, .dct _ _, h => by simp [shD] at h
  | 0, .dcu _ _, h => by simp [shD] at h
  | n + 1, .dcu _ _, h => by simp [shD] at h
  | 0, .obj _, h => by simp [shD] at h
  | n + 1, .obj _, h => by simp [shD] at h
  | 0, .scr _, h => by simp [shD] at h
  | n + 1, .scr _, h => by simp [shD] at h
  | 0, .ty _, h => by simp [shD] at h
  | n + 1, .ty _, h => by simp [shD] at h
  | 0, .ktp _, h => by simp [shD] at h
  | 0, .rng _, h => by simp [shD] at h
  | n + 1, .ktp _, h => by simp [shD] at h
  | n + 1, .rng _, h => by simp [shD] at h
theorem can_shs : ∀ (n : Nat) (ds : List D), ds.all (shD n) = true → PyData.canLayAll0 (D.pds ds) = true
  | _, [], _ => rfl
  | n, d :: ds, h => by
    rw [List.all_cons, Bool.and_eq_true] at h
    show (PyData.canLay0 d.pd && PyData.canLayAll0 (D.pds ds)) = true
    rw [can_sh n d h.1, can_shs n ds h.2]
    rfl
end
mutual
theorem depth_sh : ∀ (n : Nat) (d : D), shD n d = true → d.pd.depth ≤ n
  | _, .non, _ => Nat.zero_le _
  | _, .bl _, _ => Nat.zero_le _
  | _, .int _, _ => Nat.zero_le _
  | _, .str x, _ => Nat.zero_le _
  | n + 1, .tup ds, h => Nat.succ_le_succ (depth_shs n ds h)
  | n + 1, .lst ds, h => Nat.succ_le_succ (depth_shs n ds h)
  | 0, .tup ds, h => by simp [shD] at h
  | 0, .lst ds, h => by simp [shD] at h
  | 0, .dct _ _, h => by simp [shD] at h
  | n + 1, .dct _ _, h => by simp [shD] at h
  | 0, .dcu _ _, h => by simp [shD] at h
  | n + 1, .dcu _ _, h => by simp [shD] at h
  | 0, .obj _, h => by simp [shD] at h
  | n + 1, .obj _, h => by simp [shD] at h
  | 0, .scr _, h => by simp [shD] at h
  | n + 1, .scr _, h => by simp [shD] at h
  | 0, .ty _, h => by simp [shD] at h
  | n + 1, .ty _, h => by simp [shD] at h
  | 0, .ktp _, h => by simp [shD] at h
  | 0, .rng _, h => by simp [shD] at h
  | n + 1, .ktp _, h => by simp [shD] at h
  | n + 1, .rng _, h => by simp [shD] at h
theorem depth_shs : ∀ (n : Nat) (ds : List D), ds.all (shD n) = true → PyData.depthAll (D.pds ds) ≤ n
  | _, [], _ => Nat.zero_le _
  | n, d :: ds, h => by
    rw [List.all_cons, Bool.and_eq_true] at h
    exact Nat.max_le.mpr ⟨depth_sh n d h.1, depth_shs n ds h.2⟩
end
theorem shaped_sh {n : Nat} {d : D} (h : shD n d = true) (hn : n ≤ 64) : SeqAt.shaped d.pd = true := by
  show (PyData.canLay0 d.pd && decide (PyData.depth d.pd ≤ 64)) = true
  rw [can_sh n d h, decide_eq_true (Nat.le_trans (depth_sh n d h) hn)]
  rfl
mutual
theorem eqD_pd : ∀ (n : Nat) (d e : D), shD n d = true → shD n e = true → PyData.eqv d.pd e.pd = eqD d e
  | _, .non, .non, _, _ => rfl
  | _, .non, .bl _, _, _ => rfl
  | _, .non, .int _, _, _ => rfl
  | _, .non, .str _, _, _ => rfl
  | _, .non, .tup _, _, _ => rfl
  | _, .non, .lst _, _, _ => rfl
  | _, .bl _, .non, _, _ => rfl
  | _, .bl _, .bl _, _, _ => rfl
  | _, .bl _, .int _, _, _ => rfl
  | _, .bl _, .str _, _, _ => rfl
  | _, .bl _, .tup _, _, _ => rfl
  | _, .bl _, .lst _, _, _ => rfl
  | _, .int _, .non, _, _ => rfl
  | _, .int _, .bl _, _, _ => rfl
  | _, .int _, .int _, _, _ => rfl
  | _, .int _, .str _, _, _ => rfl
  | _, .int _, .tup _, _, _ => rfl
  | _, .int _, .lst _, _, _ => rfl
  | _, .str _, .non, _, _ => rfl
  | _, .str _, .bl _, _, _ => rfl
  | _, .str _, .int _, _, _ => rfl
  | _, .str _, .str _, _, _ => rfl
  | _, .str _, .tup _, _, _ => rfl
  | _, .str _, .lst _, _, _ => rfl
  | _, .tup _, .non, _, _ => rfl
  | _, .tup _, .bl _, _, _ => rfl
  | _, .tup _, .int _, _, _ => rfl
  | _, .tup _, .str _, _, _ => rfl
  | n + 1, .tup xs, .tup ys, h, k => by
    show PyData.eqvAll (D.pds xs) (D.pds ys) = eqDs xs ys
    exact eqDs_pd n xs ys h k
  | _, .tup _, .lst _, _, _ => rfl
  | _, .lst _, .non, _, _ => rfl
  | _, .lst _, .bl _, _, _ => rfl
  | _, .lst _, .int _, _, _ => rfl
  | _, .lst _, .str _, _, _ => rfl
  | _, .lst _, .tup _, _, _ => rfl
  | n + 1, .lst xs, .lst ys, h, k => by
    show PyData.eqvAll (D.pds xs) (D.pds ys) = eqDs xs ys
    exact eqDs_pd n xs ys h k
  | 0, .tup _, _, h, _ => by simp [shD] at h
  | 0, .lst _, _, h, _ => by simp [shD] at h
  | n, .dct _ _, _, h, _ => by cases n <;> simp [shD] at h
  | n, .dcu _ _, _, h, _ => by cases n <;> simp [shD] at h
  | n, .obj _, _, h, _ => by cases n <;> simp [shD] at h
  | n, .scr _, _, h, _ => by cases n <;> simp [shD] at h
  | n, .ty _, _, h, _ => by cases n <;> simp [shD] at h
  | n, .ktp _, _, h, _ => by cases n <;> simp [shD] at h
  | n, .rng _, _, h, _ => by cases n <;> simp [shD] at h
  | n, _, .dct _ _, _, h => by cases n <;> simp [shD] at h
  | n, _, .dcu _ _, _, h => by cases n <;> simp [shD] at h
  | n, _, .obj _, _, h => by cases n <;> simp [shD] at h
  | n, _, .scr _, _, h => by cases n <;> simp [shD] at h
  | n, _, .ty _, _, h => by cases n <;> simp [shD] at h
  | n, _, .ktp _, _, h => by cases n <;> simp [shD] at h
  | n, _, .rng _, _, h => by cases n <;> simp [shD] at h
theorem eqDs_pd : ∀ (n : Nat) (ds es : List D), ds.all (shD n) = true → es.all (shD n) = true → PyData.eqvAll (D.pds ds) (D.pds es) = eqDs ds es
  | _, [], [], _, _ => rfl
  | _, [], _ :: _, _, _ => rfl
  | _, _ :: _, [], _, _ => rfl
  | n, d :: ds, e :: es, h, k => by
    rw [List.all_cons, Bool.and_eq_true] at h k
    show (PyData.eqv d.pd e.pd && PyData.eqvAll (D.pds ds) (D.pds es)) = (eqD d e && eqDs ds es)
    rw [eqD_pd n d e h.1 k.1, eqDs_pd n ds es h.2 k.2]
end

/-! ### the state: slots, frozen part, objects -/
/-- the entry of a def (or of a comprehension's turn): frozen part, heap, objects, what its names own -/
structure En where
  F : Hp
  H : Hp
  h : Oh
  ow : Addr → Prop

/-- where the class of that name stands -/
def clsAt (K : PySem.W.Frag) (c : Str) : Addr := match PySem.W.nsIn K mainGlobals c with
  | some (some (.ref C)) => C
  | _ => 0
theorem clsAt_is {K : PySem.W.Frag} {c : Str} {C : Addr} (h : PySem.W.nsIn K mainGlobals c = some (some (.ref C))) : clsAt K c = C := by unfold clsAt; rw [h]
/-- an exception: its class, its fields -/
def XAt (K : PySem.W.Frag) (F : Hp) (c : Str) (fs : List (Str × D)) (cls : Value) (dd : Option Addr) : Prop :=
  cls = .ref (clsAt K c) ∧ ((fs = [] ∧ dd = none) ∨ ∃ d0 vfs, dd = some d0 ∧ F d0 = some (.xd vfs) ∧ vfs.map (·.1) = fs.map (·.1) ∧ Reps K F (vfs.map (·.2)) (fs.map (·.2)))
def ObAt (K : PySem.W.Frag) (F H : Hp) (a : Addr) : Ob → Prop
  | .ml ds => ∃ vs, H a = some (.lst vs) ∧ Reps K F vs ds
  | .md ks ds => ∃ kvs, H a = some (.dK kvs) ∧ kvs.map (·.1) = ks ∧ Reps K F (kvs.map (·.2)) ds
  | .mu ks ds => ∃ kvs, H a = some (.dT kvs) ∧ kvs.map (·.1) = ks ∧ Reps K F (kvs.map (·.2)) ds
  | .ins c fs => ∃ dx vfs, H a = some (.ins (clsAt K c) dx vfs) ∧ vfs.map (·.1) = fs.map (·.1) ∧ Reps K F (vfs.map (·.2)) (fs.map (·.2))
  | .lk u ks ds => H a = some u ∧ ∃ od kvs, u = .frz od (.dK kvs) ∧ kvs.map (·.1) = ks ∧ Reps K F (kvs.map (·.2)) ds
  | .lku u ks ds => H a = some u ∧ ∃ od kvs, u = .frz od (.dT kvs) ∧ kvs.map (·.1) = ks ∧ Reps K F (kvs.map (·.2)) ds
def OwAt (K : PySem.W.Frag) (F H : Hp) (a : Addr) : D → Prop
  | .lst ds => ∃ vs, H a = some (.lst vs) ∧ Reps K F vs ds
  | .dct ks ds => ∃ kvs, H a = some (.dK kvs) ∧ kvs.map (·.1) = ks ∧ Reps K F (kvs.map (·.2)) ds
  | .dcu ks ds => ∃ kvs, H a = some (.dT kvs) ∧ kvs.map (·.1) = ks ∧ Reps K F (kvs.map (·.2)) ds
  | _ => False
section
variable {K : PySem.W.Frag} {F F' H H' : Hp} {a : Addr}
theorem ObAt.there {o : Ob} (h : ObAt K F H a o) : H a ≠ none := by
  cases o with
  | ml ds => obtain ⟨vs, e, _⟩ := h; rw [e]; simp
  | md ks ds => obtain ⟨vs, e, _⟩ := h; rw [e]; simp
  | mu ks ds => obtain ⟨vs, e, _⟩ := h; rw [e]; simp
  | ins C fs => obtain ⟨dx, vs, e, _⟩ := h; rw [e]; simp
  | lk u ks ds => rw [h.1]; simp
  | lku u ks ds => rw [h.1]; simp
theorem ObAt.mono {o : Ob} (h : ObAt K F H a o) (e : Ext F F') (k : H' a = H a) : ObAt K F' H' a o := by
  cases o with
  | ml ds => obtain ⟨vs, q, r⟩ := h; exact ⟨vs, k.trans q, r.mono e⟩
  | md ks ds => obtain ⟨vs, q, z, r⟩ := h; exact ⟨vs, k.trans q, z, r.mono e⟩
  | mu ks ds => obtain ⟨vs, q, z, r⟩ := h; exact ⟨vs, k.trans q, z, r.mono e⟩
  | ins C fs => obtain ⟨dx, vs, q, z, r⟩ := h; exact ⟨dx, vs, k.trans q, z, r.mono e⟩
  | lk u ks ds => obtain ⟨h1, od, kvs, q, z, r⟩ := h; exact ⟨k.trans h1, od, kvs, q, z, r.mono e⟩
  | lku u ks ds => obtain ⟨h1, od, kvs, q, z, r⟩ := h; exact ⟨k.trans h1, od, kvs, q, z, r.mono e⟩
theorem OwAt.there {d : D} (h : OwAt K F H a d) : H a ≠ none := by
  cases d with
  | lst ds => obtain ⟨vs, e, _⟩ := h; rw [e]; simp
  | dct ks ds => obtain ⟨vs, e, _⟩ := h; rw [e]; simp
  | dcu ks ds => obtain ⟨vs, e, _⟩ := h; rw [e]; simp
  | _ => exact h.elim
theorem OwAt.mono {d : D} (h : OwAt K F H a d) (e : Ext F F') (k : H' a = H a) : OwAt K F' H' a d := by
  cases d with
  | lst ds => obtain ⟨vs, q, r⟩ := h; exact ⟨vs, k.trans q, r.mono e⟩
  | dct ks ds => obtain ⟨vs, q, z, r⟩ := h; exact ⟨vs, k.trans q, z, r.mono e⟩
  | dcu ks ds => obtain ⟨vs, q, z, r⟩ := h; exact ⟨vs, k.trans q, z, r.mono e⟩
  | _ => exact h.elim
/-- an owned container, frozen -/
theorem OwAt.rep {d : D} {o : HO} (h : OwAt K F H a d) (ho : H a = some o) (hn : F a = none) : Rep K (upd F a o) (.ref a) d := by
  cases d with
  | lst ds =>
    obtain ⟨vs, q, r⟩ := h
    rw [ho] at q; cases q
    exact .lst upd_same (r.mono (.new hn))
  | dct ks ds =>
    obtain ⟨vs, q, z, r⟩ := h
    rw [ho] at q; cases q
    exact .dct upd_same z (r.mono (.new hn))
  | dcu ks ds =>
    obtain ⟨vs, q, z, r⟩ := h
    rw [ho] at q; cases q
    exact .dcu upd_same z (r.mono (.new hn))
  | _ => exact h.elim
end

def TupO (x : Option HO) : Prop := ∃ vs, x = some (.tup vs)
theorem TupO.upd {H : Hp} {p b : Addr} {o : HO} {F : Hp} (h : F b = none ∨ TupO (H b)) (hp : F p = none) : F b = none ∨ TupO (upd H p o b) := by
  by_cases e : b = p
  · subst e; exact .inl hp
  · rw [upd_ne e]; exact h
theorem TupO.ob {K : PySem.W.Frag} {F H : Hp} {a : Addr} {o : Ob} (h : ObAt K F H a o) : ¬ TupO (H a) := by
  rintro ⟨ws, e⟩
  cases o with
  | ml ds => obtain ⟨vs, q, _⟩ := h; rw [e] at q; cases q
  | md ks ds => obtain ⟨vs, q, _⟩ := h; rw [e] at q; cases q
  | mu ks ds => obtain ⟨vs, q, _⟩ := h; rw [e] at q; cases q
  | ins C fs => obtain ⟨dx, vs, q, _⟩ := h; rw [e] at q; cases q
  | lk u ks ds => obtain ⟨h1, od, kvs, q, _⟩ := h; rw [e, q] at h1; cases h1
  | lku u ks ds => obtain ⟨h1, od, kvs, q, _⟩ := h; rw [e, q] at h1; cases h1
theorem TupO.ow {K : PySem.W.Frag} {F H : Hp} {a : Addr} {d : D} (h : OwAt K F H a d) : ¬ TupO (H a) := by
  rintro ⟨ws, e⟩
  cases d with
  | lst ds => obtain ⟨vs, q, _⟩ := h; rw [e] at q; cases q
  | dct ks ds => obtain ⟨vs, q, _⟩ := h; rw [e] at q; cases q
  | dcu ks ds => obtain ⟨vs, q, _⟩ := h; rw [e] at q; cases q
  | _ => exact h.elim
/-- what has grown since the entry -/
structure Gr (K : PySem.W.Frag) (E : En) (F H : Hp) (h : Oh) : Prop where
  ext : Ext F H
  gF : Ext E.F F
  gN : ∀ b, E.F b = none → E.H b ≠ none → ¬ E.ow b → F b = none ∨ TupO (H b)
  gH : ∀ b o, E.H b = some o → E.h b = none → ¬ E.ow b → H b = some o
  gP : ∀ b, E.H b ≠ none → H b ≠ none
  gO : ∀ a, h a ≠ none → E.h a ≠ none ∨ E.H a = none ∨ E.ow a
  obs : ∀ a ob, h a = some ob → ObAt K F H a ob ∧ F a = none

structure Rel (K : PySem.W.Frag) (E : En) (F H : Hp) (σ : L2.St) (S : Sg) : Prop where
  g : Gr K E F H S.h
  len : S.s.length = σ.length
  frz : ∀ (i : Nat) (d : D), S.s[i]? = some (.f d) → ∃ v, σ[i]? = some (some v) ∧ Rep K F v d
  own : ∀ (i : Nat) (d : D), S.s[i]? = some (.o d) → ∃ p, σ[i]? = some (some (.ref p)) ∧ OwAt K F H p d ∧ F p = none ∧ S.h p = none ∧ (E.H p = none ∨ E.ow p)
  inj : ∀ (i j : Nat) (d e : D) (p : Addr), S.s[i]? = some (.o d) → S.s[j]? = some (.o e) → σ[i]? = some (some (.ref p)) → σ[j]? = some (some (.ref p)) → i = j

/-- a fresh container that no name owns -/
structure Fresh (K : PySem.W.Frag) (E : En) (F H : Hp) (σ : L2.St) (S : Sg) (p : Addr) (d : D) : Prop where
  at_ : OwAt K F H p d
  nF : F p = none
  nh : S.h p = none
  nE : E.H p = none
  no : ∀ (i : Nat) (e : D), S.s[i]? = some (.o e) → σ[i]? ≠ some (some (.ref p))

section
variable {K : PySem.W.Frag} {E : En} {F F' H H' : Hp} {σ : L2.St} {S : Sg} {p : Addr} {o : HO}
theorem Gr.noF (g : Gr K E F H S.h) (hp : H p = none) : F p = none := by
  cases e : F p with
  | none => rfl
  | some x => rw [g.ext _ _ e] at hp; cases hp
theorem Gr.free (g : Gr K E F H S.h) (hp : H p = none) : E.H p = none := by
  cases e : E.H p with
  | none => rfl
  | some x => exact absurd hp (g.gP p (by rw [e]; simp))
theorem Gr.noob (g : Gr K E F H S.h) (hp : H p = none) : S.h p = none := by
  cases e : S.h p with
  | none => rfl
  | some x => exact absurd hp (g.obs _ _ e).1.there
/-- a new frozen object -/
theorem Rel.fz (R : Rel K E F H σ S) (hp : H p = none) : Rel K E (upd F p o) (upd H p o) σ S := by
  have nF : F p = none := R.g.noF hp
  have nE : E.H p = none := R.g.free hp
  have x : Ext F (upd F p o) := .new nF
  have ne : ∀ b, H b ≠ none → b ≠ p := fun b hb z => hb (z ▸ hp)
  refine ⟨⟨fun b u e => ?_, R.g.gF.trans x, fun b h1 h2 h3 => ?_, fun b u h1 h2 h3 => ?_, fun b h1 => ?_, R.g.gO, fun a ob e => ?_⟩, R.len, fun i d e => ?_, fun i d e => ?_, R.inj⟩
  · by_cases hb : b = p
    · subst hb; rw [upd_same] at e ⊢; exact e
    · rw [upd_ne hb] at e ⊢; exact R.g.ext _ _ e
  · have nb := ne b (R.g.gP b h2)
    rw [upd_ne nb, upd_ne nb]; exact R.g.gN b h1 h2 h3
  · have := R.g.gH b u h1 h2 h3
    rw [upd_ne (ne b (by rw [this]; simp))]; exact this
  · by_cases hb : b = p
    · subst hb; rw [upd_same]; simp
    · rw [upd_ne hb]; exact R.g.gP b h1
  · obtain ⟨h1, h2⟩ := R.g.obs a ob e
    have na := ne a h1.there
    exact ⟨h1.mono x (upd_ne na), by rw [upd_ne na]; exact h2⟩
  · obtain ⟨v, h1, h2⟩ := R.frz i d e
    exact ⟨v, h1, h2.mono x⟩
  · obtain ⟨q, h1, h2, h3, h4, h5⟩ := R.own i d e
    have nq := ne q h2.there
    exact ⟨q, h1, h2.mono x (upd_ne nq), by rw [upd_ne nq]; exact h3, h4, h5⟩
/-- a new container that nobody owns -/
theorem Rel.fresh (R : Rel K E F H σ S) (hp : H p = none) : Rel K E F (upd H p o) σ S ∧ F p = none ∧ S.h p = none ∧ E.H p = none ∧ ∀ (i : Nat) (e : D), S.s[i]? = some (.o e) → σ[i]? ≠ some (some (.ref p)) := by
  have nF : F p = none := R.g.noF hp
  have nE : E.H p = none := R.g.free hp
  have ne : ∀ b, H b ≠ none → b ≠ p := fun b hb z => hb (z ▸ hp)
  refine ⟨⟨⟨fun b u e => ?_, R.g.gF, fun b h1 h2 h3 => TupO.upd (R.g.gN b h1 h2 h3) nF, fun b u h1 h2 h3 => ?_, fun b h1 => ?_, R.g.gO, fun a ob e => ?_⟩, R.len, R.frz, fun i d e => ?_, R.inj⟩, nF, R.g.noob hp, nE, fun i e h1 h2 => ?_⟩
  · have := R.g.ext _ _ e
    rw [upd_ne (ne b (by rw [this]; simp))]; exact this
  · have := R.g.gH b u h1 h2 h3
    rw [upd_ne (ne b (by rw [this]; simp))]; exact this
  · by_cases hb : b = p
    · subst hb; rw [upd_same]; simp
    · rw [upd_ne hb]; exact R.g.gP b h1
  · obtain ⟨h1, h2⟩ := R.g.obs a ob e
    have na := ne a h1.there
    exact ⟨h1.mono (.refl _) (upd_ne na), h2⟩
  · obtain ⟨q, h1, h2, h3, h4, h5⟩ := R.own i d e
    have nq := ne q h2.there
    exact ⟨q, h1, h2.mono (.refl _) (upd_ne nq), h3, h4, h5⟩
  · obtain ⟨q, h3, h4, _⟩ := R.own i e h1
    rw [h2] at h3
    cases h3
    exact h4.there hp
/-- a fresh container is frozen -/
theorem Rel.freezeN {d : D} (R : Rel K E F H σ S) (f : Fresh K E F H σ S p d) (ho : H p = some o) : Rel K E (upd F p o) H σ S := by
  have x : Ext F (upd F p o) := .new f.nF
  refine ⟨⟨fun b u e => ?_, R.g.gF.trans x, fun b h1 h2 h3 => ?_, R.g.gH, R.g.gP, R.g.gO, fun a ob e => ?_⟩, R.len, fun i d e => ?_, fun i d e => ?_, R.inj⟩
  · by_cases hb : b = p
    · subst hb; rw [upd_same] at e; cases e; exact ho
    · rw [upd_ne hb] at e; exact R.g.ext _ _ e
  · have : b ≠ p := fun z => h2 (z ▸ f.nE)
    rw [upd_ne this]; exact R.g.gN b h1 h2 h3
  · obtain ⟨h1, h2⟩ := R.g.obs a ob e
    have na : a ≠ p := fun z => by rw [z, f.nh] at e; cases e
    exact ⟨h1.mono x rfl, by rw [upd_ne na]; exact h2⟩
  · obtain ⟨v, h1, h2⟩ := R.frz i d e
    exact ⟨v, h1, h2.mono x⟩
  · obtain ⟨q, h1, h2, h3, h4, h5⟩ := R.own i d e
    have nq : q ≠ p := fun z => f.no i d e (z ▸ h1)
    exact ⟨q, h1, h2.mono x rfl, by rw [upd_ne nq]; exact h3, h4, h5⟩
end

/-- new frozen objects, nothing else -/
structure Al (F H F' H' : Hp) : Prop where
  xF : Ext F F'
  xH : Ext H H'
  new : ∀ b, F b = none → H b ≠ none → F' b = none ∨ TupO (H b)
  ext : Ext F' H'
section
variable {K : PySem.W.Frag} {E : En} {F F' F2 H H' H2 : Hp} {σ σ' : L2.St} {S : Sg} {p : Addr} {o : HO} {d : D} {v : V} {i : Nat}
theorem Al.refl (e : Ext F H) : Al F H F H := ⟨.refl _, .refl _, fun _ h _ => .inl h, e⟩
theorem Al.one (e : Ext F H) (hp : H p = none) : Al F H (upd F p o) (upd H p o) := by
  have nF : F p = none := by
    cases q : F p with
    | none => rfl
    | some x => rw [e _ _ q] at hp; cases hp
  refine ⟨.new nF, .new hp, fun b h1 h2 => ?_, fun b u h => ?_⟩
  · rw [upd_ne (fun z => h2 (by rw [z]; exact hp))]; exact .inl h1
  · by_cases hb : b = p
    · subst hb; rw [upd_same] at h ⊢; exact h
    · rw [upd_ne hb] at h ⊢; exact e _ _ h
theorem Ext.ne {F H : Hp} (e : Ext F H) {b : Addr} (h : F b ≠ none) : H b = F b := by
  cases q : F b with
  | none => exact absurd q h
  | some x => exact e _ _ q
theorem Al.trans (a : Al F H F' H') (b : Al F' H' F2 H2) : Al F H F2 H2 :=
  ⟨a.xF.trans b.xF, a.xH.trans b.xH, fun c h1 h2 => (a.new c h1 h2).elim (fun q => by have z := b.new c q (by rw [a.xH.ne h2]; exact h2); rwa [a.xH.ne h2] at z) .inr, b.ext⟩
theorem Rel.al (R : Rel K E F H σ S) (a : Al F H F' H') : Rel K E F' H' σ S := by
  refine ⟨⟨a.ext, R.g.gF.trans a.xF, fun b h1 h2 h3 => by
    have hb := R.g.gP b h2
    rw [a.xH.ne hb]
    exact (R.g.gN b h1 h2 h3).elim (fun q => a.new b q hb) .inr, fun b u h1 h2 h3 => a.xH _ _ (R.g.gH b u h1 h2 h3), fun b h1 => ?_, R.g.gO, fun q ob e => ?_⟩, R.len, fun i d e => ?_, fun i d e => ?_, R.inj⟩
  · have := R.g.gP b h1
    rw [a.xH.ne this]; exact this
  · obtain ⟨h1, h2⟩ := R.g.obs q ob e
    exact ⟨h1.mono a.xF (a.xH.ne h1.there), (a.new q h2 h1.there).elim id fun z => (TupO.ob h1 z).elim⟩
  · obtain ⟨v, h1, h2⟩ := R.frz i d e
    exact ⟨v, h1, h2.mono a.xF⟩
  · obtain ⟨q, h1, h2, h3, h4, h5⟩ := R.own i d e
    exact ⟨q, h1, h2.mono a.xF (a.xH.ne h2.there), (a.new q h3 h2.there).elim id fun z => (TupO.ow h2 z).elim, h4, h5⟩
def Sg.st (S : Sg) (i : Nat) (x : Sl) : Sg := ⟨S.s.set i x, S.h⟩
theorem ix_lt {α : Type} {l : List α} {i : Nat} {x : α} (h : l[i]? = some x) : i < l.length := (List.getElem?_eq_some_iff.mp h).1
theorem set_get {α : Type} {l : List α} {i j : Nat} {x y : α} (h : (l.set i x)[j]? = some y) : (j = i ∧ x = y ∧ i < l.length) ∨ (j ≠ i ∧ l[j]? = some y) := by
  by_cases e : j = i
  · subst e
    have hl : j < l.length := by simpa using ix_lt h
    rw [List.getElem?_set_self hl] at h
    exact .inl ⟨rfl, Option.some.inj h, hl⟩
  · rw [List.getElem?_set_ne (Ne.symm e)] at h
    exact .inr ⟨e, h⟩
/-- a name gets a frozen value -/
theorem Rel.set (R : Rel K E F H σ S) (r : Rep K F v d) : Rel K E F H (σ.set i (some v)) (S.st i (.f d)) := by
  refine ⟨R.g, by show (S.s.set i _).length = _; rw [List.length_set, List.length_set]; exact R.len, fun j e h => ?_, fun j e h => ?_, fun j l e e' p h1 h2 h3 h4 => ?_⟩
  · rcases set_get h with ⟨rfl, h, hl⟩ | ⟨n, h⟩
    · cases h
      exact ⟨v, List.getElem?_set_self (R.len ▸ hl), r⟩
    · obtain ⟨u, h1, h2⟩ := R.frz j e h
      exact ⟨u, by rw [List.getElem?_set_ne (Ne.symm n)]; exact h1, h2⟩
  · rcases set_get h with ⟨rfl, h, hl⟩ | ⟨n, h⟩
    · cases h
    · obtain ⟨u, h1, h2⟩ := R.own j e h
      exact ⟨u, by rw [List.getElem?_set_ne (Ne.symm n)]; exact h1, h2⟩
  · rcases set_get h1 with ⟨_, h, _⟩ | ⟨n1, g1⟩
    · cases h
    rcases set_get h2 with ⟨_, h, _⟩ | ⟨n2, g2⟩
    · cases h
    rw [List.getElem?_set_ne (Ne.symm n1)] at h3
    rw [List.getElem?_set_ne (Ne.symm n2)] at h4
    exact R.inj j l e e' p g1 g2 h3 h4
/-- a name gets a fresh container -/
theorem Rel.setO (R : Rel K E F H σ S) (f : Fresh K E F H σ S p d) : Rel K E F H (σ.set i (some (.ref p))) (S.st i (.o d)) := by
  refine ⟨R.g, by show (S.s.set i _).length = _; rw [List.length_set, List.length_set]; exact R.len, fun j e h => ?_, fun j e h => ?_, fun j l e e' q h1 h2 h3 h4 => ?_⟩
  · rcases set_get h with ⟨rfl, h, hl⟩ | ⟨n, h⟩
    · cases h
    · obtain ⟨u, h1, h2⟩ := R.frz j e h
      exact ⟨u, by rw [List.getElem?_set_ne (Ne.symm n)]; exact h1, h2⟩
  · rcases set_get h with ⟨rfl, h, hl⟩ | ⟨n, h⟩
    · cases h
      exact ⟨p, List.getElem?_set_self (R.len ▸ hl), f.at_, f.nF, f.nh, .inl f.nE⟩
    · obtain ⟨u, h1, h2⟩ := R.own j e h
      exact ⟨u, by rw [List.getElem?_set_ne (Ne.symm n)]; exact h1, h2⟩
  · rcases set_get h1 with ⟨e1, h, l1⟩ | ⟨n1, g1⟩
    · rcases set_get h2 with ⟨e2, h', _⟩ | ⟨n2, g2⟩
      · exact e1.trans e2.symm
      · subst e1
        rw [List.getElem?_set_self (R.len ▸ l1)] at h3
        rw [List.getElem?_set_ne (Ne.symm n2)] at h4
        cases h3
        exact absurd h4 (f.no l e' g2)
    · rw [List.getElem?_set_ne (Ne.symm n1)] at h3
      rcases set_get h2 with ⟨e2, h', l2⟩ | ⟨n2, g2⟩
      · subst e2
        rw [List.getElem?_set_self (R.len ▸ l2)] at h4
        cases h4
        exact absurd h3 (f.no j e g1)
      · rw [List.getElem?_set_ne (Ne.symm n2)] at h4
        exact R.inj j l e e' q g1 g2 h3 h4
/-- a name's own container is frozen -/
theorem Rel.freeze (R : Rel K E F H σ S) (hi : S.s[i]? = some (.o d)) : ∃ p F', σ[i]? = some (some (.ref p)) ∧ Rep K F' (.ref p) d ∧ Ext F F' ∧ Rel K E F' H σ (S.st i (.f d)) := by
  obtain ⟨p, h1, h2, h3, h4, h5⟩ := R.own i d hi
  obtain ⟨o, ho⟩ := Option.ne_none_iff_exists'.mp h2.there
  have x : Ext F (upd F p o) := .new h3
  have rp := h2.rep ho h3
  refine ⟨p, upd F p o, h1, rp, x, ⟨⟨fun b u e => ?_, R.g.gF.trans x, fun b q1 q2 q3 => ?_, R.g.gH, R.g.gP, R.g.gO, fun a ob e => ?_⟩, by show (S.s.set i _).length = _; rw [List.length_set]; exact R.len, fun j e h => ?_, fun j e h => ?_, fun j l e e' q q1 q2 q3 q4 => ?_⟩⟩
  · by_cases hb : b = p
    · subst hb; rw [upd_same] at e; cases e; exact ho
    · rw [upd_ne hb] at e; exact R.g.ext _ _ e
  · have : b ≠ p := fun z => by
      subst z
      rcases h5 with h5 | h5
      · exact q2 h5
      · exact q3 h5
    rw [upd_ne this]; exact R.g.gN b q1 q2 q3
  · obtain ⟨q1, q2⟩ := R.g.obs a ob e
    have na : a ≠ p := fun z => by have e' : S.h a = some ob := e; rw [z, h4] at e'; cases e'
    exact ⟨q1.mono x rfl, by rw [upd_ne na]; exact q2⟩
  · rcases set_get h with ⟨rfl, h, hl⟩ | ⟨n, h⟩
    · cases h
      exact ⟨_, h1, rp⟩
    · obtain ⟨u, q1, q2⟩ := R.frz j e h
      exact ⟨u, q1, q2.mono x⟩
  · rcases set_get h with ⟨rfl, h, hl⟩ | ⟨n, h⟩
    · cases h
    · obtain ⟨u, q1, q2, q3, q4, q5⟩ := R.own j e h
      have nu : u ≠ p := fun z => n (R.inj j i e d p h hi (z ▸ q1) h1)
      exact ⟨u, q1, q2.mono x rfl, by rw [upd_ne nu]; exact q3, q4, q5⟩
  · rcases set_get q1 with ⟨_, h, _⟩ | ⟨n1, g1⟩
    · cases h
    rcases set_get q2 with ⟨_, h, _⟩ | ⟨n2, g2⟩
    · cases h
    exact R.inj j l e e' q g1 g2 q3 q4
/-- a name's own container changes -/
theorem Rel.mut {e : D} (R : Rel K E F H σ S) (hi : S.s[i]? = some (.o d)) (hp : σ[i]? = some (some (.ref p))) (ha : OwAt K F (upd H p o) p e) : Rel K E F (upd H p o) σ (S.st i (.o e)) := by
  obtain ⟨p', h1, h2, h3, h4, h5⟩ := R.own i d hi
  rw [hp] at h1
  cases h1
  have ne : ∀ b, F b ≠ none → b ≠ p := fun b hb z => hb (z ▸ h3)
  refine ⟨⟨fun b u q => ?_, R.g.gF, fun b q1 q2 q3 => TupO.upd (R.g.gN b q1 q2 q3) h3, fun b u q1 q2 q3 => ?_, fun b q => ?_, R.g.gO, fun a ob q => ?_⟩, by show (S.s.set i _).length = _; rw [List.length_set]; exact R.len, fun j e' h => ?_, fun j e' h => ?_, fun j l x y q q1 q2 q3 q4 => ?_⟩
  · rw [upd_ne (ne b (by rw [q]; simp))]; exact R.g.ext _ _ q
  · have : b ≠ p := fun z => by
      subst z
      rcases h5 with h5 | h5
      · rw [h5] at q1; cases q1
      · exact q3 h5
    rw [upd_ne this]; exact R.g.gH b u q1 q2 q3
  · by_cases hb : b = p
    · subst hb; rw [upd_same]; simp
    · rw [upd_ne hb]; exact R.g.gP b q
  · obtain ⟨q1, q2⟩ := R.g.obs a ob q
    have na : a ≠ p := fun z => by have e' : S.h a = some ob := q; rw [z, h4] at e'; cases e'
    exact ⟨q1.mono (.refl _) (upd_ne na), q2⟩
  · rcases set_get h with ⟨rfl, h, hl⟩ | ⟨n, h⟩
    · cases h
    · exact R.frz j e' h
  · rcases set_get h with ⟨rfl, h, hl⟩ | ⟨n, h⟩
    · cases h
      exact ⟨p, hp, ha, h3, h4, h5⟩
    · obtain ⟨u, q1, q2, q3, q4, q5⟩ := R.own j e' h
      have nu : u ≠ p := fun z => n (R.inj j i e' d p h hi (z ▸ q1) hp)
      exact ⟨u, q1, q2.mono (.refl _) (upd_ne nu), q3, q4, q5⟩
  · have get : ∀ (j : Nat) (x : D), (S.s.set i (.o e))[j]? = some (.o x) → ∃ x', S.s[j]? = some (.o x') := fun j x h => by
      rcases set_get h with ⟨rfl, _, _⟩ | ⟨_, h⟩
      · exact ⟨d, hi⟩
      · exact ⟨x, h⟩
    obtain ⟨x', z1⟩ := get j x q1
    obtain ⟨y', z2⟩ := get l y q2
    exact R.inj j l x' y' q z1 z2 q3 q4
def Sg.ob (S : Sg) (a : Addr) (o : Ob) : Sg := ⟨S.s, S.h.put a o⟩
/-- a known object changes -/
theorem Rel.obput {u : Ob} {a : Addr} (R : Rel K E F H σ S) (hu : S.h a ≠ none) (ha : ObAt K F (upd H a o) a u) : Rel K E F (upd H a o) σ (S.ob a u) := by
  obtain ⟨w, hw⟩ := Option.ne_none_iff_exists'.mp hu
  obtain ⟨h1, h2⟩ := R.g.obs a w hw
  have ne : ∀ b, F b ≠ none → b ≠ a := fun b hb z => hb (z ▸ h2)
  refine ⟨⟨fun b u q => ?_, R.g.gF, fun b q1 q2 q3 => TupO.upd (R.g.gN b q1 q2 q3) h2, fun b u q1 q2 q3 => ?_, fun b q => ?_, fun b q => ?_, fun b ob q => ?_⟩, R.len, R.frz, fun j e' h => ?_, R.inj⟩
  · rw [upd_ne (ne b (by rw [q]; simp))]; exact R.g.ext _ _ q
  · have : b ≠ a := fun z => by
      subst z
      rcases R.g.gO b hu with h | h | h
      · exact h q2
      · rw [h] at q1; cases q1
      · exact q3 h
    rw [upd_ne this]; exact R.g.gH b u q1 q2 q3
  · by_cases hb : b = a
    · subst hb; rw [upd_same]; simp
    · rw [upd_ne hb]; exact R.g.gP b q
  · by_cases hb : b = a
    · subst hb; exact R.g.gO b hu
    · have q' : S.h.put a u b ≠ none := q
      rw [Oh.put_ne hb] at q'; exact R.g.gO b q'
  · by_cases hb : b = a
    · subst hb
      have q' : S.h.put b u b = some ob := q
      rw [Oh.put_same] at q'; cases q'
      exact ⟨ha, h2⟩
    · have q' : S.h.put a u b = some ob := q
      rw [Oh.put_ne hb] at q'
      obtain ⟨q1, q2⟩ := R.g.obs b ob q'
      exact ⟨q1.mono (.refl _) (upd_ne hb), q2⟩
  · obtain ⟨q, q1, q2, q3, q4, q5⟩ := R.own j e' h
    have nq : q ≠ a := fun z => hu (z ▸ q4)
    exact ⟨q, q1, q2.mono (.refl _) (upd_ne nq), q3, by show S.h.put a u q = none; rw [Oh.put_ne nq]; exact q4, q5⟩
/-- a fresh container becomes a known object -/
theorem Rel.obnew {u : Ob} (R : Rel K E F H σ S) (f : Fresh K E F H σ S p d) (ha : ObAt K F H p u) : Rel K E F H σ (S.ob p u) := by
  refine ⟨⟨R.g.ext, R.g.gF, R.g.gN, R.g.gH, R.g.gP, fun b q => ?_, fun b ob q => ?_⟩, R.len, R.frz, fun j e' h => ?_, R.inj⟩
  · by_cases hb : b = p
    · subst hb; exact .inr (.inl f.nE)
    · have q' : S.h.put p u b ≠ none := q
      rw [Oh.put_ne hb] at q'; exact R.g.gO b q'
  · have q' : S.h.put p u b = some ob := q
    by_cases hb : b = p
    · subst hb
      rw [Oh.put_same] at q'; cases q'
      exact ⟨ha, f.nF⟩
    · rw [Oh.put_ne hb] at q'
      exact R.g.obs b ob q'
  · obtain ⟨q, q1, q2, q3, q4, q5⟩ := R.own j e' h
    have nq : q ≠ p := fun z => f.no j e' h (z ▸ q1)
    exact ⟨q, q1, q2, q3, by show S.h.put p u q = none; rw [Oh.put_ne nq]; exact q4, q5⟩
/-- what the names own, as the entry of a part -/
def owns (σ : L2.St) (S : Sg) : Addr → Prop := fun p => ∃ (i : Nat) (d : D), S.s[i]? = some (.o d) ∧ σ[i]? = some (some (.ref p))
theorem Rel.ownE (R : Rel K E F H σ S) {p : Addr} (h : owns σ S p) : E.H p = none ∨ E.ow p := by
  obtain ⟨i, d, h1, h2⟩ := h
  obtain ⟨q, h3, _, _, _, h5⟩ := R.own i d h1
  rw [h2] at h3; cases h3
  exact h5
theorem Gr.then {h h2 : Oh} {ow : Addr → Prop} (g : Gr K E F H h) (ho : ∀ p, ow p → E.H p = none ∨ E.ow p) (g2 : Gr K ⟨F, H, h, ow⟩ F2 H2 h2) : Gr K E F2 H2 h2 := by
  have now : ∀ b, E.H b ≠ none → ¬ E.ow b → ¬ ow b := fun b h1 h2 h3 => (ho b h3).elim h1 h2
  have nh : ∀ b, E.H b ≠ none → E.h b = none → ¬ E.ow b → h b = none := fun b h1 h2 h3 => by
    cases q : h b with
    | none => rfl
    | some x =>
      rcases g.gO b (by rw [q]; simp) with z | z | z
      · exact (z h2).elim
      · exact (h1 z).elim
      · exact (h3 z).elim
  refine ⟨g2.ext, g.gF.trans g2.gF, fun b h1 h2 h3 => (g.gN b h1 h2 h3).elim (fun q => g2.gN b q (g.gP b h2) (now b h2 h3)) fun ⟨vs, q⟩ => .inr ⟨vs, g2.gH b _ q (by
    show h b = none
    cases z : h b with
    | none => rfl
    | some x => exact (TupO.ob (g.obs b x z).1 ⟨vs, q⟩).elim) (now b h2 h3)⟩, fun b o h1 h2 h3 => ?_, fun b h1 => g2.gP b (g.gP b h1), fun a h1 => ?_, g2.obs⟩
  · have hb : E.H b ≠ none := by rw [h1]; simp
    exact g2.gH b o (g.gH b o h1 h2 h3) (nh b hb h2 h3) (now b hb h3)
  · rcases g2.gO a h1 with q | q | q
    · exact g.gO a q
    · refine .inr (.inl ?_)
      cases z : E.H a with
      | none => rfl
      | some x => exact absurd q (g.gP a (by rw [z]; simp))
    · exact .inr (ho a q)
/-- the same state, with itself as the entry -/
theorem Rel.enter (R : Rel K E F H σ S) : Rel K ⟨F, H, S.h, owns σ S⟩ F H σ S :=
  ⟨⟨R.g.ext, .refl _, fun _ h _ _ => .inl h, fun _ _ h _ _ => h, fun _ h => h, fun _ h => .inl h, R.g.obs⟩, R.len, R.frz,
    fun i d h => let ⟨p, h1, h2, h3, h4, _⟩ := R.own i d h; ⟨p, h1, h2, h3, h4, .inr ⟨i, d, h, h1⟩⟩, R.inj⟩
/-- .. and back to the old entry -/
theorem Rel.leave {σ' : L2.St} {S' : Sg} (R : Rel K E F H σ S) (R2 : Rel K ⟨F, H, S.h, owns σ S⟩ F' H' σ' S') : Rel K E F' H' σ' S' :=
  ⟨R.g.then (fun p hp => R.ownE hp) R2.g, R2.len, R2.frz, fun i d h => let ⟨p, h1, h2, h3, h4, h5⟩ := R2.own i d h; ⟨p, h1, h2, h3, h4, h5.elim (fun z => .inl (R.g.free z)) fun z => R.ownE z⟩, R2.inj⟩
end
end VL

set_option Elab.async false
set_option linter.all false
set_option maxRecDepth 100000
set_option maxHeartbeats 4000000
/-! VL2: readings over plain data: expressions, tests, arguments, iterables, targets, statements, defs. -/
namespace VL
open PySem PySem.Spec L2

abbrev WE := Sg → (D → Sg → Prop) → Prop
abbrev WT := Sg → (Bool → Sg → Prop) → Prop
abbrev WA := Sg → (List D → Sg → Prop) → Prop
abbrev WG := D → Sg → (Sg → Prop) → Prop
structure We where
  nx : Sg → Prop
  rt : D → Sg → Prop
  bk : Sg → Prop := fun _ => False
  ct : Sg → Prop := fun _ => False
  xx : Str → List (Str × D) → Sg → Prop := fun _ _ _ => False
abbrev WS := We → Sg → Prop
/-- an exception: the address of its class, its fields; the objects behind it -/
abbrev XC := Str → List (Str × D) → Oh → Prop
abbrev Spc := List D → Oh → (D → Oh → Prop) → XC → Prop

/-- a test: two ways -/
@[irreducible] def Br (b : Bool) (p q : Prop) : Prop := if b = true then p else q
theorem br_t {p q : Prop} (h : Br true p q) : p := by unfold Br at h; exact h
theorem br_f {p q : Prop} (h : Br false p q) : q := by unfold Br at h; exact h
theorem br {b : Bool} {p q : Prop} (h1 : b = true → p) (h2 : b = false → q) : Br b p q := by
  unfold Br
  cases b with
  | true => exact h1 rfl
  | false => exact h2 rfl
theorem brT {b : Bool} {p q : Prop} (e : b = true) (h : p) : Br b p q := by subst e; unfold Br; exact h
theorem brF {b : Bool} {p q : Prop} (e : b = false) (h : q) : Br b p q := by subst e; unfold Br; exact h

section
variable (K : PySem.W.Frag) (E : En)
def LE (w : WE) : TE := fun σ H Q => ∃ S F R, Rel K E F H σ S ∧ w S R ∧ ∀ d S' v F' H', R d S' → Rep K F' v d → Rel K E F' H' σ S' → Ext F F' → Q v H'
/-- .. to a fresh container -/
def LN (w : WE) : TE := fun σ H Q => ∃ S F R, Rel K E F H σ S ∧ w S R ∧ ∀ d S' p F' H', R d S' → Fresh K E F' H' σ S' p d → Rel K E F' H' σ S' → Ext F F' → Q (.ref p) H'
def LT (w : WT) : TT := fun σ H Q => ∃ S F R, Rel K E F H σ S ∧ w S R ∧ ∀ b S' F' H', R b S' → Rel K E F' H' σ S' → Ext F F' → Q b H'
def LA (n : Nat) (w : WA) : TA := fun σ H Q => ∃ S F R, Rel K E F H σ S ∧ w S R ∧ ∀ ds S' vs F' H', R ds S' → ds.length = n → Reps K F' vs ds → Rel K E F' H' σ S' → Ext F F' → Q vs H'
def LG (g : WG) : TG := fun v σ H Q => ∃ S F d R, Rel K E F H σ S ∧ Rep K F v d ∧ g d S R ∧ ∀ S' σ' F' H', R S' → Rel K E F' H' σ' S' → Ext F F' → Q σ' H'
/-- an iterable gives these items -/
def Feeds (J : It) (F : Hp) (ds : List D) : Prop := ∀ F' H', Ext F F' → Ext F' H' →
  (∀ i d, ds[i]? = some d → J.go i H' ∧ ∀ x H3, J.yld i H' x H3 → ∃ F3, Al F' H' F3 H3 ∧ Rep K F3 x d) ∧ ∀ i, ds.length ≤ i → J.stop i H'
def LI (w : WA) : TI := fun σ H Rr => ∃ S F R, Rel K E F H σ S ∧ w S R ∧ ∀ ds S' J F' H', R ds S' → Feeds K J F' ds → Rel K E F' H' σ S' → Ext F F' → Rr J H'
def LS (W : L2.WX) (w : WS) : TS := fun D σ H => ∃ (S : Sg) (F : Hp) (R : We), Rel K E F H σ S ∧ w R S ∧
  (∀ S' σ' F' H', R.nx S' → Rel K E F' H' σ' S' → Ext F F' → D.nx σ' H') ∧ (∀ S' σ' F' H', R.bk S' → Rel K E F' H' σ' S' → Ext F F' → D.bk σ' H') ∧
  (∀ S' σ' F' H', R.ct S' → Rel K E F' H' σ' S' → Ext F F' → D.ct σ' H') ∧ (∀ d S' v σ' F' H', R.rt d S' → Rep K F' v d → Rel K E F' H' σ' S' → Ext F F' → D.rt v H') ∧ (∀ c fs S' cls dd σ' F' H', R.xx c fs S' → XAt K F' c fs cls dd → Rel K E F' H' σ' S' → W cls dd σ' H')
end

def DE (X : Cx) (Φ : En → Prop) (e : Expr) (w : WE) : Prop := ∀ E, Φ E → PE X e (LE X.K E w)
def DN (X : Cx) (Φ : En → Prop) (e : Expr) (w : WE) : Prop := ∀ E, Φ E → PE X e (LN X.K E w)
def DT (X : Cx) (Φ : En → Prop) (e : Expr) (w : WT) : Prop := ∀ E, Φ E → PT X e (LT X.K E w)
def DW (X : Cx) (Φ : En → Prop) (e : Expr) (w : WT) : Prop := ∀ E, Φ E → PW X e (LT X.K E w)
def DA (X : Cx) (Φ : En → Prop) (es : List Expr) (n : Nat) (w : WA) : Prop := ∀ E, Φ E → PA X es (LA X.K E n w)
def DG (X : Cx) (Φ : En → Prop) (e : Expr) (w : WG) : Prop := ∀ E, Φ E → PG X e (LG X.K E w)
def DI (X : Cx) (Φ : En → Prop) (tg e : Expr) (w : WA) : Prop := ∀ E, Φ E → PI X tg e (LI X.K E w)
abbrev Tr : En → Prop := fun _ => True
def DS (X : Cx) (W : L2.WX) (s : Stmt) (w : WS) : Prop := ∀ E, PS X s (LS X.K E W w)
def DSs (X : Cx) (W : L2.WX) (s : List Stmt) (w : WS) : Prop := ∀ E, PSs X s (LS X.K E W w)

/-! ### weakening -/
section
variable {X : Cx} {Φ : En → Prop} {e : Expr} {es : List Expr} {st : Stmt} {sts : List Stmt}
theorem PE.imp {t t' : TE} (h : PE X e t) (hi : ∀ σ H Q, t' σ H Q → t σ H Q) : PE X e t' := ⟨fun pins s σ H Q I q => h.run pins s σ H Q I (hi _ _ _ q)⟩
theorem PT.imp {t t' : TT} (h : PT X e t) (hi : ∀ σ H Q, t' σ H Q → t σ H Q) : PT X e t' := ⟨fun pins s σ H Q I q => h.run pins s σ H Q I (hi _ _ _ q)⟩
theorem PW.imp {t t' : TT} (h : PW X e t) (hi : ∀ σ H Q, t' σ H Q → t σ H Q) : PW X e t' := ⟨fun wh pins s σ H Q I q => h.run wh pins s σ H Q I (hi _ _ _ q)⟩
theorem PA.imp {t t' : TA} (h : PA X es t) (hi : ∀ σ H Q, t' σ H Q → t σ H Q) : PA X es t' := ⟨fun pos pins s σ H Q I q => h.run pos pins s σ H Q I (hi _ _ _ q)⟩
theorem PG.imp {t t' : TG} (h : PG X e t) (hi : ∀ v σ H Q, t' v σ H Q → t v σ H Q) : PG X e t' := ⟨fun pins s σ H v u Q I r q => h.run pins s σ H v u Q I r (hi _ _ _ _ q)⟩
theorem PI.imp {tg : Expr} {t t' : TI} (h : PI X tg e t) (hi : ∀ σ H Q, t' σ H Q → t σ H Q) : PI X tg e t' := ⟨fun pins s σ H Q I q => h.run pins s σ H Q I (hi _ _ _ q)⟩
theorem PS.imp {t t' : TS} (h : PS X st t) (hi : ∀ D σ H, t' D σ H → t D σ H) : PS X st t' := ⟨fun pins s σ H D I q => h.run pins s σ H D I (hi _ _ _ q)⟩
theorem PSs.imp {t t' : TS} (h : PSs X sts t) (hi : ∀ D σ H, t' D σ H → t D σ H) : PSs X sts t' := ⟨fun pins s σ H D I q => h.run pins s σ H D I (hi _ _ _ q)⟩
theorem OpR.any {f : Value → Value → Sem Value} {r : R2} (h : ∀ x y H Q, r x y H Q → ∃ r', OpR X f r' ∧ r' x y H Q) : OpR X f r := fun pins s σ H x y v u Q I rx ry q =>
  let ⟨_, ho, q'⟩ := h x y H Q q
  ho pins s σ H x y v u Q I rx ry q'
theorem CallR.any {f : Value} {r : List V → Hp → VK → Prop} (h : ∀ xs H Q, r xs H Q → ∃ r', CallR X f r' ∧ r' xs H Q) : CallR X f r := fun pins s σ H xs us Q I rx q =>
  let ⟨_, ho, q'⟩ := h xs H Q q
  ho pins s σ H xs us Q I rx q'
theorem IxR.any {r : R2} (h : ∀ x y H Q, r x y H Q → ∃ r', IxR X r' ∧ r' x y H Q) : IxR X r := fun a b pins s σ H x y v u Q I rx ry q e =>
  let ⟨_, ho, q'⟩ := h x y H Q q
  ho a b pins s σ H x y v u Q I rx ry q' e
theorem MtR.any {id : String} {r : V → List V → Hp → VK → Prop} (h : ∀ x xs H Q, r x xs H Q → ∃ r', MtR X id r' ∧ r' x xs H Q) : MtR X id r := fun pins s σ H x xs v us Q I rx rs q =>
  let ⟨_, ho, q'⟩ := h x xs H Q q
  ho pins s σ H x xs v us Q I rx rs q'
theorem UnR.any {f : Value → Sem Value} {r : V → Hp → VK → Prop} (h : ∀ x H Q, r x H Q → ∃ r', UnR X f r' ∧ r' x H Q) : UnR X f r := fun pins s σ H x v Q I rx q =>
  let ⟨_, ho, q'⟩ := h x H Q q
  ho pins s σ H x v Q I rx q'
end

/-! ### names, constants, operators -/
def wVar (i : Nat) : WE := fun S R => match S.s[i]? with
  | some (.f d) => R d S
  | some (.o d) => R d (S.st i (.f d))
  | _ => False
def wC (d : D) : WE := fun S R => R d S
/-- a two-place operation on data: what it asks, what it gives -/
abbrev O2 := D → D → (D → Prop) → Prop
abbrev O1 := D → (D → Prop) → Prop
def wOp (g : O2) (wa wb : WE) : WE := fun S R => wa S fun x S1 => wb S1 fun y S2 => g x y fun z => R z S2
def wUn (g : O1) (wa : WE) : WE := fun S R => wa S fun x S1 => g x fun z => R z S1
def rV (K : PySem.W.Frag) (g : O2) : R2 := fun x y H Q => ∃ F d e R, Ext F H ∧ Rep K F x d ∧ Rep K F y e ∧ g d e R ∧ ∀ z v F' H', R z → Rep K F' v z → Al F H F' H' → Q v H'
def rV1 (K : PySem.W.Frag) (g : O1) : V → Hp → VK → Prop := fun x H Q => ∃ F d R, Ext F H ∧ Rep K F x d ∧ g d R ∧ ∀ z v F' H', R z → Rep K F' v z → Al F H F' H' → Q v H'
abbrev OpV (X : Cx) (f : Value → Value → Sem Value) (g : O2) : Prop := OpR X f (rV X.K g)
abbrev UnV (X : Cx) (f : Value → Sem Value) (g : O1) : Prop := UnR X f (rV1 X.K g)
section
variable {X : Cx} {Φ : En → Prop} {a b c : Expr} {wa wb wc : WE} {pos : Pos}
theorem de_var {x : Str} (i : Nat) (h : PE X (.Name x pos) (tVar i)) : DE X Φ (.Name x pos) (wVar i) := fun E hE => PE.imp h fun σ H Q => by
  rintro ⟨S, F, R, hR, hw, k⟩
  unfold wVar at hw
  split at hw
  · rename_i d hd
    obtain ⟨v, h1, h2⟩ := hR.frz i d hd
    exact ⟨v, h1, k d S v F H hw h2 hR (.refl _)⟩
  · rename_i d hd
    obtain ⟨p, F', h1, h2, h3, h4⟩ := hR.freeze hd
    exact ⟨_, h1, k d _ _ F' H hw h2 h4 h3⟩
  · exact hw.elim
theorem de_c {v : V} {d : D} (h : PE X a (tC v)) (r : ∀ F, Rep X.K F v d) : DE X Φ a (wC d) := fun E hE => PE.imp h fun σ H Q => by
  rintro ⟨S, F, R, hR, hw, k⟩
  exact k d S v F H hw (r F) hR (.refl _)
theorem de_int {i : Int} {j : Nat} : DE X Φ (.Constant (.int i) j pos) (wC (.int i)) := de_c pe_int fun _ => .int _
theorem de_bl {i : Bool} {j : Nat} : DE X Φ (.Constant (.bool i) j pos) (wC (.bl i)) := de_c pe_bl fun _ => .bl _
theorem de_non {j : Nat} : DE X Φ (.Constant .none j pos) (wC .non) := de_c pe_non fun _ => .non
theorem de_str {x : Str} {j : Nat} : DE X Φ (.Constant (.str x) j pos) (wC (.str x)) := de_c pe_str fun _ => .str _
/-- a constant of the module -/
theorem de_glob {x : Str} {v : V} {u : Value} {d : D} (hg : Gl X x) (hm : X.mg x = some u) (r : RelV v u) (rd : ∀ F, Rep X.K F v d) (hd : (x == ("__debug__" : Str)) = false := by decide) : DE X Φ (.Name x pos) (wC d) := de_c (pe_glob hg hm r hd) rd
theorem de_op {op : Operator} {g : O2} (ho : OpV X (binaryOp op) g) (ha : DE X Φ a wa) (hb : DE X Φ b wb) : DE X Φ (.BinOp a op b pos) (wOp g wa wb) := fun E hE => PE.imp (pe_op ho (ha E hE) (hb E hE)) fun σ H Q => by
  rintro ⟨S, F, R, hR, hw, k⟩
  refine ⟨S, F, _, hR, hw, fun x S1 v1 F1 H1 hw1 r1 hR1 x1 => ?_⟩
  refine ⟨S1, F1, _, hR1, hw1, fun y S2 v2 F2 H2 hw2 r2 hR2 x2 => ?_⟩
  exact ⟨F2, x, y, _, hR2.g.ext, r1.mono x2, r2, hw2, fun z v F' H' hz rz al => k z S2 v F' H' hz rz (hR2.al al) ((x1.trans x2).trans al.xF)⟩
theorem de_un {op : UnaryOp} {g : O1} (ho : UnV X (unaryOp op) g) (ha : DE X Φ a wa) : DE X Φ (.UnaryOp op a pos) (wUn g wa) := fun E hE => PE.imp (pe_un ho (ha E hE)) fun σ H Q => by
  rintro ⟨S, F, R, hR, hw, k⟩
  refine ⟨S, F, _, hR, hw, fun x S1 v1 F1 H1 hw1 r1 hR1 x1 => ?_⟩
  exact ⟨F1, x, _, hR1.g.ext, r1, hw1, fun z v F' H' hz rz al => k z S1 v F' H' hz rz (hR1.al al) (x1.trans al.xF)⟩
/-- a fresh container as a value -/
theorem de_new (ha : DN X Φ a wa) : DE X Φ a wa := fun E hE => PE.imp (ha E hE) fun σ H Q => by
  rintro ⟨S, F, R, hR, hw, k⟩
  refine ⟨S, F, _, hR, hw, fun d S1 p F1 H1 hw1 f hR1 x1 => ?_⟩
  obtain ⟨o, ho⟩ := Option.ne_none_iff_exists'.mp f.at_.there
  exact k d S1 _ _ H1 hw1 (f.at_.rep ho f.nF) (hR1.freezeN f ho) (x1.trans (.new f.nF))
end

/-! ### the operators -/
def opAdd : O2
  | .int i, .int j, R => R (.int (i + j))
  | .int i, .bl k, R => R (.int (i + PyProof.Rows.b2i k))
  | .str x, .str y, R => x.length + y.length ≤ sizeLine ∧ R (.str (x ++ y))
  | .tup xs, .tup ys, R => xs.length + ys.length ≤ sizeLine ∧ R (.tup (xs ++ ys))
  | .lst xs, .lst ys, R => xs.length + ys.length ≤ sizeLine ∧ R (.lst (xs ++ ys))
  | _, _, _ => False
def opI (f : Int → Int → Int) : O2
  | .int i, .int j, R => R (.int (f i j))
  | _, _, _ => False
def opIC (C : Int → Int → Prop) (f : Int → Int → Int) : O2
  | .int i, .int j, R => C i j ∧ R (.int (f i j))
  | _, _, _ => False
def opIB (f : Int → Int → Bool) : O2
  | .int i, .int j, R => R (.bl (f i j))
  | _, _, _ => False
def opAddI : O2
  | .int i, .int j, R => R (.int (i + j))
  | _, _, _ => False
def opSub : O2
  | .int i, .int j, R => R (.int (i - j))
  | _, _, _ => False
def opMul : O2
  | .int i, .int j, R => CMulX i j ∧ R (.int (i * j))
  | .lst xs, .int k, R => -(2 ^ 63) ≤ k ∧ k < 2 ^ 63 ∧ xs.length * k.toNat ≤ sizeLine ∧ R (.lst (List.replicate k.toNat xs).flatten)
  | _, _, _ => False
def opDiv : O2
  | .int i, .int j, R => CDivW i j ∧ R (.int (i / j))
  | _, _, _ => False
def opMod : O2
  | .int i, .int j, R => 0 < j ∧ R (.int (i % j))
  | _, _, _ => False
def opPow : O2
  | .int i, .int j, R => CPow i j ∧ R (.int (i ^ j.toNat))
  | _, _, _ => False
def opShl : O2
  | .int i, .int j, R => CShl i j ∧ R (.int (i * 2 ^ j.toNat))
  | _, _, _ => False
def opShr : O2
  | .int i, .int j, R => 0 ≤ j ∧ R (.int (i / 2 ^ j.toNat))
  | _, _, _ => False
def opAnd : O2
  | .int i, .int j, R => R (.int (Builtin.bitAnd i j))
  | _, _, _ => False
def opOr : O2
  | .int i, .int j, R => R (.int (Builtin.bitOr i j))
  | _, _, _ => False
def opXor : O2
  | .int i, .int j, R => R (.int (Builtin.bitXor i j))
  | _, _, _ => False
def opNeg : O1
  | .int i, R => R (.int (-i))
  | _, _ => False
def opInv : O1
  | .int i, R => R (.int (Builtin.bitNot i))
  | _, _ => False
theorem OpV.imp {X : Cx} {f : Value → Value → Sem Value} {g g' : O2} (h : OpV X f g) (hi : ∀ d e R, g' d e R → g d e R) : OpV X f g' := fun pins s σ H x y v u Q I rx ry q =>
  let ⟨F, d, e, R, hx, r1, r2, hg, k⟩ := q
  h pins s σ H x y v u Q I rx ry ⟨F, d, e, R, hx, r1, r2, hi _ _ _ hg, k⟩
/-- ints alone -/
theorem opI_V {X : Cx} {f : Value → Value → Sem Value} {g : Int → Int → Int} (h : OpR X f (rI0 fun i j => .int (g i j))) : OpV X f (opI g) := OpR.any fun x y H Q => by
  rintro ⟨F, d, e, R, hx, r1, r2, hg, k⟩
  refine ⟨_, h, ?_⟩
  cases r1 <;> cases r2 <;> try exact hg.elim
  exact ⟨_, _, rfl, rfl, k _ _ F H hg (.int _) (.refl hx)⟩
theorem opIC_V {X : Cx} {f : Value → Value → Sem Value} {C : Int → Int → Prop} {g : Int → Int → Int} (h : OpR X f (rI C fun i j => .int (g i j))) : OpV X f (opIC C g) := OpR.any fun x y H Q => by
  rintro ⟨F, d, e, R, hx, r1, r2, hg, k⟩
  refine ⟨_, h, ?_⟩
  cases r1 <;> cases r2 <;> try exact hg.elim
  exact ⟨_, _, rfl, rfl, hg.1, k _ _ F H hg.2 (.int _) (.refl hx)⟩
theorem opIB_V {X : Cx} {f : Value → Value → Sem Value} {g : Int → Int → Bool} (h : OpR X f (rI0 fun i j => .bl (g i j))) : OpV X f (opIB g) := OpR.any fun x y H Q => by
  rintro ⟨F, d, e, R, hx, r1, r2, hg, k⟩
  refine ⟨_, h, ?_⟩
  cases r1 <;> cases r2 <;> try exact hg.elim
  exact ⟨_, _, rfl, rfl, k _ _ F H hg (.bl _) (.refl hx)⟩
section
variable {X : Cx} {Φ : En → Prop}
theorem ov_add : OpV X (binaryOp .Add) opAdd := OpR.any fun x y H Q => by
  rintro ⟨F, d, e, R, hx, r1, r2, hg, k⟩
  cases r1 with
  | int i =>
    cases r2 with
    | int j => exact ⟨_, op_add, _, _, rfl, rfl, k _ _ F H hg (.int _) (.refl hx)⟩
    | bl j => exact ⟨_, op_add_ib, _, _, rfl, rfl, k _ _ F H hg (.int _) (.refl hx)⟩
    | _ => exact hg.elim
  | str x =>
    cases r2 with
    | str y => exact ⟨_, op_add_str, _, _, rfl, rfl, hg.1, k _ _ F H hg.2 (.str _) (.refl hx)⟩
    | _ => exact hg.elim
  | tup h1 s1 =>
    cases r2 with
    | tup h2 s2 =>
      have l1 := s1.length
      have l2 := s2.length
      have s12 := s1.append s2
      have q1 := hg.1
      rename_i a1 vs1 ds1 a2 vs2 ds2
      refine ⟨_, op_catA, a1, a2, vs1, vs2, rfl, rfl, hx.sqT h1, hx.sqT h2, by omega, fun z => ?_, fun z1 z2 => ?_, fun z1 z2 p hp => ?_⟩
      · subst z
        cases s1
        exact k _ _ F H hg.2 (.tup h2 s2) (.refl hx)
      · subst z2
        exact k _ _ F H hg.2 (.tup h1 (by rw [List.append_nil] at s12; exact s12)) (.refl hx)
      · have al := Al.one (o := .tup (vs1 ++ vs2)) hx hp
        exact k _ _ _ _ hg.2 (.tup (.of upd_same) (s12.mono al.xF)) al
    | _ => exact hg.elim
  | lst h1 s1 =>
    cases r2 with
    | lst h2 s2 =>
      have l1 := s1.length
      have l2 := s2.length
      have s12 := s1.append s2
      have q1 := hg.1
      rename_i a1 vs1 ds1 a2 vs2 ds2
      refine ⟨_, op_cat, a1, a2, vs1, vs2, rfl, rfl, hx _ _ h1, hx _ _ h2, by omega, fun p hp => ?_⟩
      have al := Al.one (o := .lst (vs1 ++ vs2)) hx hp
      exact k _ _ _ _ hg.2 (.lst upd_same (s12.mono al.xF)) al
    | _ => exact hg.elim
  | _ => exact hg.elim
end

section
variable {X : Cx} {Φ : En → Prop}
theorem ov_sub : OpV X (binaryOp .Sub) opSub := OpV.imp (opI_V op_sub) fun d e R h => by cases d <;> cases e <;> first | exact h | exact h.elim
theorem ov_mul : OpV X (binaryOp .Mult) opMul := OpR.any fun x y H Q => by
  rintro ⟨F, d, e, R, hx, r1, r2, hg, k⟩
  cases r1 with
  | int i =>
    cases r2 with
    | int j => exact ⟨_, op_mulX, _, _, rfl, rfl, hg.1, k _ _ F H hg.2 (.int _) (.refl hx)⟩
    | _ => exact hg.elim
  | lst h1 s1 =>
    cases r2 with
    | int j =>
      have l1 := s1.length
      obtain ⟨q1, q2, q3, q4⟩ := hg
      rename_i a1 vs1 ds1
      refine ⟨_, op_rep, a1, j, vs1, rfl, rfl, hx _ _ h1, q1, q2, by rw [l1]; exact q3, fun p hp => ?_⟩
      have al := Al.one (o := .lst (List.replicate j.toNat vs1).flatten) hx hp
      exact k _ _ _ _ q4 (.lst upd_same ((s1.rep _).mono al.xF)) al
    | _ => exact hg.elim
  | _ => exact hg.elim
theorem ov_div : OpV X (binaryOp .FloorDiv) opDiv := OpV.imp (opIC_V op_fdivW) fun d e R h => by cases d <;> cases e <;> first | exact h | exact h.elim
theorem ov_mod : OpV X (binaryOp .Mod) opMod := OpV.imp (opIC_V op_mod) fun d e R h => by cases d <;> cases e <;> first | exact h | exact h.elim
theorem ov_pow : OpV X (binaryOp .Pow) opPow := OpV.imp (opIC_V op_pow) fun d e R h => by cases d <;> cases e <;> first | exact h | exact h.elim
theorem ov_shl : OpV X (binaryOp .LShift) opShl := OpV.imp (opIC_V op_shlW) fun d e R h => by cases d <;> cases e <;> first | exact h | exact h.elim
theorem ov_shr : OpV X (binaryOp .RShift) opShr := OpV.imp (opIC_V op_shr) fun d e R h => by cases d <;> cases e <;> first | exact h | exact h.elim
theorem ov_and : OpV X (binaryOp .BitAnd) opAnd := OpV.imp (opI_V op_and) fun d e R h => by cases d <;> cases e <;> first | exact h | exact h.elim
theorem ov_or : OpV X (binaryOp .BitOr) opOr := OpV.imp (opI_V op_or) fun d e R h => by cases d <;> cases e <;> first | exact h | exact h.elim
theorem ov_xor : OpV X (binaryOp .BitXor) opXor := OpV.imp (opI_V op_xor) fun d e R h => by cases d <;> cases e <;> first | exact h | exact h.elim
theorem iv_add : OpV X (inplaceOp .Add) opAddI := OpV.imp (opI_V iop_add) fun d e R h => by cases d <;> cases e <;> first | exact h | exact h.elim
theorem iv_sub : OpV X (inplaceOp .Sub) opSub := OpV.imp (opI_V iop_sub) fun d e R h => by cases d <;> cases e <;> first | exact h | exact h.elim
theorem iv_and : OpV X (inplaceOp .BitAnd) opAnd := OpV.imp (opI_V iop_and) fun d e R h => by cases d <;> cases e <;> first | exact h | exact h.elim
theorem iv_or : OpV X (inplaceOp .BitOr) opOr := OpV.imp (opI_V iop_or) fun d e R h => by cases d <;> cases e <;> first | exact h | exact h.elim
theorem iv_xor : OpV X (inplaceOp .BitXor) opXor := OpV.imp (opI_V iop_xor) fun d e R h => by cases d <;> cases e <;> first | exact h | exact h.elim
theorem uv_neg : UnV X (unaryOp .USub) opNeg := UnR.any fun x H Q => by
  rintro ⟨F, d, R, hx, r1, hg, k⟩
  cases r1 with
  | int i => exact ⟨_, un_neg, _, rfl, k _ _ F H hg (.int _) (.refl hx)⟩
  | _ => exact hg.elim
theorem uv_inv : UnV X (unaryOp .Invert) opInv := UnR.any fun x H Q => by
  rintro ⟨F, d, R, hx, r1, hg, k⟩
  cases r1 with
  | int i => exact ⟨_, un_inv, _, rfl, k _ _ F H hg (.int _) (.refl hx)⟩
  | _ => exact hg.elim
end

/-! ### comparisons -/
def opEq : O2
  | .int i, .int j, R => R (.bl (i == j))
  | .str i, .str j, R => R (.bl (i == j))
  | .bl i, .bl j, R => R (.bl (i == j))
  | d, e, R => shD 8 d = true ∧ shD 8 e = true ∧ R (.bl (eqD d e))
def opNe : O2
  | .int i, .int j, R => R (.bl (!(i == j)))
  | .str i, .str j, R => R (.bl (!(i == j)))
  | .bl i, .bl j, R => R (.bl (!(i == j)))
  | d, e, R => shD 8 d = true ∧ shD 8 e = true ∧ R (.bl (!eqD d e))
def opLt : O2
  | .int i, .int j, R => R (.bl (decide (i < j)))
  | _, _, _ => False
def opLe : O2
  | .int i, .int j, R => R (.bl (decide (i ≤ j)))
  | _, _, _ => False
def opGt : O2
  | .int i, .int j, R => R (.bl (decide (j < i)))
  | _, _, _ => False
def opGe : O2
  | .int i, .int j, R => R (.bl (decide (j ≤ i)))
  | _, _, _ => False
/-- tuples of ints in order, too -/
def opLtT : O2
  | .int i, .int j, R => R (.bl (decide (i < j)))
  | .tup ds, .tup es, R => ∃ ns ms, ds = ns.map D.int ∧ es = ms.map D.int ∧ R (.bl (HT.lexLt ns ms))
  | _, _, _ => False
def opIsN : O2
  | d, .non, R => R (.bl (match d with | .non => true | _ => false))
  | _, _, _ => False
def opNotN : O2
  | d, .non, R => R (.bl (match d with | .non => false | _ => true))
  | _, _, _ => False
def flat : D → Bool
  | .non => true
  | .bl _ => true
  | .int _ => true
  | .str _ => true
  | _ => false
def inD (x : D) (ds : List D) : Bool := ds.any fun y => eqD y x
def opIn : O2
  | x, .tup ds, R => flat x = true ∧ ds.all flat = true ∧ R (.bl (inD x ds))
  | x, .lst ds, R => flat x = true ∧ ds.all flat = true ∧ R (.bl (inD x ds))
  | .str x, .str y, R => R (.bl (!(Builtin.Str.occurrences y x 0 y.length 1).isEmpty))
  | _, _, _ => False
def opNotIn : O2
  | x, .tup ds, R => flat x = true ∧ ds.all flat = true ∧ R (.bl (!inD x ds))
  | x, .lst ds, R => flat x = true ∧ ds.all flat = true ∧ R (.bl (!inD x ds))
  | .str x, .str y, R => R (.bl (!(!(Builtin.Str.occurrences y x 0 y.length 1).isEmpty)))
  | _, _, _ => False
section
variable {X : Cx} {Φ : En → Prop} {K : PySem.W.Frag} {F H : Hp}
theorem Rep.flat {v : V} {d : D} (r : Rep K F v d) (h : flat d = true) : flatV v = true := by
  cases r <;> first | rfl | exact nomatch h
theorem Reps.flat : ∀ {vs : List V} {ds : List D}, Reps K F vs ds → ds.all VL.flat = true → vs.all flatV = true
  | _, _, .nil, _ => rfl
  | _, _, .cons r t, h => by
    rw [List.all_cons, Bool.and_eq_true] at h ⊢
    exact ⟨r.flat h.1, Reps.flat t h.2⟩
theorem Rep.eqV {v u : V} {d e : D} (r : Rep K F v d) (s : Rep K F u e) (h : VL.flat d = true) (h' : VL.flat e = true) : L2.eqV v u = eqD d e := by
  cases r <;> cases s <;> first | rfl | exact nomatch h | exact nomatch h'
theorem Rep.inV {v : V} {x : D} (r : Rep K F v x) (h : VL.flat x = true) : ∀ {vs : List V} {ds : List D}, Reps K F vs ds → ds.all VL.flat = true → L2.inV v vs = inD x ds
  | _, _, .nil, _ => rfl
  | _, _, .cons s t, h' => by
    rw [List.all_cons, Bool.and_eq_true] at h'
    show (L2.eqV _ v || L2.inV v _) = (eqD _ x || inD x _)
    rw [s.eqV r h'.1 h, Rep.inV r h t h'.2]
theorem ov_eq (hu : X.A.units + 64 < cLine) : OpV X (compareOp .Eq) opEq := OpR.any fun x y H Q => by
  rintro ⟨F, d, e, R, hx, r1, r2, hg, k⟩
  unfold opEq at hg
  split at hg
  · cases r1; cases r2
    refine ⟨_, op_eq, rfl, ?_⟩
    rw [dec_int]
    exact k _ _ F H hg (.bl _) (.refl hx)
  · cases r1; cases r2
    refine ⟨_, op_eq, rfl, ?_⟩
    rw [dec_str]
    exact k _ _ F H hg (.bl _) (.refl hx)
  · cases r1; cases r2
    refine ⟨_, op_eq, rfl, ?_⟩
    rw [dec_bl]
    exact k _ _ F H hg (.bl _) (.refl hx)
  · obtain ⟨s1, s2, q⟩ := hg
    refine ⟨_, op_eqD hu, d.pd, e.pd, r1.dp hx s1, r2.dp hx s2, shaped_sh s1 (by decide), shaped_sh s2 (by decide), ?_⟩
    rw [eqD_pd 8 d e s1 s2]
    exact k _ _ F H q (.bl _) (.refl hx)
theorem ov_ne (hu : X.A.units + 64 < cLine) : OpV X (compareOp .NotEq) opNe := OpR.any fun x y H Q => by
  rintro ⟨F, d, e, R, hx, r1, r2, hg, k⟩
  unfold opNe at hg
  split at hg
  · cases r1; cases r2
    refine ⟨_, op_ne, rfl, ?_⟩
    rw [dec_int]
    exact k _ _ F H hg (.bl _) (.refl hx)
  · cases r1; cases r2
    refine ⟨_, op_ne, rfl, ?_⟩
    rw [dec_str]
    exact k _ _ F H hg (.bl _) (.refl hx)
  · cases r1; cases r2
    refine ⟨_, op_ne, rfl, ?_⟩
    rw [dec_bl]
    exact k _ _ F H hg (.bl _) (.refl hx)
  · obtain ⟨s1, s2, q⟩ := hg
    refine ⟨_, op_neD hu, d.pd, e.pd, r1.dp hx s1, r2.dp hx s2, shaped_sh s1 (by decide), shaped_sh s2 (by decide), ?_⟩
    rw [eqD_pd 8 d e s1 s2]
    exact k _ _ F H q (.bl _) (.refl hx)
theorem ov_lt : OpV X (compareOp .Lt) opLt := OpV.imp (opIB_V op_lt) fun d e R h => by cases d <;> cases e <;> first | exact h | exact h.elim
theorem ov_le : OpV X (compareOp .LtE) opLe := OpV.imp (opIB_V op_le) fun d e R h => by cases d <;> cases e <;> first | exact h | exact h.elim
theorem ov_gt : OpV X (compareOp .Gt) opGt := OpV.imp (opIB_V op_gt) fun d e R h => by cases d <;> cases e <;> first | exact h | exact h.elim
theorem ov_ge : OpV X (compareOp .GtE) opGe := OpV.imp (opIB_V op_ge) fun d e R h => by cases d <;> cases e <;> first | exact h | exact h.elim
theorem ov_ltT (hu : X.A.units + 64 < cLine) : OpV X (compareOp .Lt) opLtT := OpR.any fun x y H Q => by
  rintro ⟨F, d, e, R, hx, r1, r2, hg, k⟩
  unfold opLtT at hg
  split at hg
  · cases r1; cases r2
    exact ⟨_, op_lt, _, _, rfl, rfl, k _ _ F H hg (.bl _) (.refl hx)⟩
  · obtain ⟨ns, ms, rfl, rfl, q⟩ := hg
    cases r1 with
    | tup h1 s1 =>
      cases r2 with
      | tup h2 s2 =>
        have e1 := s1.ints
        have e2 := s2.ints
        subst e1
        subst e2
        exact ⟨_, op_ltT (by omega), _, _, ns, ms, rfl, rfl, hx.sqT h1, hx.sqT h2, k _ _ F H q (.bl _) (.refl hx)⟩
  · exact hg.elim
theorem ov_isN : OpV X (compareOp .Is) opIsN := OpR.any fun x y H Q => by
  rintro ⟨F, d, e, R, hx, r1, r2, hg, k⟩
  refine ⟨_, op_isN, ?_⟩
  unfold opIsN at hg
  split at hg
  · cases r2
    refine ⟨rfl, ?_⟩
    cases r1 <;> exact k _ _ F H hg (.bl _) (.refl hx)
  · exact hg.elim
theorem ov_notN : OpV X (compareOp .IsNot) opNotN := OpR.any fun x y H Q => by
  rintro ⟨F, d, e, R, hx, r1, r2, hg, k⟩
  refine ⟨_, op_notN, ?_⟩
  unfold opNotN at hg
  split at hg
  · cases r2
    refine ⟨rfl, ?_⟩
    cases r1 <;> exact k _ _ F H hg (.bl _) (.refl hx)
  · exact hg.elim
theorem ov_in : OpV X (compareOp .In) opIn := OpR.any fun x y H Q => by
  rintro ⟨F, d, e, R, hx, r1, r2, hg, k⟩
  unfold opIn at hg
  split at hg
  · obtain ⟨f1, f2, q⟩ := hg
    cases r2 with
    | tup h s =>
      refine ⟨_, op_in_seq, _, _, rfl, .inr (hx.sqT h), r1.flat f1, s.flat f2, ?_⟩
      rw [if_neg (by simp), r1.inV f1 s f2]
      exact k _ _ F H q (.bl _) (.refl hx)
  · obtain ⟨f1, f2, q⟩ := hg
    cases r2 with
    | lst h s =>
      refine ⟨_, op_in_seq, _, _, rfl, .inl (.of (hx _ _ h)), r1.flat f1, s.flat f2, ?_⟩
      rw [if_neg (by simp), r1.inV f1 s f2]
      exact k _ _ F H q (.bl _) (.refl hx)
  · cases r1; cases r2
    exact ⟨_, op_in_str, _, _, rfl, rfl, k _ _ F H hg (.bl _) (.refl hx)⟩
  · exact hg.elim
theorem ov_notIn : OpV X (compareOp .NotIn) opNotIn := OpR.any fun x y H Q => by
  rintro ⟨F, d, e, R, hx, r1, r2, hg, k⟩
  unfold opNotIn at hg
  split at hg
  · obtain ⟨f1, f2, q⟩ := hg
    cases r2 with
    | tup h s =>
      refine ⟨_, op_notIn_seq, _, _, rfl, .inr (hx.sqT h), r1.flat f1, s.flat f2, ?_⟩
      rw [if_pos rfl, r1.inV f1 s f2]
      exact k _ _ F H q (.bl _) (.refl hx)
  · obtain ⟨f1, f2, q⟩ := hg
    cases r2 with
    | lst h s =>
      refine ⟨_, op_notIn_seq, _, _, rfl, .inl (.of (hx _ _ h)), r1.flat f1, s.flat f2, ?_⟩
      rw [if_pos rfl, r1.inV f1 s f2]
      exact k _ _ F H q (.bl _) (.refl hx)
  · cases r1; cases r2
    exact ⟨_, op_notIn_str, _, _, rfl, rfl, k _ _ F H hg (.bl _) (.refl hx)⟩
  · exact hg.elim
end
/-- a test of a value -/
def tru : D → (Bool → Prop) → Prop
  | .non, R => R false
  | .bl b, R => R b
  | .int i, R => R (i != 0)
  | .str x, R => x.length ≤ sizeLine ∧ R ((x.length : Int) != 0)
  | .tup ds, R => R (!ds.isEmpty)
  | .lst ds, R => R (!ds.isEmpty)
  | .dct ks _, R => R (!ks.isEmpty)
  | _, _ => False
def wB (w : WE) : WT := fun S R => w S fun d S1 => tru d fun b => R b S1
/-- a value that is a bool, as a test -/
def wBb (w : WE) : WT := fun S R => w S fun d S1 => match d with
  | .bl b => R b S1
  | _ => False
def wAnd (t u : WT) : WT := fun S R => t S fun b S1 => Br b (u S1 R) (R false S1)
def wOr (t u : WT) : WT := fun S R => t S fun b S1 => Br b (R true S1) (u S1 R)
def wNot (t : WT) : WT := fun S R => t S fun b S1 => R (!b) S1
def wIf (t : WT) (u v : WE) : WE := fun S R => t S fun b S1 => Br b (u S1 R) (v S1 R)
/-- and, or, not as values: all but the last of them bools -/
def wAndV (u v : WE) : WE := fun S R => u S fun d S1 => match d with
  | .bl b => Br b (v S1 R) (R (.bl false) S1)
  | _ => False
def wOrV (u v : WE) : WE := fun S R => u S fun d S1 => match d with
  | .bl b => Br b (R (.bl true) S1) (v S1 R)
  | _ => False
def wNotV (u : WE) : WE := fun S R => u S fun d S1 => match d with
  | .bl b => R (.bl (!b)) S1
  | _ => False
def wChain (g g' : O2) (wa wb wc : WE) : WE := fun S R => wa S fun x S1 => wb S1 fun y S2 => g x y fun z => match z with
  | .bl b => Br b (wc S2 fun w S3 => g' y w fun r => R r S3) (R (.bl false) S2)
  | _ => False
section
variable {X : Cx} {Φ : En → Prop} {a b c : Expr} {wa wb wc : WE} {pos : Pos} {t u : WT}
theorem Rep.tru {K : PySem.W.Frag} {F H : Hp} (x : Ext F H) {v : V} {d : D} {R : Bool → Prop} (r : Rep K F v d) (h : tru d R) : ∃ k, TruV K v H k ∧ R k := by
  cases r with
  | non => exact ⟨_, rfl, h⟩
  | bl b => exact ⟨_, rfl, h⟩
  | int i => exact ⟨_, rfl, h⟩
  | str y => exact ⟨_, ⟨h.1, rfl⟩, h.2⟩
  | tup h1 s =>
    refine ⟨_, .inr (.inl ⟨_, x.sqT h1, rfl⟩), ?_⟩
    have l := s.length
    rename_i a vs ds
    have e : vs.isEmpty = ds.isEmpty := by
      cases s <;> rfl
    rw [e]
    exact h
  | lst h1 s =>
    refine ⟨_, .inl ⟨_, .of (x _ _ h1), rfl⟩, ?_⟩
    rename_i a vs ds
    have e : vs.isEmpty = ds.isEmpty := by
      cases s <;> rfl
    rw [e]
    exact h
  | dct h1 z s =>
    refine ⟨_, .inr (.inr ⟨_, x _ _ h1, rfl⟩), ?_⟩
    rename_i a kvs ks ds
    have e : kvs.isEmpty = ks.isEmpty := by
      subst z
      cases kvs <;> rfl
    rw [e]
    exact h
  | dcu _ _ _ => exact h.elim
  | obj a => exact h.elim
  | scr h1 => exact h.elim
  | ty t => exact h.elim
  | ktp _ _ => exact h.elim
  | rng _ _ => exact h.elim
theorem dt_tru (ha : DE X Φ a wa) (he : ∀ whole, isTrue a X.env whole = (do let v ← whole; standAt a.pos; holding [v] (truthy v)) := by intro _; rfl) : DT X Φ a (wB wa) := fun E hE => PT.imp (pt_truth (ha E hE) he) fun σ H Q => by
  rintro ⟨S, F, R, hR, hw, k⟩
  refine ⟨S, F, _, hR, hw, fun d S1 v F1 H1 hw1 r1 hR1 x1 => ?_⟩
  obtain ⟨b, h1, h2⟩ := r1.tru hR1.g.ext hw1
  exact ⟨b, h1, k b S1 F1 H1 h2 hR1 x1⟩
theorem dt_cmp {op : CmpOp} {g : O2} (ho : OpV X (compareOp op) g) (ha : DE X Φ a wa) (hb : DE X Φ b wb) (hm : behindInMarks op b = false) : DT X Φ (.Compare a [op] [b] pos) (wBb (wOp g wa wb)) := fun E hE => PT.imp (pt_cmpR ho (ha E hE) (hb E hE) hm) fun σ H Q => by
  rintro ⟨S, F, R, hR, hw, k⟩
  refine ⟨S, F, _, hR, hw, fun x S1 v1 F1 H1 hw1 r1 hR1 x1 => ?_⟩
  refine ⟨S1, F1, _, hR1, hw1, fun y S2 v2 F2 H2 hw2 r2 hR2 x2 => ?_⟩
  refine ⟨F2, x, y, _, hR2.g.ext, r1.mono x2, r2, hw2, fun z v F' H' hz rz al => ?_⟩
  cases rz with
  | bl b => exact ⟨b, rfl, k b S2 F' H' hz (hR2.al al) ((x1.trans x2).trans al.xF)⟩
  | _ => exact hz.elim
theorem de_cmp {op : CmpOp} {g : O2} (ho : OpV X (compareOp op) g) (ha : DE X Φ a wa) (hb : DE X Φ b wb) (hm : behindInMarks op b = false) : DE X Φ (.Compare a [op] [b] pos) (wOp g wa wb) := fun E hE => PE.imp (pe_cmpR ho (ha E hE) (hb E hE) hm) fun σ H Q => by
  rintro ⟨S, F, R, hR, hw, k⟩
  refine ⟨S, F, _, hR, hw, fun x S1 v1 F1 H1 hw1 r1 hR1 x1 => ?_⟩
  refine ⟨S1, F1, _, hR1, hw1, fun y S2 v2 F2 H2 hw2 r2 hR2 x2 => ?_⟩
  exact ⟨F2, x, y, _, hR2.g.ext, r1.mono x2, r2, hw2, fun z v F' H' hz rz al => k z S2 v F' H' hz rz (hR2.al al) ((x1.trans x2).trans al.xF)⟩
theorem de_chain {op op' : CmpOp} {g g' : O2} (ho : OpV X (compareOp op) g) (ho' : OpV X (compareOp op') g') (ha : DE X Φ a wa) (hb : DE X Φ b wb) (hc : DE X Φ c wc) (hm : lastMarks [op, op'] [b, c] = false) : DE X Φ (.Compare a [op, op'] [b, c] pos) (wChain g g' wa wb wc) := fun E hE => PE.imp (pe_chain ho ho' (ha E hE) (hb E hE) (hc E hE) hm) fun σ H Q => by
  rintro ⟨S, F, R, hR, hw, k⟩
  refine ⟨S, F, _, hR, hw, fun x S1 v1 F1 H1 hw1 r1 hR1 x1 => ?_⟩
  refine ⟨S1, F1, _, hR1, hw1, fun y S2 v2 F2 H2 hw2 r2 hR2 x2 => ?_⟩
  refine ⟨F2, x, y, _, hR2.g.ext, r1.mono x2, r2, hw2, fun z v F' H' hz rz al => ?_⟩
  cases rz with
  | bl b =>
    refine ⟨b, rfl, ?_⟩
    cases b with
    | true =>
      refine ⟨S2, F', _, hR2.al al, br_t hz, fun w S3 v3 F3 H3 hw3 r3 hR3 x3 => ?_⟩
      exact ⟨F3, y, w, _, hR3.g.ext, (r2.mono al.xF).mono x3, r3, hw3, fun q v F4 H4 hq rq al2 => k q S3 v F4 H4 hq rq (hR3.al al2) ((((x1.trans x2).trans al.xF).trans x3).trans al2.xF)⟩
    | false => exact k _ S2 _ F' H' (br_f hz) (.bl _) (hR2.al al) ((x1.trans x2).trans al.xF)
  | _ => exact hz.elim
theorem dt_chain {op op' : CmpOp} {g g' : O2} (ho : OpV X (compareOp op) g) (ho' : OpV X (compareOp op') g') (ha : DE X Φ a wa) (hb : DE X Φ b wb) (hc : DE X Φ c wc) (hm : lastMarks [op, op'] [b, c] = false) : DT X Φ (.Compare a [op, op'] [b, c] pos) (wBb (wChain g g' wa wb wc)) := fun E hE => PT.imp (pt_chain ho ho' (ha E hE) (hb E hE) (hc E hE) hm) fun σ H Q => by
  rintro ⟨S, F, R, hR, hw, k⟩
  refine ⟨S, F, _, hR, hw, fun x S1 v1 F1 H1 hw1 r1 hR1 x1 => ?_⟩
  refine ⟨S1, F1, _, hR1, hw1, fun y S2 v2 F2 H2 hw2 r2 hR2 x2 => ?_⟩
  refine ⟨F2, x, y, _, hR2.g.ext, r1.mono x2, r2, hw2, fun z v F' H' hz rz al => ?_⟩
  cases rz with
  | bl b =>
    refine ⟨b, rfl, ?_⟩
    cases b with
    | true =>
      refine ⟨S2, F', _, hR2.al al, br_t hz, fun w S3 v3 F3 H3 hw3 r3 hR3 x3 => ?_⟩
      refine ⟨F3, y, w, _, hR3.g.ext, (r2.mono al.xF).mono x3, r3, hw3, fun q v F4 H4 hq rq al2 => ?_⟩
      cases rq with
      | bl c => exact ⟨c, rfl, k c S3 F4 H4 hq (hR3.al al2) ((((x1.trans x2).trans al.xF).trans x3).trans al2.xF)⟩
      | _ => exact hq.elim
    | false => exact ⟨false, rfl, k _ S2 F' H' (br_f hz) (hR2.al al) ((x1.trans x2).trans al.xF)⟩
  | _ => exact hz.elim
theorem DW.pt (h : DW X Φ a t) : DT X Φ a t := fun E hE => (h E hE).pt
variable {rest : List Expr}
theorem dw_and1 (ha : DT X Φ a t) : DW X Φ (.BoolOp .And [a] pos) t := fun E hE => pw_and1 (ha E hE)
theorem dw_or1 (ha : DT X Φ a t) : DW X Φ (.BoolOp .Or [a] pos) t := fun E hE => pw_or1 (ha E hE)
theorem dw_and (ha : DT X Φ a t) (hb : DW X Φ (.BoolOp .And (b :: rest) pos) u) : DW X Φ (.BoolOp .And (a :: b :: rest) pos) (wAnd t u) := fun E hE => PW.imp (pw_and (ha E hE) (hb E hE)) fun σ H Q => by
  rintro ⟨S, F, R, hR, hw, k⟩
  refine ⟨S, F, _, hR, hw, fun b S1 F1 H1 hw1 hR1 x1 => ?_⟩
  cases b with
  | true => exact ⟨S1, F1, R, hR1, br_t hw1, fun b S' F' H' hb hR' x' => k b S' F' H' hb hR' (x1.trans x')⟩
  | false => exact k false S1 F1 H1 (br_f hw1) hR1 x1
theorem dw_or (ha : DT X Φ a t) (hb : DW X Φ (.BoolOp .Or (b :: rest) pos) u) : DW X Φ (.BoolOp .Or (a :: b :: rest) pos) (wOr t u) := fun E hE => PW.imp (pw_or (ha E hE) (hb E hE)) fun σ H Q => by
  rintro ⟨S, F, R, hR, hw, k⟩
  refine ⟨S, F, _, hR, hw, fun b S1 F1 H1 hw1 hR1 x1 => ?_⟩
  cases b with
  | false => exact ⟨S1, F1, R, hR1, br_f hw1, fun b S' F' H' hb hR' x' => k b S' F' H' hb hR' (x1.trans x')⟩
  | true => exact k true S1 F1 H1 (br_t hw1) hR1 x1
theorem dt_not (ha : DT X Φ a t) : DT X Φ (.UnaryOp .Not a pos) (wNot t) := fun E hE => PT.imp (pt_not (ha E hE)) fun σ H Q => by
  rintro ⟨S, F, R, hR, hw, k⟩
  exact ⟨S, F, _, hR, hw, fun b S1 F1 H1 hw1 hR1 x1 => k (!b) S1 F1 H1 hw1 hR1 x1⟩
theorem de_if (hc : DT X Φ c t) (ha : DE X Φ a wa) (hb : DE X Φ b wb) : DE X Φ (.IfExp c a b pos) (wIf t wa wb) := fun E hE => PE.imp (pe_ifExp (hc E hE) (ha E hE) (hb E hE)) fun σ H Q => by
  rintro ⟨S, F, R, hR, hw, k⟩
  refine ⟨S, F, _, hR, hw, fun b S1 F1 H1 hw1 hR1 x1 => ?_⟩
  cases b with
  | true => exact ⟨S1, F1, R, hR1, br_t hw1, fun d S' v F' H' hb r hR' x' => k d S' v F' H' hb r hR' (x1.trans x')⟩
  | false => exact ⟨S1, F1, R, hR1, br_f hw1, fun d S' v F' H' hb r hR' x' => k d S' v F' H' hb r hR' (x1.trans x')⟩
theorem de_one {op : BoolOp} (h : DE X Φ a wa) : DE X Φ (.BoolOp op [a] pos) wa := fun E hE => pe_one (h E hE)
theorem de_and (ha : DE X Φ a wa) (hb : DE X Φ (.BoolOp .And (b :: rest) pos) wb) : DE X Φ (.BoolOp .And (a :: b :: rest) pos) (wAndV wa wb) := fun E hE => PE.imp (pe_and (ha E hE) (hb E hE)) fun σ H Q => by
  rintro ⟨S, F, R, hR, hw, k⟩
  refine ⟨S, F, _, hR, hw, fun d S1 v F1 H1 hw1 r1 hR1 x1 => ?_⟩
  cases r1 with
  | bl b =>
    refine ⟨b, rfl, ?_⟩
    cases b with
    | true => exact ⟨S1, F1, R, hR1, br_t hw1, fun d S' v F' H' hb r hR' x' => k d S' v F' H' hb r hR' (x1.trans x')⟩
    | false => exact k _ S1 _ F1 H1 (br_f hw1) (.bl _) hR1 x1
  | _ => exact hw1.elim
theorem de_or (ha : DE X Φ a wa) (hb : DE X Φ (.BoolOp .Or (b :: rest) pos) wb) : DE X Φ (.BoolOp .Or (a :: b :: rest) pos) (wOrV wa wb) := fun E hE => PE.imp (pe_or (ha E hE) (hb E hE)) fun σ H Q => by
  rintro ⟨S, F, R, hR, hw, k⟩
  refine ⟨S, F, _, hR, hw, fun d S1 v F1 H1 hw1 r1 hR1 x1 => ?_⟩
  cases r1 with
  | bl b =>
    refine ⟨b, rfl, ?_⟩
    cases b with
    | false => exact ⟨S1, F1, R, hR1, br_f hw1, fun d S' v F' H' hb r hR' x' => k d S' v F' H' hb r hR' (x1.trans x')⟩
    | true => exact k _ S1 _ F1 H1 (br_t hw1) (.bl _) hR1 x1
  | _ => exact hw1.elim
theorem de_not (ha : DE X Φ a wa) : DE X Φ (.UnaryOp .Not a pos) (wNotV wa) := fun E hE => PE.imp (pe_not (ha E hE)) fun σ H Q => by
  rintro ⟨S, F, R, hR, hw, k⟩
  refine ⟨S, F, _, hR, hw, fun d S1 v F1 H1 hw1 r1 hR1 x1 => ?_⟩
  cases r1 with
  | bl b => exact ⟨b, rfl, k _ S1 _ F1 H1 hw1 (.bl _) hR1 x1⟩
  | _ => exact hw1.elim
end
end VL

set_option Elab.async false
set_option linter.all false
set_option maxRecDepth 100000
set_option maxHeartbeats 4000000
/-! VL3: arguments, displays, calls of built-ins, subscripts, iterables, targets, statements. -/
namespace VL
open PySem PySem.Spec L2
/-! ### arguments -/
def wNil : WA := fun S R => R [] S
def wCons (w : WE) (ws : WA) : WA := fun S R => w S fun d S1 => ws S1 fun ds S2 => R (d :: ds) S2
def wTup (ws : WA) : WE := fun S R => ws S fun ds S1 => R (.tup ds) S1
def wLst (ws : WA) : WE := fun S R => ws S fun ds S1 => R (.lst ds) S1
/-- a call of a built-in on data -/
abbrev OC := List D → (D → Prop) → Prop
def wCB (g : OC) (ws : WA) : WE := fun S R => ws S fun ds S1 => g ds fun d => R d S1
def rVc (K : PySem.W.Frag) (g : OC) : List V → Hp → VK → Prop := fun xs H Q => ∃ F ds R, Ext F H ∧ Reps K F xs ds ∧ g ds R ∧ ∀ z v F' H', R z → Rep K F' v z → Al F H F' H' → Q v H'
/-- .. that gives a fresh list -/
def rVn (K : PySem.W.Frag) (g : OC) : List V → Hp → VK → Prop := fun xs H Q => ∃ F ds R, Ext F H ∧ Reps K F xs ds ∧ g ds R ∧ ∀ es vs p, R (.lst es) → Reps K F vs es → H p = none → Q (.ref p) (upd H p (.lst vs))
abbrev CallV (X : Cx) (f : Value) (g : OC) : Prop := CallR X f (rVc X.K g)
abbrev CallN (X : Cx) (f : Value) (g : OC) : Prop := CallR X f (rVn X.K g)
section
variable {X : Cx} {Φ : En → Prop} {a b e : Expr} {es : List Expr} {w wa wb : WE} {ws : WA} {n : Nat} {pos p : Pos}
theorem da_nil : DA X Φ [] 0 wNil := fun E hE => PA.imp pa_nil fun σ H Q => by
  rintro ⟨S, F, R, hR, hw, k⟩
  exact k [] S [] F H hw rfl .nil hR (.refl _)
theorem da_cons (ha : DE X Φ e w) (hs : DA X Φ es n ws) (h : starEach (e :: es) X.env = (false, eval e X.env) :: starEach es X.env := by rfl) : DA X Φ (e :: es) (n + 1) (wCons w ws) := fun E hE => PA.imp (pa_cons (ha E hE) (hs E hE) h) fun σ H Q => by
  rintro ⟨S, F, R, hR, hw, k⟩
  refine ⟨S, F, _, hR, hw, fun d S1 v F1 H1 hw1 r1 hR1 x1 => ?_⟩
  refine ⟨S1, F1, _, hR1, hw1, fun ds S2 vs F2 H2 hw2 l2 r2 hR2 x2 => ?_⟩
  exact k _ S2 _ F2 H2 hw2 (by rw [List.length_cons, l2]) (.cons (r1.mono x2) r2) hR2 (x1.trans x2)
theorem le_line {n : Nat} (h : n ≤ 1000) : n ≤ sizeLine := Nat.le_trans h (by decide)
theorem de_tup {x1} (h : DA X Φ es n ws) (hn : n ≤ 1000 := by decide) : DE X Φ (.Tuple es x1 pos) (wTup ws) := fun E hE => PE.imp (pe_tup (h E hE)) fun σ H Q => by
  rintro ⟨S, F, R, hR, hw, k⟩
  refine ⟨S, F, _, hR, hw, fun ds S1 vs F1 H1 hw1 l1 r1 hR1 x1 => ⟨le_line (by rw [r1.length, l1]; exact hn), fun p hp => ?_⟩⟩
  have al := Al.one (o := .tup vs) hR1.g.ext hp
  exact k _ S1 _ _ _ hw1 (.tup (.of upd_same) (r1.mono al.xF)) (hR1.al al) (x1.trans al.xF)
theorem fresh_of {K : PySem.W.Frag} {E : En} {F H : Hp} {σ : L2.St} {S : Sg} {p : Addr} {vs : List V} {ds : List D} (R : Rel K E F H σ S) (hp : H p = none) (r : Reps K F vs ds) : Fresh K E F (upd H p (.lst vs)) σ S p (.lst ds) ∧ Rel K E F (upd H p (.lst vs)) σ S :=
  let ⟨h1, h2, h3, h4, h5⟩ := R.fresh (o := .lst vs) hp
  ⟨⟨⟨vs, upd_same, r⟩, h2, h3, h4, h5⟩, h1⟩
theorem dn_lst (h : DA X Φ es n ws) (hn : n ≤ 1000 := by decide) : DN X Φ (.List es pos) (wLst ws) := fun E hE => PE.imp (pe_lst (h E hE)) fun σ H Q => by
  rintro ⟨S, F, R, hR, hw, k⟩
  refine ⟨S, F, _, hR, hw, fun ds S1 vs F1 H1 hw1 l1 r1 hR1 x1 => ⟨le_line (by rw [r1.length, l1]; exact hn), fun p hp => ?_⟩⟩
  obtain ⟨f, hR'⟩ := fresh_of hR1 hp r1
  exact k _ S1 p F1 _ hw1 f hR' x1
theorem de_lst (h : DA X Φ es n ws) (hn : n ≤ 1000 := by decide) : DE X Φ (.List es pos) (wLst ws) := de_new (dn_lst h hn)
theorem vn_vc {f : Value} {g : OC} (hc : CallN X f g) (hl : ∀ ds R, g ds R → g ds fun d => R d ∧ ∃ es, d = .lst es) : CallV X f g := CallR.any fun xs H Q => by
  rintro ⟨F, ds, R, hx, r, hg, k⟩
  refine ⟨_, hc, F, ds, _, hx, r, hl ds R hg, fun es vs p hR rs hp => ?_⟩
  have al := Al.one (o := .lst vs) hx hp
  exact k _ _ _ _ hR.1 (.lst upd_same (rs.mono al.xF)) al
theorem de_cb {id : String} {x : Str} {g : OC} (hc : CallV X (.builtin id) g) (hg : Gl X x) (hm : X.mg x = none) (hv : bootBuiltins x = some (.builtin id)) (ha : DA X Φ (e :: es) n ws) (hn : x ≠ "__name__" := by decide) (hdb : (x == ("__debug__" : Str)) = false := by decide)
    (he : starEach (e :: es) X.env = (false, eval e X.env) :: starEach es X.env := by rfl) (hpl : (backTo pos (starEach es X.env)).any (·.1) = false := by rfl) : DE X Φ (.Call (.Name x p) (e :: es) [] pos) (wCB g ws) := fun E hE => PE.imp (pe_callB hc hg hm hv (ha E hE) hn hdb he hpl) fun σ H Q => by
  rintro ⟨S, F, R, hR, hw, k⟩
  refine ⟨S, F, _, hR, hw, fun ds S1 vs F1 H1 hw1 l1 r1 hR1 x1 => ?_⟩
  exact ⟨F1, ds, _, hR1.g.ext, r1, hw1, fun z v F' H' hz rz al => k z S1 v F' H' hz rz (hR1.al al) (x1.trans al.xF)⟩
theorem de_cty {T : String} {x : Str} {g : OC} (hc : CallV X (.type T) g) (hg : Gl X x) (hm : X.mg x = none) (hv : bootBuiltins x = some (.type T)) (ha : DA X Φ (e :: es) n ws) (hn : x ≠ "__name__" := by decide) (hdb : (x == ("__debug__" : Str)) = false := by decide)
    (he : starEach (e :: es) X.env = (false, eval e X.env) :: starEach es X.env := by rfl) (hpl : (backTo pos (starEach es X.env)).any (·.1) = false := by rfl) : DE X Φ (.Call (.Name x p) (e :: es) [] pos) (wCB g ws) := fun E hE => PE.imp (pe_callTy hc hg hm hv (ha E hE) hn hdb he hpl) fun σ H Q => by
  rintro ⟨S, F, R, hR, hw, k⟩
  refine ⟨S, F, _, hR, hw, fun ds S1 vs F1 H1 hw1 l1 r1 hR1 x1 => ?_⟩
  exact ⟨F1, ds, _, hR1.g.ext, r1, hw1, fun z v F' H' hz rz al => k z S1 v F' H' hz rz (hR1.al al) (x1.trans al.xF)⟩
theorem dn_cty {T : String} {x : Str} {g : OC} (hc : CallN X (.type T) g) (hl : ∀ ds R, g ds R → g ds fun d => R d ∧ ∃ es, d = .lst es) (hg : Gl X x) (hm : X.mg x = none) (hv : bootBuiltins x = some (.type T)) (ha : DA X Φ (e :: es) n ws) (hn : x ≠ "__name__" := by decide) (hdb : (x == ("__debug__" : Str)) = false := by decide)
    (he : starEach (e :: es) X.env = (false, eval e X.env) :: starEach es X.env := by rfl) (hpl : (backTo pos (starEach es X.env)).any (·.1) = false := by rfl) : DN X Φ (.Call (.Name x p) (e :: es) [] pos) (wCB g ws) := fun E hE => PE.imp (pe_callTy hc hg hm hv (ha E hE) hn hdb he hpl) fun σ H Q => by
  rintro ⟨S, F, R, hR, hw, k⟩
  refine ⟨S, F, _, hR, hw, fun ds S1 vs F1 H1 hw1 l1 r1 hR1 x1 => ?_⟩
  refine ⟨F1, ds, _, hR1.g.ext, r1, hw1, fun es vs p hz rz hp => ?_⟩
  obtain ⟨f, hR'⟩ := fresh_of hR1 hp rz
  exact k _ S1 p F1 _ hz f hR' x1
theorem dn_cb {id : String} {x : Str} {g : OC} (hc : CallN X (.builtin id) g) (hg : Gl X x) (hm : X.mg x = none) (hv : bootBuiltins x = some (.builtin id)) (ha : DA X Φ (e :: es) n ws) (hn : x ≠ "__name__" := by decide) (hdb : (x == ("__debug__" : Str)) = false := by decide)
    (he : starEach (e :: es) X.env = (false, eval e X.env) :: starEach es X.env := by rfl) (hpl : (backTo pos (starEach es X.env)).any (·.1) = false := by rfl) (hl : ∀ ds R, g ds R → g ds fun d => R d ∧ ∃ es, d = .lst es) : DN X Φ (.Call (.Name x p) (e :: es) [] pos) (wCB g ws) := fun E hE => PE.imp (pe_callB hc hg hm hv (ha E hE) hn hdb he hpl) fun σ H Q => by
  rintro ⟨S, F, R, hR, hw, k⟩
  refine ⟨S, F, _, hR, hw, fun ds S1 vs F1 H1 hw1 l1 r1 hR1 x1 => ?_⟩
  refine ⟨F1, ds, _, hR1.g.ext, r1, hw1, fun es vs p hz rz hp => ?_⟩
  obtain ⟨f, hR'⟩ := fresh_of hR1 hp rz
  exact k _ S1 p F1 _ hz f hR' x1
end
/-! ### built-ins -/
def bLen : OC
  | [.str x], R => x.length ≤ sizeLine ∧ R (.int x.length)
  | [.tup ds], R => R (.int ds.length)
  | [.lst ds], R => R (.int ds.length)
  | _, _ => False
def bAbs : OC
  | [.int i], R => R (.int (if i < 0 then -i else i))
  | _, _ => False
def bMax : OC
  | [.int i, .int j], R => R (.int (if j > i then j else i))
  | _, _ => False
def bMin : OC
  | [.int i, .int j], R => R (.int (if j < i then j else i))
  | _, _ => False
def bInt : OC
  | [.int i], R => R (.int i)
  | [.bl k], R => R (.int (if k then 1 else 0))
  | _, _ => False
/-- sum of a list of ints -/
def bSum : OC
  | [.lst ds], R => ∃ ns : List Int, ds = ns.map D.int ∧ R (.int ns.sum)
  | _, _ => False
def bAll : OC
  | [.lst ds], R => ∃ bs : List Bool, ds = bs.map D.bl ∧ R (.bl (bs.all id))
  | _, _ => False
def bAny : OC
  | [.lst ds], R => ∃ bs : List Bool, ds = bs.map D.bl ∧ R (.bl (bs.any id))
  | _, _ => False
def bTup : OC
  | [.lst ds], R => R (.tup ds)
  | [.tup ds], R => R (.tup ds)
  | _, _ => False
def bLst : OC
  | [.lst ds], R => R (.lst ds)
  | [.tup ds], R => R (.lst ds)
  | [.scr ns], R => R (.lst (ns.map D.int))
  | _, _ => False
def isi : D → Ty → Option Bool
  | .non, _ => some false
  | .bl _, .tint => some true
  | .bl _, .tbool => some true
  | .bl _, _ => some false
  | .int _, .tint => some true
  | .int _, _ => some false
  | .str _, .tstr => some true
  | .str _, _ => some false
  | .tup _, .ttup => some true
  | .tup _, _ => some false
  | .lst _, .tlst => some true
  | .lst _, _ => some false
  | .dct _ _, .tdct => some true
  | .dct _ _, _ => some false
  | _, _ => none
def bIsi : OC
  | [d, .ty t], R => ∃ b, isi d t = some b ∧ R (.bl b)
  | _, _ => False
section
variable {X : Cx} {Φ : En → Prop}
theorem Reps.nil_of {K : PySem.W.Frag} {F : Hp} {vs : List V} (r : Reps K F vs []) : vs = [] := by cases r; rfl
theorem Reps.one_of {K : PySem.W.Frag} {F : Hp} {vs : List V} {d : D} (r : Reps K F vs [d]) : ∃ v, vs = [v] ∧ Rep K F v d := by
  cases r with
  | cons a b => cases b; exact ⟨_, rfl, a⟩
theorem Reps.two_of {K : PySem.W.Frag} {F : Hp} {vs : List V} {d e : D} (r : Reps K F vs [d, e]) : ∃ v u, vs = [v, u] ∧ Rep K F v d ∧ Rep K F u e := by
  cases r with
  | cons a b =>
    obtain ⟨u, rfl, q⟩ := b.one_of
    exact ⟨_, _, rfl, a, q⟩
theorem cv_len : CallV X (.builtin "len") bLen := CallR.any fun xs H Q => by
  rintro ⟨F, ds, R, hx, r, hg, k⟩
  refine ⟨_, call_len, ?_⟩
  unfold bLen at hg
  split at hg
  · obtain ⟨v, rfl, q⟩ := r.one_of
    cases q
    exact ⟨_, _, rfl, ⟨hg.1, rfl⟩, k _ _ F H hg.2 (.int _) (.refl hx)⟩
  · obtain ⟨v, rfl, q⟩ := r.one_of
    cases q with
    | tup h s => exact ⟨_, _, rfl, .inr ⟨_, hx.sqT h, rfl⟩, by rw [s.length]; exact k _ _ F H hg (.int _) (.refl hx)⟩
  · obtain ⟨v, rfl, q⟩ := r.one_of
    cases q with
    | lst h s => exact ⟨_, _, rfl, .inl ⟨_, .of (hx _ _ h), rfl⟩, by rw [s.length]; exact k _ _ F H hg (.int _) (.refl hx)⟩
  · exact hg.elim
theorem cv_abs : CallV X (.builtin "abs") bAbs := CallR.any fun xs H Q => by
  rintro ⟨F, ds, R, hx, r, hg, k⟩
  refine ⟨_, call_abs, ?_⟩
  unfold bAbs at hg
  split at hg
  · obtain ⟨v, rfl, q⟩ := r.one_of
    cases q
    exact ⟨_, rfl, k _ _ F H hg (.int _) (.refl hx)⟩
  · exact hg.elim
theorem cv_max (hc : X.calm = true) : CallV X (.builtin "max") bMax := CallR.any fun xs H Q => by
  rintro ⟨F, ds, R, hx, r, hg, k⟩
  refine ⟨_, call_max2 hc, ?_⟩
  unfold bMax at hg
  split at hg
  · obtain ⟨v, u, rfl, q, q2⟩ := r.two_of
    cases q; cases q2
    exact ⟨_, _, rfl, k _ _ F H hg (.int _) (.refl hx)⟩
  · exact hg.elim
theorem cv_min (hc : X.calm = true) : CallV X (.builtin "min") bMin := CallR.any fun xs H Q => by
  rintro ⟨F, ds, R, hx, r, hg, k⟩
  refine ⟨_, call_min2 hc, ?_⟩
  unfold bMin at hg
  split at hg
  · obtain ⟨v, u, rfl, q, q2⟩ := r.two_of
    cases q; cases q2
    exact ⟨_, _, rfl, k _ _ F H hg (.int _) (.refl hx)⟩
  · exact hg.elim
theorem cv_int : CallV X (.type "int") bInt := CallR.any fun xs H Q => by
  rintro ⟨F, ds, R, hx, r, hg, k⟩
  refine ⟨_, call_int1, ?_⟩
  unfold bInt at hg
  split at hg
  · obtain ⟨v, rfl, q⟩ := r.one_of
    cases q
    exact .inl ⟨_, rfl, k _ _ F H hg (.int _) (.refl hx)⟩
  · obtain ⟨v, rfl, q⟩ := r.one_of
    cases q
    exact .inr ⟨_, rfl, k _ _ F H hg (.int _) (.refl hx)⟩
  · exact hg.elim
theorem cv_sum (hc : X.calm = true) : CallV X (.builtin "sum") bSum := CallR.any fun xs H Q => by
  rintro ⟨F, ds, R, hx, r, hg, k⟩
  refine ⟨_, cr_sum hc, ?_⟩
  unfold bSum at hg
  split at hg
  · obtain ⟨v, rfl, q⟩ := r.one_of
    obtain ⟨ns, rfl, q2⟩ := hg
    cases q with
    | lst h s =>
      have e := s.ints
      subst e
      exact ⟨_, ns, rfl, .of (hx _ _ h), k _ _ F H q2 (.int _) (.refl hx)⟩
  · exact hg.elim
theorem cv_all (hc : X.calm = true) : CallV X (.builtin "all") bAll := CallR.any fun xs H Q => by
  rintro ⟨F, ds, R, hx, r, hg, k⟩
  refine ⟨_, cr_all hc, ?_⟩
  unfold bAll at hg
  split at hg
  · obtain ⟨v, rfl, q⟩ := r.one_of
    obtain ⟨ns, rfl, q2⟩ := hg
    cases q with
    | lst h s =>
      have e := s.bools
      subst e
      exact ⟨_, ns, rfl, .of (hx _ _ h), k _ _ F H q2 (.bl _) (.refl hx)⟩
  · exact hg.elim
theorem cv_any (hc : X.calm = true) : CallV X (.builtin "any") bAny := CallR.any fun xs H Q => by
  rintro ⟨F, ds, R, hx, r, hg, k⟩
  refine ⟨_, cr_any hc, ?_⟩
  unfold bAny at hg
  split at hg
  · obtain ⟨v, rfl, q⟩ := r.one_of
    obtain ⟨ns, rfl, q2⟩ := hg
    cases q with
    | lst h s =>
      have e := s.bools
      subst e
      exact ⟨_, ns, rfl, .of (hx _ _ h), k _ _ F H q2 (.bl _) (.refl hx)⟩
  · exact hg.elim
theorem cv_tup : CallV X (.type "tuple") bTup := CallR.any fun xs H Q => by
  rintro ⟨F, ds, R, hx, r, hg, k⟩
  refine ⟨_, call_tuple_of, ?_⟩
  unfold bTup at hg
  split at hg
  · obtain ⟨v, rfl, q⟩ := r.one_of
    cases q with
    | lst h s =>
      rename_i a vs
      refine ⟨_, _, rfl, .inl ⟨.of (hx _ _ h), fun l hl => ?_⟩⟩
      have al := Al.one (o := .tup vs) hx hl
      exact k _ _ _ _ hg (.tup (.of upd_same) (s.mono al.xF)) al
  · obtain ⟨v, rfl, q⟩ := r.one_of
    cases q with
    | tup h s => exact ⟨_, _, rfl, .inr ⟨hx.sqT h, k _ _ F H hg (.tup h s) (.refl hx)⟩⟩
  · exact hg.elim
theorem cn_lst : CallN X (.type "list") bLst := CallR.any fun xs H Q => by
  rintro ⟨F, ds, R, hx, r, hg, k⟩
  refine ⟨_, call_list_of, ?_⟩
  unfold bLst at hg
  split at hg
  · obtain ⟨v, rfl, q⟩ := r.one_of
    cases q with
    | lst h s => exact ⟨_, _, rfl, .inl (.of (hx _ _ h)), fun l hl => k _ _ _ hg s hl⟩
  · obtain ⟨v, rfl, q⟩ := r.one_of
    cases q with
    | tup h s => exact ⟨_, _, rfl, .inr (hx.sqT h), fun l hl => k _ _ _ hg s hl⟩
  · obtain ⟨v, rfl, q⟩ := r.one_of
    cases q with
    | scr h => exact ⟨_, _, rfl, .inl (hx.sqL h), fun l hl => k _ _ _ hg (Reps.ofInts _) hl⟩
  · exact hg.elim
theorem bLst_l : ∀ ds R, bLst ds R → bLst ds fun d => R d ∧ ∃ es, d = .lst es := fun ds R h => by
  unfold bLst at h ⊢
  split at h
  · exact ⟨h, _, rfl⟩
  · exact ⟨h, _, rfl⟩
  · exact ⟨h, _, rfl⟩
  · exact h.elim
theorem cv_lst : CallV X (.type "list") bLst := vn_vc cn_lst bLst_l
/-- a built-in class as a value -/
theorem de_ty {x : Str} {pos : Pos} (t : Ty) (hg : Gl X x) (hm : X.mg x = none) (hv : bootBuiltins x = some (.type t.name)) (hn : x ≠ "__name__" := by decide) (hd : (x == ("__debug__" : Str)) = false := by decide) : DE X Φ (.Name x pos) (wC (.ty t)) :=
  de_c (pe_bltn (v := .ty t.name) hg hm hv rfl hn hd) fun _ => .ty t
theorem kit_tag {K : PySem.W.Frag} {F H : Hp} (hx : Ext F H) {v : V} {d : D} {t : Ty} {b : Bool} (r : Rep K F v d) (h : isi d t = some b) : ∃ n : String, TyX K H v (.type n) ∧ kitB n t.name = some b := by
  cases r with
  | non =>
    refine ⟨"NoneType", .base .non, ?_⟩
    cases t <;> (cases h; decide +kernel)
  | bl k =>
    refine ⟨"bool", .base (.bl k), ?_⟩
    cases t <;> (cases h; decide +kernel)
  | int k =>
    refine ⟨"int", .base (.int k), ?_⟩
    cases t <;> (cases h; decide +kernel)
  | str k =>
    refine ⟨"str", .base (.str k), ?_⟩
    cases t <;> (cases h; decide +kernel)
  | tup q s =>
    refine ⟨"tuple", ?_, ?_⟩
    · rcases hx.sqT q with (q | ⟨o, q⟩) | ⟨o, its, n, q, c, _⟩
      · exact .base (.tup q)
      · exact .fTuple q
      · exact .kTuple q c
    · cases t <;> (cases h; decide +kernel)
  | lst q s =>
    refine ⟨"list", .base (.lst (hx _ _ q)), ?_⟩
    cases t <;> (cases h; decide +kernel)
  | dct q z s =>
    refine ⟨"dict", .base (.dK (hx _ _ q)), ?_⟩
    cases t <;> (cases h; decide +kernel)
  | _ => cases h
theorem cv_isi : CallV X (.builtin "isinstance") bIsi := CallR.any fun xs H Q => by
  rintro ⟨F, ds, R, hx, r, hg, k⟩
  refine ⟨_, call_isi, ?_⟩
  unfold bIsi at hg
  split at hg
  · obtain ⟨v, u, rfl, q, q2⟩ := r.two_of
    cases q2
    obtain ⟨b, hb, h⟩ := hg
    obtain ⟨n, h1, h2⟩ := kit_tag hx q hb
    exact ⟨_, _, _, _, b, rfl, .ty _, h1, kit_ty h2, k _ _ F H h (.bl _) (.refl hx)⟩
  · exact hg.elim
end
end VL

set_option Elab.async false
set_option linter.all false
set_option maxRecDepth 100000
set_option maxHeartbeats 4000000
/-! VL4: subscripts, slices, targets, iterables, statements, comprehensions. -/
namespace VL
open PySem PySem.Spec L2
/-! ### subscripts -/
def ixD (h : Oh) : O2
  | .tup ds, .int i, R => ∃ d, atI ds i = some d ∧ R d
  | .lst ds, .int i, R => ∃ d, atI ds i = some d ∧ R d
  | .str x, .int i, R => x.length ≤ sizeLine ∧ ∃ c, atI x.cps.toList i = some c ∧ R (.str ⟨#[c]⟩)
  | .obj a, .int i, R => ∃ ds d, h a = some (.ml ds) ∧ atI ds i = some d ∧ R d
  | _, _, _ => False
def wIx (wa wb : WE) : WE := fun S R => wa S fun x S1 => wb S1 fun y S2 => ixD S2.h x y fun z => R z S2
def slv : Sl → Option D
  | .f d => some d
  | .o d => some d
  | .u => none
/-- x[..] of a name that may own its list -/
def wIxO (i : Nat) (wb : WE) : WE := fun S R => (∃ e, (S.s[i]?).bind slv = some e) ∧ wb S fun y S1 => ∃ d, (S1.s[i]?).bind slv = some d ∧ ixD S1.h d y fun z => R z S1
/-- len of a name that may own its list -/
def wLenO (i : Nat) : WE := fun S R => ∃ ds, (S.s[i]?).bind slv = some (.lst ds) ∧ R (.int ds.length) S
def rVo (K : PySem.W.Frag) : R2 := fun x y H Q => ∃ F h d e R, Ext F H ∧ (∀ a ob, h a = some ob → ObAt K F H a ob) ∧ Rep K F x d ∧ Rep K F y e ∧ ixD h d e R ∧ ∀ z v, R z → Rep K F v z → Q v H
section
variable {X : Cx} {Φ : En → Prop} {a b e : Expr} {es : List Expr} {w wa wb : WE} {ws : WA} {n : Nat} {pos p : Pos} {K : PySem.W.Frag} {F H : Hp}
theorem Reps.at {vs : List V} {ds : List D} {i : Int} {d : D} (r : Reps K F vs ds) (h : atI ds i = some d) : ∃ v, atI vs i = some v ∧ Rep K F v d := by
  unfold atI at h ⊢
  rw [r.length]
  cases e : ixN ds.length i with
  | none => rw [e] at h; cases h
  | some j =>
    rw [e] at h
    exact r.get h
theorem ix_v : IxR X (rVo X.K) := IxR.any fun x y H Q => by
  rintro ⟨F, h, d, e, R, hx, ho, r1, r2, hg, k⟩
  refine ⟨_, ix_seq, ?_⟩
  unfold ixD at hg
  split at hg
  · cases r2
    obtain ⟨d, h1, h2⟩ := hg
    cases r1 with
    | tup q s =>
      obtain ⟨v, h3, h4⟩ := s.at h1
      exact .inr (.inl ⟨_, _, _, v, rfl, rfl, hx.sqT q, h3, k _ _ h2 h4⟩)
  · cases r2
    obtain ⟨d, h1, h2⟩ := hg
    cases r1 with
    | lst q s =>
      obtain ⟨v, h3, h4⟩ := s.at h1
      exact .inl ⟨_, _, _, v, rfl, rfl, .of (hx _ _ q), h3, k _ _ h2 h4⟩
  · cases r2
    cases r1
    obtain ⟨hl, c, h1, h2⟩ := hg
    exact .inr (.inr ⟨_, _, c, rfl, rfl, hl, h1, k _ _ h2 (.str _)⟩)
  · cases r2
    obtain ⟨ds, d, h0, h1, h2⟩ := hg
    cases r1 with
    | obj =>
      obtain ⟨vs, q, s⟩ := ho _ _ h0
      obtain ⟨v, h3, h4⟩ := s.at h1
      exact .inl ⟨_, _, _, v, rfl, rfl, .of q, h3, k _ _ h2 h4⟩
  · exact hg.elim
theorem de_ix (ha : DE X Φ a wa) (hb : DE X Φ b wb) (hs : PlainIx b) : DE X Φ (.Subscript a b pos) (wIx wa wb) := fun E hE => PE.imp (pe_ix ix_v (ha E hE) (hb E hE) hs) fun σ H Q => by
  rintro ⟨S, F, R, hR, hw, k⟩
  refine ⟨S, F, _, hR, hw, fun x S1 v1 F1 H1 hw1 r1 hR1 x1 => ?_⟩
  refine ⟨S1, F1, _, hR1, hw1, fun y S2 v2 F2 H2 hw2 r2 hR2 x2 => ?_⟩
  exact ⟨F2, S2.h, x, y, _, hR2.g.ext, fun a ob q => (hR2.g.obs a ob q).1, r1.mono x2, r2, hw2, fun z v hz rz => k z S2 v F2 H2 hz rz hR2 (x1.trans x2)⟩
theorem Rel.slot {E : En} {σ : L2.St} {S : Sg} {i : Nat} {e : D} (hR : Rel K E F H σ S) (h : (S.s[i]?).bind slv = some e) : ∃ v, σ[i]? = some (some v) ∧ ((S.s[i]? = some (.f e) ∧ Rep K F v e) ∨ (S.s[i]? = some (.o e) ∧ ∃ p, v = .ref p ∧ OwAt K F H p e)) := by
  cases q : S.s[i]? with
  | none => rw [q] at h; cases h
  | some x =>
    rw [q] at h
    cases x with
    | u => cases h
    | f d =>
      cases h
      obtain ⟨v, h1, h2⟩ := hR.frz i _ q
      exact ⟨v, h1, .inl ⟨rfl, h2⟩⟩
    | o d =>
      cases h
      obtain ⟨p, h1, h2, _⟩ := hR.own i _ q
      exact ⟨_, h1, .inr ⟨rfl, p, rfl, h2⟩⟩
theorem de_ixO {x : Str} (i : Nat) (h : PE X (.Name x p) (tVar i)) (hb : DE X Φ b wb) (hs : PlainIx b) : DE X Φ (.Subscript (.Name x p) b pos) (wIxO i wb) := fun E hE => PE.imp (pe_ix (IxR.or ix_v ix_list) h (hb E hE) hs) fun σ H Q => by
  rintro ⟨S, F, R, hR, ⟨⟨e, he⟩, hw⟩, k⟩
  obtain ⟨v, h1, _⟩ := hR.slot he
  refine ⟨_, h1, ?_⟩
  refine ⟨S, F, _, hR, hw, fun y S1 v1 F1 H1 hw1 r1 hR1 x1 => ?_⟩
  obtain ⟨d, g1, g2⟩ := hw1
  obtain ⟨v', h2, h3⟩ := hR1.slot g1
  rw [h1] at h2
  cases h2
  rcases h3 with ⟨_, rd⟩ | ⟨_, q, rfl, ho⟩
  · exact .inl ⟨F1, S1.h, d, y, _, hR1.g.ext, fun a ob q => (hR1.g.obs a ob q).1, rd, r1, g2, fun z v hz rz => k z S1 v F1 H1 hz rz hR1 x1⟩
  · cases d with
    | lst ds =>
      obtain ⟨vs, q, s⟩ := ho
      cases r1 with
      | int i =>
        obtain ⟨d, g3, g4⟩ := g2
        obtain ⟨v, h3, h4⟩ := s.at g3
        exact .inr ⟨_, _, _, v, rfl, rfl, .of q, h3, k d S1 v F1 H1 g4 h4 hR1 x1⟩
      | _ => exact g2.elim
    | dct => cases r1 <;> exact g2.elim
    | dcu => cases r1 <;> exact g2.elim
    | _ => exact ho.elim
theorem de_lenO {x y : Str} {p2 : Pos} (i : Nat) (h : PE X (.Name x p) (tVar i)) (hg : Gl X y) (hm : X.mg y = none) (hv : bootBuiltins y = some (.builtin "len")) (hn : y ≠ "__name__" := by decide) (hdb : (y == ("__debug__" : Str)) = false := by decide)
    (he : starEach [.Name x p] X.env = (false, eval (.Name x p) X.env) :: starEach [] X.env := by rfl) (hpl : (backTo pos (starEach [] X.env)).any (·.1) = false := by rfl) : DE X Φ (.Call (.Name y p2) [.Name x p] [] pos) (wLenO i) := fun E hE => PE.imp (pe_callB call_len hg hm hv (pa_cons h pa_nil he) hn hdb he hpl) fun σ H Q => by
  rintro ⟨S, F, R, hR, ⟨ds, hd, hw⟩, k⟩
  obtain ⟨v, h1, h2⟩ := hR.slot hd
  have hl : ∃ a vs, v = .ref a ∧ H a = some (.lst vs) ∧ vs.length = ds.length := by
    rcases h2 with ⟨_, r⟩ | ⟨_, q, rfl, vs, q1, s⟩
    · cases r with
      | lst q s => exact ⟨_, _, rfl, hR.g.ext _ _ q, s.length⟩
    · exact ⟨_, _, rfl, q1, s.length⟩
  obtain ⟨a, vs, rfl, q, l⟩ := hl
  refine ⟨_, h1, _, _, rfl, .inl ⟨vs, .of q, rfl⟩, ?_⟩
  rw [l]
  exact k _ S _ F H hw (.int _) hR (.refl _)
end

/-! ### slices -/
def cutD {α : Type} (xs : List α) (lo hi : Option Int) : List α := (xs.drop (HT.sIx xs.length 0 lo)).take (HT.sIx xs.length xs.length hi - HT.sIx xs.length 0 lo)
abbrev WO := Sg → (Option Int → Sg → Prop) → Prop
def wNoPart : WO := fun S R => R none S
def wPart (w : WE) : WO := fun S R => w S fun d S1 => match d with
  | .int i => R (some i) S1
  | _ => False
def slD : D → Option Int → Option Int → (D → Prop) → Prop
  | .tup ds, lo, hi, R => R (.tup (cutD ds lo hi))
  | .lst ds, lo, hi, R => R (.lst (cutD ds lo hi))
  | .str x, lo, hi, R => x.length ≤ sizeLine ∧ R (.str (cutS x lo hi))
  | _, _, _, _ => False
def wSl (w : WE) (lo hi : WO) : WE := fun S R => w S fun d S1 => lo S1 fun l S2 => hi S2 fun u S3 => slD d l u fun z => R z S3
def LO (K : PySem.W.Frag) (E : En) (w : WO) : TO := fun σ H Q => ∃ S F R, Rel K E F H σ S ∧ w S R ∧ ∀ o S' F' H', R o S' → Rel K E F' H' σ S' → Ext F F' → Q o H'
def DO (X : Cx) (Φ : En → Prop) (e : Option Expr) (w : WO) : Prop := ∀ E, Φ E → PO X e (LO X.K E w)
section
variable {X : Cx} {Φ : En → Prop} {a b e : Expr} {es : List Expr} {w wa wb : WE} {lo hi : Option Expr} {wl wh : WO} {pos p : Pos} {K : PySem.W.Frag} {F H : Hp}
theorem PO.imp {X : Cx} {e : Option Expr} {t t' : TO} (h : PO X e t) (hi : ∀ σ H Q, t' σ H Q → t σ H Q) : PO X e t' := ⟨fun pins s σ H Q I q => h.run pins s σ H Q I (hi _ _ _ q)⟩
theorem do_none : DO X Φ none wNoPart := fun E hE => PO.imp po_none fun σ H Q => by
  rintro ⟨S, F, R, hR, hw, k⟩
  exact k none S F H hw hR (.refl _)
theorem do_some (h : DE X Φ e w) : DO X Φ (some e) (wPart w) := fun E hE => PO.imp (po_some (h E hE)) fun σ H Q => by
  rintro ⟨S, F, R, hR, hw, k⟩
  refine ⟨S, F, _, hR, hw, fun x S1 v1 F1 H1 hw1 r1 hR1 x1 => ?_⟩
  cases r1 with
  | int i => exact ⟨i, rfl, k _ S1 F1 H1 hw1 hR1 x1⟩
  | _ => exact hw1.elim
theorem Reps.cut {vs : List V} {ds : List D} (r : Reps K F vs ds) (lo hi : Option Int) : Reps K F (cutV vs lo hi) (cutD ds lo hi) := by
  unfold cutV cutD
  rw [r.length]
  exact (r.drop _).take _
theorem SlR.any {r : V → Option Int → Option Int → Hp → VK → Prop} (h : ∀ x lo hi H Q, r x lo hi H Q → ∃ r', SlR X r' ∧ r' x lo hi H Q) : SlR X r := fun pins s σ H x v vl vu lo hi sl Q I rx h1 h2 h3 q =>
  let ⟨_, ho, q'⟩ := h x lo hi H Q q
  ho pins s σ H x v vl vu lo hi sl Q I rx h1 h2 h3 q'
theorem sl_v : SlR X fun x lo hi H Q => ∃ F d R, Ext F H ∧ Rep X.K F x d ∧ slD d lo hi R ∧ ∀ z v F' H', R z → Rep X.K F' v z → Al F H F' H' → Q v H' := SlR.any fun x lo hi H Q => by
  rintro ⟨F, d, R, hx, r1, hg, k⟩
  unfold slD at hg
  split at hg
  · cases r1 with
    | tup q s =>
      rename_i a vs
      refine ⟨_, sl_tupA, a, vs, rfl, hx.sqT q, fun z => ?_, fun z p hp => ?_⟩
      · have e : cutV vs lo hi = vs := by
          unfold cutV
          rw [z.1, z.2]
          simp
        have sc := s.cut lo hi
        rw [e] at sc
        exact k _ _ F H hg (.tup q sc) (.refl hx)
      · have al := Al.one (o := .tup (cutV vs lo hi)) hx hp
        exact k _ _ _ _ hg (.tup (.of upd_same) ((s.cut lo hi).mono al.xF)) al
  · cases r1 with
    | lst q s =>
      rename_i a vs
      refine ⟨_, sl_list, a, vs, rfl, .of (hx _ _ q), fun p hp => ?_⟩
      have al := Al.one (o := .lst (cutV vs lo hi)) hx hp
      exact k _ _ _ _ hg (.lst upd_same ((s.cut lo hi).mono al.xF)) al
  · cases r1
    exact ⟨_, sl_str, _, rfl, hg.1, k _ _ F H hg.2 (.str _) (.refl hx)⟩
  · exact hg.elim
theorem de_sl {p2 : Pos} (he : DE X Φ e w) (hl : DO X Φ lo wl) (hu : DO X Φ hi wh) : DE X Φ (.Subscript e (.Slice lo hi none p2) pos) (wSl w wl wh) := fun E hE => PE.imp (pe_slice sl_v (he E hE) (hl E hE) (hu E hE)) fun σ H Q => by
  rintro ⟨S, F, R, hR, hw, k⟩
  refine ⟨S, F, _, hR, hw, fun x S1 v1 F1 H1 hw1 r1 hR1 x1 => ?_⟩
  refine ⟨S1, F1, _, hR1, hw1, fun l S2 F2 H2 hw2 hR2 x2 => ?_⟩
  refine ⟨S2, F2, _, hR2, hw2, fun u S3 F3 H3 hw3 hR3 x3 => ?_⟩
  exact ⟨F3, x, _, hR3.g.ext, (r1.mono x2).mono x3, hw3, fun z v F' H' hz rz al => k z S3 v F' H' hz rz (hR3.al al) (((x1.trans x2).trans x3).trans al.xF)⟩
end

/-! ### targets -/
def gVar (i : Nat) : WG := fun d S R => R (S.st i (.f d))
abbrev WGs := List D → Sg → (Sg → Prop) → Prop
def gsNil : WGs := fun ds S R => match ds with
  | [] => R S
  | _ => False
def gsCons (g : WG) (gs : WGs) : WGs := fun ds S R => match ds with
  | d :: r => g d S fun S1 => gs r S1 R
  | [] => False
def gTp (n : Nat) (gs : WGs) : WG := fun d S R => match d with
  | .tup ds => ds.length = n ∧ gs ds S R
  | _ => False
/-- o[i] = .., o a known list -/
def gIxM (wo wi : WE) : WG := fun d S R => wo S fun x S1 => wi S1 fun y S2 => ∃ a ds j k, x = .obj a ∧ y = .int j ∧ S2.h a = some (.ml ds) ∧ ixN ds.length j = some k ∧ R (S2.ob a (.ml (ds.set k d)))
/-- x[i] = .., x owns its list -/
def gIxO (i : Nat) (wi : WE) : WG := fun d S R => (∃ e, S.s[i]? = some (.o e)) ∧ wi S fun y S1 => ∃ ds j k, S1.s[i]? = some (.o (.lst ds)) ∧ y = .int j ∧ ixN ds.length j = some k ∧ R (S1.st i (.o (.lst (ds.set k d))))
def LGs (K : PySem.W.Frag) (E : En) (g : WGs) : TGs := fun vs σ H Q => ∃ S F ds R, Rel K E F H σ S ∧ Reps K F vs ds ∧ g ds S R ∧ ∀ S' σ' F' H', R S' → Rel K E F' H' σ' S' → Ext F F' → Q σ' H'
def DGs (X : Cx) (Φ : En → Prop) (es : List Expr) (g : WGs) : Prop := ∀ E, Φ E → PGs X es (LGs X.K E g)
section
variable {X : Cx} {Φ : En → Prop} {a b e o i : Expr} {es : List Expr} {w wo wi : WE} {g : WG} {gs : WGs} {pos p : Pos}
theorem PGs.imp {t t' : TGs} (h : PGs X es t) (hi : ∀ v σ H Q, t' v σ H Q → t v σ H Q) : PGs X es t' := ⟨fun pins s σ H v u Q I r q => h.run pins s σ H v u Q I r (hi _ _ _ _ q)⟩
theorem dg_var {x : Str} (i : Nat) (h : PG X (.Name x pos) (gName i)) : DG X Φ (.Name x pos) (gVar i) := fun E hE => PG.imp h fun v σ H Q => by
  rintro ⟨S, F, d, R, hR, r, hg, k⟩
  exact k _ _ F H hg (hR.set r) (.refl _)
theorem dgs_nil : DGs X Φ [] gsNil := fun E hE => PGs.imp pgs_nil fun v σ H Q => by
  rintro ⟨S, F, d, R, hR, r, hg, k⟩
  cases r with
  | nil => exact ⟨rfl, k S σ F H hg hR (.refl _)⟩
  | cons => exact hg.elim
theorem dgs_cons (h : DG X Φ e g) (hs : DGs X Φ es gs) (hh : (assignEach (e :: es) X.env).map (·.2) = assign e X.env :: (assignEach es X.env).map (·.2) := by rfl) : DGs X Φ (e :: es) (gsCons g gs) := fun E hE => PGs.imp (pgs_cons (h E hE) (hs E hE) hh) fun v σ H Q => by
  rintro ⟨S, F, ds, R, hR, r, hg, k⟩
  cases r with
  | nil => exact hg.elim
  | cons r1 r2 =>
    refine ⟨_, _, rfl, S, F, _, _, hR, r1, hg, fun S1 σ1 F1 H1 hg1 hR1 x1 => ?_⟩
    exact ⟨S1, F1, _, R, hR1, r2.mono x1, hg1, fun S2 σ2 F2 H2 h2 hR2 x2 => k S2 σ2 F2 H2 h2 hR2 (x1.trans x2)⟩
theorem dg_tup {k n : Nat} (hc : X.calm = true) (h : DGs X Φ es gs) (hn : (assignEach es X.env).length = n := by rfl) (hst : (assignEach es X.env).findIdx? (·.1) = none := by rfl) : DG X Φ (.Tuple es k pos) (gTp n gs) := fun E hE => PG.imp (pg_tup hc (h E hE) hn hst) fun v σ H Q => by
  rintro ⟨S, F, d, R, hR, r, hg, k⟩
  cases r with
  | tup q s => exact ⟨_, _, rfl, hR.g.ext.sqT q, s.length.trans hg.1, S, F, _, R, hR, s, hg.2, k⟩
  | _ => exact hg.elim
theorem dg_ixM (ho : DE X Φ o wo) (hi : DE X Φ i wi) (ha : ∀ v, assign (.Subscript o i pos) X.env v = (do
      let ov ← holding [v] (eval o X.env)
      let iv ← holding [v, ov] (eval i X.env)
      standAt pos
      holding [v, ov, iv] (setItem ov iv v)
      release [v, ov, iv] []) := by intro _; rfl) : DG X Φ (.Subscript o i pos) (gIxM wo wi) := fun E hE => PG.imp (pg_sub (ho E hE) (hi E hE) set_list ha) fun v σ H Q => by
  rintro ⟨S, F, d, R, hR, r, hg, k⟩
  refine ⟨S, F, _, hR, hg, fun x S1 v1 F1 H1 hw1 r1 hR1 x1 => ?_⟩
  refine ⟨S1, F1, _, hR1, hw1, fun y S2 v2 F2 H2 hw2 r2 hR2 x2 => ?_⟩
  obtain ⟨a, ds, j, m, rfl, rfl, h1, h2, h3⟩ := hw2
  cases r1; cases r2
  obtain ⟨vs, q, s⟩ := (hR2.g.obs _ _ h1).1
  refine ⟨a, vs, j, m, rfl, rfl, q, by rw [s.length]; exact h2, ?_⟩
  exact k _ _ F2 _ h3 (hR2.obput (by rw [h1]; simp) ⟨_, upd_same, s.set m ((r.mono x1).mono x2)⟩) (x1.trans x2)
theorem dg_ixO {x : Str} {px : Pos} (j : Nat) (h : PE X (.Name x px) (tVar j)) (hi : DE X Φ i wi) (ha : ∀ v, assign (.Subscript (.Name x px) i pos) X.env v = (do
      let ov ← holding [v] (eval (.Name x px) X.env)
      let iv ← holding [v, ov] (eval i X.env)
      standAt pos
      holding [v, ov, iv] (setItem ov iv v)
      release [v, ov, iv] []) := by intro _; rfl) : DG X Φ (.Subscript (.Name x px) i pos) (gIxO j wi) := fun E hE => PG.imp (pg_sub h (hi E hE) set_list ha) fun v σ H Q => by
  rintro ⟨S, F, d, R, hR, r, ⟨⟨e, he⟩, hg⟩, k⟩
  obtain ⟨p, h1, _⟩ := hR.own j e he
  refine ⟨_, h1, S, F, _, hR, hg, fun y S1 v1 F1 H1 hw1 r1 hR1 x1 => ?_⟩
  obtain ⟨ds, z, m, g1, rfl, g2, g3⟩ := hw1
  obtain ⟨p', h2, ⟨vs, q, s⟩, _⟩ := hR1.own j _ g1
  rw [h1] at h2
  cases h2
  cases r1
  refine ⟨_, vs, z, m, rfl, rfl, q, by rw [s.length]; exact g2, ?_⟩
  exact k _ _ F1 _ g3 (hR1.mut g1 h1 ⟨_, upd_same, s.set m (r.mono x1)⟩) x1
end

/-! ### iterables -/
def wRng1 (w : WA) : WA := fun S R => w S fun ds S1 => match ds with
  | [.int j] => (-(2 ^ 62) ≤ j ∧ j < 2 ^ 62) ∧ R ((List.range j.toNat).map fun i => .int (i : Nat)) S1
  | _ => False
def wRng2 (w : WA) : WA := fun S R => w S fun ds S1 => match ds with
  | [.int i, .int j] => (-(2 ^ 62) ≤ i ∧ i < 2 ^ 62 ∧ -(2 ^ 62) ≤ j ∧ j < 2 ^ 62) ∧ R ((List.range (j - i).toNat).map fun k => .int (i + (k : Nat))) S1
  | _ => False
def wItL (w : WE) : WA := fun S R => w S fun d S1 => match d with
  | .lst ds => R ds S1
  | _ => False
def wItT (w : WE) : WA := fun S R => w S fun d S1 => match d with
  | .tup ds => R ds S1
  | _ => False
def chars (x : Str) : List D := x.cps.toList.map fun c => .str ⟨#[c]⟩
def wItS (w : WE) : WA := fun S R => w S fun d S1 => match d with
  | .str x => R (chars x) S1
  | _ => False
def wZip (w : WA) : WA := fun S R => w S fun ds S1 => match ds with
  | [.lst xs, .lst ys] => R (List.zipWith (fun x y => .tup [x, y]) xs ys) S1
  | _ => False
def wEnum (w : WA) : WA := fun S R => w S fun ds S1 => match ds with
  | [.lst xs] => R (xs.zipIdx.map fun p => .tup [.int (p.2 : Nat), p.1]) S1
  | _ => False
section
variable {X : Cx} {Φ : En → Prop} {a b e tg : Expr} {es : List Expr} {w : WE} {ws : WA} {n : Nat} {pos p : Pos} {K : PySem.W.Frag} {F H : Hp}
theorem feeds_list {c : Addr} {vs : List V} {ds : List D} (h : F c = some (.lst vs)) (s : Reps K F vs ds) : Feeds K (Itl K c) F ds := fun F' H' x1 x2 =>
  ⟨fun i d hd => by
    obtain ⟨v, h1, h2⟩ := s.get hd
    have hq : SqL K H' c vs := .of (x2 _ _ (x1 _ _ h))
    refine ⟨⟨vs, v, hq, h1⟩, fun x H3 hy => ?_⟩
    obtain ⟨rfl, hy⟩ := hy
    have e : x = v := Option.some.inj ((hy _ hq).symm.trans h1)
    subst e
    exact ⟨F', .refl x2, h2.mono x1⟩, fun i hi => ⟨vs, .of (x2 _ _ (x1 _ _ h)), by rw [s.length]; exact hi⟩⟩
theorem feeds_tup {c : Addr} {vs : List V} {ds : List D} (h : SqT K F c vs) (s : Reps K F vs ds) : Feeds K (Itt K c) F ds := fun F' H' x1 x2 =>
  ⟨fun i d hd => by
    obtain ⟨v, h1, h2⟩ := s.get hd
    have hq : SqT K H' c vs := x2.sqT (x1.sqT h)
    refine ⟨⟨vs, v, hq, h1⟩, fun x H3 hy => ?_⟩
    obtain ⟨rfl, hy⟩ := hy
    have e : x = v := Option.some.inj ((hy _ hq).symm.trans h1)
    subst e
    exact ⟨F', .refl x2, h2.mono x1⟩, fun i hi => ⟨vs, x2.sqT (x1.sqT h), by rw [s.length]; exact hi⟩⟩
theorem feeds_rng {lo : Int} {n : Nat} : Feeds K (Itr lo n) F ((List.range n).map fun k => .int (lo + (k : Nat))) := fun F' H' x1 x2 =>
  ⟨fun i d hd => by
    rw [List.getElem?_map] at hd
    cases e : (List.range n)[i]? with
    | none => rw [e] at hd; cases hd
    | some j =>
      rw [e] at hd
      have hi : i < n := by simpa using ix_lt e
      rw [List.getElem?_range hi] at e
      cases e
      cases hd
      refine ⟨hi, fun x H3 hy => ?_⟩
      obtain ⟨rfl, rfl⟩ := hy
      exact ⟨F', .refl x2, .int _⟩, fun i hi => (by simpa using hi : n ≤ i)⟩
theorem feeds_str {x : Str} : Feeds K (Its x) F (chars x) := fun F' H' x1 x2 =>
  ⟨fun i d hd => by
    unfold chars at hd
    rw [List.getElem?_map] at hd
    cases e : x.cps.toList[i]? with
    | none => rw [e] at hd; cases hd
    | some j =>
      rw [e] at hd
      cases hd
      have hi : i < x.cps.size := by simpa using ix_lt e
      refine ⟨hi, fun y H3 hy => ?_⟩
      obtain ⟨rfl, c, h1, rfl⟩ := hy
      have : x.cps[i]? = some j := by simpa using e
      rw [this] at h1
      cases h1
      exact ⟨F', .refl x2, .str _⟩, fun i hi => by
    have : x.cps.size ≤ i := by simpa [chars] using hi
    exact this⟩
theorem feeds_zip {a b : Addr} {vs us : List V} {ds es : List D} (h : F a = some (.lst vs)) (s : Reps K F vs ds) (h' : F b = some (.lst us)) (s' : Reps K F us es) : Feeds K (Itz K a b) F (List.zipWith (fun x y => .tup [x, y]) ds es) := fun F' H' x1 x2 => by
  have hq : SqL K H' a vs := .of (x2 _ _ (x1 _ _ h))
  have hq' : SqL K H' b us := .of (x2 _ _ (x1 _ _ h'))
  refine ⟨fun i d hd => ?_, fun i hi => ?_⟩
  · rw [List.getElem?_zipWith] at hd
    cases e1 : ds[i]? with
    | none => rw [e1] at hd; cases hd
    | some y =>
      cases e2 : es[i]? with
      | none => rw [e1, e2] at hd; cases hd
      | some z =>
        rw [e1, e2] at hd
        cases hd
        obtain ⟨v, h1, h2⟩ := s.get e1
        obtain ⟨u, h3, h4⟩ := s'.get e2
        refine ⟨⟨vs, us, v, u, hq, hq', h1, h3⟩, fun x H3 hy => ?_⟩
        obtain ⟨T, q, r, rfl, hT, rfl, f1, f2⟩ := hy
        have e1 : q = v := Option.some.inj ((f1 _ hq).symm.trans h1)
        have e2 : r = u := Option.some.inj ((f2 _ hq').symm.trans h3)
        subst e1
        subst e2
        have al := Al.one (o := .tup [q, r]) x2 hT
        exact ⟨_, al, .tup (.of upd_same) (((Reps.cons h2 (.one h4)).mono x1).mono al.xF)⟩
  · rw [List.length_zipWith] at hi
    refine ⟨vs, us, hq, hq', ?_⟩
    rw [s.length, s'.length]
    omega
theorem feeds_enum {a : Addr} {vs : List V} {ds : List D} (h : F a = some (.lst vs)) (s : Reps K F vs ds) : Feeds K (Ite K a) F (ds.zipIdx.map fun p => .tup [.int (p.2 : Nat), p.1]) := fun F' H' x1 x2 => by
  have hq : SqL K H' a vs := .of (x2 _ _ (x1 _ _ h))
  refine ⟨fun i d hd => ?_, fun i hi => ?_⟩
  · rw [List.getElem?_map, List.getElem?_zipIdx] at hd
    cases e1 : ds[i]? with
    | none => rw [e1] at hd; cases hd
    | some y =>
      rw [e1] at hd
      cases hd
      obtain ⟨v, h1, h2⟩ := s.get e1
      refine ⟨⟨vs, v, hq, h1⟩, fun x H3 hy => ?_⟩
      obtain ⟨T, q, rfl, hT, rfl, f1⟩ := hy
      have e1 : q = v := Option.some.inj ((f1 _ hq).symm.trans h1)
      subst e1
      have al := Al.one (o := .tup [.int (i : Nat), q]) x2 hT
      have z : 0 + i = i := Nat.zero_add i
      refine ⟨_, al, .tup (.of upd_same) (((Reps.cons ?_ (.one h2)).mono x1).mono al.xF)⟩
      show Rep K F (.int (i : Nat)) (.int ((0 + i : Nat) : Int))
      rw [z]
      exact .int _
  · rw [List.length_map, List.length_zipIdx] at hi
    exact ⟨vs, hq, by rw [s.length]; exact hi⟩
theorem di_list (he : DE X Φ e w) : DI X Φ tg e (wItL w) := fun E hE => PI.imp (pi_list (he E hE)) fun σ H Q => by
  rintro ⟨S, F, R, hR, hw, k⟩
  refine ⟨S, F, _, hR, hw, fun d S1 v F1 H1 hw1 r hR1 x1 => ?_⟩
  cases r with
  | lst q s => exact ⟨_, rfl, ⟨_, .of (hR1.g.ext _ _ q)⟩, k _ S1 _ F1 H1 hw1 (feeds_list q s) hR1 x1⟩
  | _ => exact hw1.elim
theorem di_tup (he : DE X Φ e w) : DI X Φ tg e (wItT w) := fun E hE => PI.imp (pi_tup (he E hE)) fun σ H Q => by
  rintro ⟨S, F, R, hR, hw, k⟩
  refine ⟨S, F, _, hR, hw, fun d S1 v F1 H1 hw1 r hR1 x1 => ?_⟩
  cases r with
  | tup q s => exact ⟨_, rfl, ⟨_, hR1.g.ext.sqT q⟩, k _ S1 _ F1 H1 hw1 (feeds_tup q s) hR1 x1⟩
  | _ => exact hw1.elim
theorem di_str (he : DE X Φ e w) : DI X Φ tg e (wItS w) := fun E hE => PI.imp (pi_str (he E hE)) fun σ H Q => by
  rintro ⟨S, F, R, hR, hw, k⟩
  refine ⟨S, F, _, hR, hw, fun d S1 v F1 H1 hw1 r hR1 x1 => ?_⟩
  cases r with
  | str => exact ⟨_, rfl, k _ S1 _ F1 H1 hw1 feeds_str hR1 x1⟩
  | _ => exact hw1.elim
theorem di_rng1 (hg : Gl X "range") (hm : X.mg "range" = none) (ha : DA X Φ [a] n ws) (hs : starEach [a] X.env = [(false, eval a X.env)] := by rfl) : DI X Φ tg (.Call (.Name "range" p) [a] [] pos) (wRng1 ws) := fun E hE => PI.imp (pi_range1 hg hm (ha E hE) hs) fun σ H Q => by
  rintro ⟨S, F, R, hR, hw, k⟩
  refine ⟨S, F, _, hR, hw, fun ds S1 vs F1 H1 hw1 l1 r1 hR1 x1 => ?_⟩
  split at hw1
  · obtain ⟨v, rfl, q⟩ := r1.one_of
    cases q
    rename_i j
    refine ⟨j, rfl, hw1.1.1, hw1.1.2, k _ S1 _ F1 H1 hw1.2 ?_ hR1 x1⟩
    have h := feeds_rng (K := X.K) (F := F1) (lo := 0) (n := j.toNat)
    simp only [Int.zero_add] at h
    exact h
  · exact hw1.elim
theorem di_rng2 (hg : Gl X "range") (hm : X.mg "range" = none) (ha : DA X Φ [a, b] n ws) (hs : starEach [a, b] X.env = [(false, eval a X.env), (false, eval b X.env)] := by rfl) (hs2 : starEach [b] X.env = [(false, eval b X.env)] := by rfl) : DI X Φ tg (.Call (.Name "range" p) [a, b] [] pos) (wRng2 ws) := fun E hE => PI.imp (pi_range2 hg hm (ha E hE) hs hs2) fun σ H Q => by
  rintro ⟨S, F, R, hR, hw, k⟩
  refine ⟨S, F, _, hR, hw, fun ds S1 vs F1 H1 hw1 l1 r1 hR1 x1 => ?_⟩
  split at hw1
  · obtain ⟨v, u, rfl, q, q2⟩ := r1.two_of
    cases q; cases q2
    exact ⟨_, _, rfl, hw1.1, k _ S1 _ F1 H1 hw1.2 feeds_rng hR1 x1⟩
  · exact hw1.elim
theorem di_zip {tpos : Pos} {elts : List Expr} {kk : Nat} (hg : Gl X "zip") (hm : X.mg "zip" = none) (ha : DA X Φ [a, b] n ws) (hp : ∀ t, PA X [a, b] t → PI X (.Tuple elts kk tpos) (.Call (.Name "zip" p) [a, b] [] pos) (iZip X.K t)) : DI X Φ (.Tuple elts kk tpos) (.Call (.Name "zip" p) [a, b] [] pos) (wZip ws) := fun E hE => PI.imp (hp _ (ha E hE)) fun σ H Q => by
  rintro ⟨S, F, R, hR, hw, k⟩
  refine ⟨S, F, _, hR, hw, fun ds S1 vs F1 H1 hw1 l1 r1 hR1 x1 => ?_⟩
  split at hw1
  · obtain ⟨v, u, rfl, q, q2⟩ := r1.two_of
    cases q with
    | lst h s =>
      cases q2 with
      | lst h' s' => exact ⟨_, _, _, _, rfl, .of (hR1.g.ext _ _ h), .of (hR1.g.ext _ _ h'), k _ S1 _ F1 H1 hw1 (feeds_zip h s h' s') hR1 x1⟩
  · exact hw1.elim
end
end VL

set_option Elab.async false
set_option linter.all false
set_option maxRecDepth 100000
set_option maxHeartbeats 4000000
/-! VL5: statements, comprehensions, defs. -/
namespace VL
open PySem PySem.Spec L2
/-! ### statements -/
def wNext : WS := fun D S => D.nx S
def wSeq (t u : WS) : WS := fun D S => t { D with nx := u D } S
def wBreak : WS := fun D S => D.bk S
def wCont : WS := fun D S => D.ct S
def wDrop (w : WE) : WS := fun D S => w S fun _ S1 => D.nx S1
def wRet (w : WE) : WS := fun D S => w S D.rt
def wRetN : WS := fun D S => D.rt .non S
def wIfS (t : WT) (u v : WS) : WS := fun D S => t S fun b S1 => Br b (u D S1) (v D S1)
def wAsg (w : WE) (g : WG) : WS := fun D S => w S fun d S1 => g d S1 D.nx
/-- x = a fresh container that the name owns -/
def wSetO (i : Nat) (w : WE) : WS := fun D S => w S fun d S1 => D.nx (S1.st i (.o d))
def obOf : D → Ob
  | .lst ds => .ml ds
  | .dct ks ds => .md ks ds
  | .dcu ks ds => .mu ks ds
  | _ => .ml []
/-- x = a fresh container that becomes a known object -/
def wSetM (i : Nat) (w : WE) : WS := fun D S => w S fun d S1 => ∀ a, S1.h a = none → D.nx ((S1.ob a (obOf d)).st i (.f (.obj a)))
def wPar (i j : Nat) (w : WA) : WS := fun D S => w S fun ds S1 => match ds with
  | [d, e] => D.nx ((S1.st i (.f d)).st j (.f e))
  | _ => False
def wPar3 (i j l : Nat) (w : WA) : WS := fun D S => w S fun ds S1 => match ds with
  | [d, e, f] => D.nx (((S1.st i (.f d)).st j (.f e)).st l (.f f))
  | _ => False
/-- x op= e -/
def wAug (i : Nat) (g : O2) (w : WE) : WS := fun D S => match S.s[i]? with
  | some (.f d) => w S fun e S1 => g d e fun z => D.nx (S1.st i (.f z))
  | _ => False
/-- o[i] op= e, o a known list -/
def wAugM (wo wi : WE) (g : O2) (w : WE) : WS := fun D S => wo S fun x S1 => wi S1 fun y S2 => ∃ a ds j d, x = .obj a ∧ y = .int j ∧ S2.h a = some (.ml ds) ∧ atI ds j = some d ∧
  w S2 fun e S3 => g d e fun z => ∃ ds' k, S3.h a = some (.ml ds') ∧ ixN ds'.length j = some k ∧ D.nx (S3.ob a (.ml (ds'.set k z)))
/-- x[i] op= e, x owns its list -/
def wAugO (i : Nat) (wi : WE) (g : O2) (w : WE) : WS := fun D S => (∃ e, S.s[i]? = some (.o e)) ∧ wi S fun y S2 => ∃ ds j d, S2.s[i]? = some (.o (.lst ds)) ∧ y = .int j ∧ atI ds j = some d ∧
  w S2 fun e S3 => g d e fun z => ∃ ds' k, S3.s[i]? = some (.o (.lst ds')) ∧ ixN ds'.length j = some k ∧ D.nx (S3.st i (.o (.lst (ds'.set k z))))
/-- x.append(e), x owns its list -/
def wApp (i : Nat) (w : WE) : WS := fun D S => (∃ es, S.s[i]? = some (.o (.lst es))) ∧ w S fun d S1 => ∃ ds, S1.s[i]? = some (.o (.lst ds)) ∧ ds.length < sizeLine ∧ D.nx (S1.st i (.o (.lst (ds ++ [d]))))
def wForL (g : WG) (tb : WS) (T : We) : List D → Sg → Prop
  | [], S => T.nx S
  | x :: xs, S => g x S fun S1 => tb { T with nx := wForL g tb T xs, ct := wForL g tb T xs, bk := T.nx } S1
def wFor (wi : WA) (g : WG) (tb : WS) : WS := fun D S => wi S fun ds S1 => wForL g tb D ds S1
def wWhM (t : WT) (tb : WS) (T : We) : Nat → Sg → Prop
  | 0, _ => False
  | n + 1, S => t S fun b S1 => Br b (tb { T with nx := wWhM t tb T n, ct := wWhM t tb T n, bk := T.nx } S1) (T.nx S1)
@[irreducible] def wWhN (t : WT) (tb : WS) (T : We) : Nat → Sg → Prop := wWhM t tb T
theorem whn_eq (t : WT) (tb : WS) (T : We) : wWhN t tb T = wWhM t tb T := by unfold wWhN; rfl
theorem whn {t : WT} {tb : WS} {T : We} {n : Nat} {S : Sg} (h : t S fun b S1 => Br b (tb { T with nx := wWhN t tb T n, ct := wWhN t tb T n, bk := T.nx } S1) (T.nx S1)) : wWhN t tb T (n + 1) S := by
  simp only [whn_eq] at h ⊢
  exact h
theorem whn_out {t : WT} {tb : WS} {T : We} {n : Nat} {S : Sg} (h : wWhN t tb T (n + 1) S) : t S fun b S1 => Br b (tb { T with nx := wWhN t tb T n, ct := wWhN t tb T n, bk := T.nx } S1) (T.nx S1) := by
  simp only [whn_eq] at h ⊢
  exact h
theorem whn_no {t : WT} {tb : WS} {T : We} {S : Sg} (h : wWhN t tb T 0 S) : False := by
  simp only [whn_eq] at h
  exact h
def wWhile (t : WT) (tb : WS) : WS := fun D S => ∃ n, wWhN t tb D n S
section
variable {W : L2.WX} {X : Cx} {a b c e o i : Expr} {es : List Expr} {st : Stmt} {sts body els : List Stmt} {w wo wi : WE} {ws : WA} {wt : WT} {t u tb : WS} {g : WG} {n : Nat} {pos p : Pos}
theorem dss_nil : DSs X W [] wNext := fun E => PSs.imp pss_nil fun D σ H => by
  rintro ⟨S, F, R, hR, hw, k1, k2, k3, k4, k5⟩
  exact k1 S σ F H hw hR (.refl _)
theorem LS.weak {K : PySem.W.Frag} {E : En} {w : WS} {σ : L2.St} {H F0 F : Hp} {S : Sg} {R : We} {D : Ends} (x0 : Ext F0 F) (hR : Rel K E F H σ S) (hw : w R S)
    (k1 : ∀ S' σ' F' H', R.nx S' → Rel K E F' H' σ' S' → Ext F F' → D.nx σ' H')
    (k2 : ∀ S' σ' F' H', R.bk S' → Rel K E F' H' σ' S' → Ext F0 F' → D.bk σ' H') (k3 : ∀ S' σ' F' H', R.ct S' → Rel K E F' H' σ' S' → Ext F0 F' → D.ct σ' H')
    (k4 : ∀ d S' v σ' F' H', R.rt d S' → Rep K F' v d → Rel K E F' H' σ' S' → Ext F0 F' → D.rt v H') (k5 : ∀ c fs S' cls dd σ' F' H', R.xx c fs S' → XAt K F' c fs cls dd → Rel K E F' H' σ' S' → W cls dd σ' H') : LS K E W w D σ H :=
  ⟨S, F, R, hR, hw, k1, fun S' σ' F' H' q r x => k2 S' σ' F' H' q r (x0.trans x), fun S' σ' F' H' q r x => k3 S' σ' F' H' q r (x0.trans x), fun d S' v σ' F' H' q r r' x => k4 d S' v σ' F' H' q r r' (x0.trans x), k5⟩
theorem dss_cons (h1 : DS X W st t) (h2 : DSs X W sts u) : DSs X W (st :: sts) (wSeq t u) := fun E => PSs.imp (pss_cons (h1 E) (h2 E)) fun D σ H => by
  rintro ⟨S, F, R, hR, hw, k1, k2, k3, k4, k5⟩
  refine ⟨S, F, _, hR, hw, fun S1 σ1 F1 H1 hw1 hR1 x1 => ?_, k2, k3, k4, k5⟩
  exact LS.weak x1 hR1 hw1 (fun S' σ' F' H' q r x => k1 S' σ' F' H' q r (x1.trans x)) k2 k3 k4 k5
theorem dss_one (h1 : DS X W st t) : DSs X W [st] t := fun E => pss_one (h1 E)
theorem ds_pass : DS X W (.Pass pos) wNext := fun E => PS.imp ps_pass fun D σ H => by
  rintro ⟨S, F, R, hR, hw, k1, k2, k3, k4, k5⟩
  exact k1 S σ F H hw hR (.refl _)
theorem ds_break : DS X W (.Break pos) wBreak := fun E => PS.imp ps_break fun D σ H => by
  rintro ⟨S, F, R, hR, hw, k1, k2, k3, k4, k5⟩
  exact k2 S σ F H hw hR (.refl _)
theorem ds_cont : DS X W (.Continue pos) wCont := fun E => PS.imp ps_continue fun D σ H => by
  rintro ⟨S, F, R, hR, hw, k1, k2, k3, k4, k5⟩
  exact k3 S σ F H hw hR (.refl _)
theorem ds_expr (he : DE X Tr e w) (hs : swapsWith e none pos.line X.env = pure false := by rfl) : DS X W (.Expr e pos) (wDrop w) := fun E => PS.imp (ps_expr (he E trivial) hs) fun D σ H => by
  rintro ⟨S, F, R, hR, hw, k1, k2, k3, k4, k5⟩
  exact ⟨S, F, _, hR, hw, fun d S1 v F1 H1 hw1 r1 hR1 x1 => k1 S1 σ F1 H1 hw1 hR1 x1⟩
theorem ds_ret (he : DE X Tr e w) : DS X W (.Return (some e) pos) (wRet w) := fun E => PS.imp (ps_ret (he E trivial)) fun D σ H => by
  rintro ⟨S, F, R, hR, hw, k1, k2, k3, k4, k5⟩
  exact ⟨S, F, _, hR, hw, fun d S1 v F1 H1 hw1 r1 hR1 x1 => k4 d S1 v σ F1 H1 hw1 r1 hR1 x1⟩
theorem ds_retN : DS X W (.Return none pos) wRetN := fun E => PS.imp ps_retN fun D σ H => by
  rintro ⟨S, F, R, hR, hw, k1, k2, k3, k4, k5⟩
  exact k4 _ S _ σ F H hw .non hR (.refl _)
theorem ds_if (hc : DT X Tr c wt) (ha : DSs X W body t) (hb : DSs X W els u) : DS X W (.If c body els pos) (wIfS wt t u) := fun E => PS.imp (ps_if (hc E trivial) (ha E) (hb E)) fun D σ H => by
  rintro ⟨S, F, R, hR, hw, k1, k2, k3, k4, k5⟩
  refine ⟨S, F, _, hR, hw, fun b S1 F1 H1 hw1 hR1 x1 => ?_⟩
  cases b with
  | true => exact LS.weak x1 hR1 (br_t hw1) (fun S' σ' F' H' q r x => k1 S' σ' F' H' q r (x1.trans x)) k2 k3 k4 k5
  | false => exact LS.weak x1 hR1 (br_f hw1) (fun S' σ' F' H' q r x => k1 S' σ' F' H' q r (x1.trans x)) k2 k3 k4 k5
theorem ds_asg {tg : Expr} (he : DE X Tr e w) (hg : DG X Tr tg g) (hs : swapsWithSole [tg] e pos.line X.env = pure false := by rfl) (hw : swappedStores [tg] e X.env = pure none := by rfl)
    (h1 : (assignEach [tg] X.env).map (·.2) = [assign tg X.env] := by rfl) : DS X W (.Assign [tg] e pos) (wAsg w g) := fun E => PS.imp (ps_asg (he E trivial) (hg E trivial) hs hw h1) fun D σ H => by
  rintro ⟨S, F, R, hR, hw, k1, k2, k3, k4, k5⟩
  refine ⟨S, F, _, hR, hw, fun d S1 v F1 H1 hw1 r1 hR1 x1 => ?_⟩
  exact ⟨S1, F1, d, _, hR1, r1, hw1, fun S2 σ2 F2 H2 q r x2 => k1 S2 σ2 F2 H2 q r (x1.trans x2)⟩
/-- x = e by the rule ps_set -/
theorem ds_set {x : Str} {pos' : Pos} (i : Nat) (he : DE X Tr e w) (h : ∀ te, PE X e te → PS X (.Assign [.Name x pos'] e pos) (tAsg te (L2.gName i))) : DS X W (.Assign [.Name x pos'] e pos) (wAsg w (gVar i)) := fun E => PS.imp (h _ (he E trivial)) fun D σ H => by
  rintro ⟨S, F, R, hR, hw, k1, k2, k3, k4, k5⟩
  refine ⟨S, F, _, hR, hw, fun d S1 v F1 H1 hw1 r1 hR1 x1 => ?_⟩
  exact k1 _ _ F1 H1 hw1 (hR1.set r1) x1
theorem ds_setO {x : Str} {pos' : Pos} (i : Nat) (he : DN X Tr e w) (h : ∀ te, PE X e te → PS X (.Assign [.Name x pos'] e pos) (tAsg te (L2.gName i))) : DS X W (.Assign [.Name x pos'] e pos) (wSetO i w) := fun E => PS.imp (h _ (he E trivial)) fun D σ H => by
  rintro ⟨S, F, R, hR, hw, k1, k2, k3, k4, k5⟩
  refine ⟨S, F, _, hR, hw, fun d S1 q F1 H1 hw1 f hR1 x1 => ?_⟩
  exact k1 _ _ F1 H1 hw1 (hR1.setO f) x1
theorem ds_setM {x : Str} {pos' : Pos} (i : Nat) (he : DN X Tr e w) (h : ∀ te, PE X e te → PS X (.Assign [.Name x pos'] e pos) (tAsg te (L2.gName i))) : DS X W (.Assign [.Name x pos'] e pos) (wSetM i w) := fun E => PS.imp (h _ (he E trivial)) fun D σ H => by
  rintro ⟨S, F, R, hR, hw, k1, k2, k3, k4, k5⟩
  refine ⟨S, F, _, hR, hw, fun d S1 q F1 H1 hw1 f hR1 x1 => ?_⟩
  have ha : ObAt X.K F1 H1 q (obOf d) := by
    have z := f.at_
    cases d <;> first | exact z | exact z.elim
  exact k1 _ _ F1 H1 (hw1 q f.nh) ((hR1.obnew f ha).set (.obj q)) x1
theorem Reps.three_of {K : PySem.W.Frag} {F : Hp} {vs : List V} {d e f : D} (r : Reps K F vs [d, e, f]) : ∃ v u w, vs = [v, u, w] ∧ Rep K F v d ∧ Rep K F u e ∧ Rep K F w f := by
  cases r with
  | cons a b =>
    obtain ⟨u, w, rfl, q⟩ := b.two_of
    exact ⟨_, _, _, rfl, a, q⟩
theorem ds_par {x y : Str} {px py pt : Pos} {kt k2 : Nat} {pt2 : Pos} (i j : Nat) (ha : DA X Tr [a, b] n ws) (h : ∀ ta, PA X [a, b] ta → PS X (.Assign [.Tuple [.Name x px, .Name y py] kt pt] (.Tuple [a, b] k2 pt2) pos) (tPar i j ta)) :
    DS X W (.Assign [.Tuple [.Name x px, .Name y py] kt pt] (.Tuple [a, b] k2 pt2) pos) (wPar i j ws) := fun E => PS.imp (h _ (ha E trivial)) fun D σ H => by
  rintro ⟨S, F, R, hR, hw, k1, k2, k3, k4, k5⟩
  refine ⟨S, F, _, hR, hw, fun ds S1 vs F1 H1 hw1 l1 r1 hR1 x1 => ?_⟩
  split at hw1
  · obtain ⟨v, u, rfl, q1, q2⟩ := r1.two_of
    exact ⟨v, u, rfl, k1 _ _ F1 H1 hw1 ((hR1.set q1).set q2) x1⟩
  · exact hw1.elim
theorem ds_par3 {x y z : Str} {px py pz pt : Pos} {kt k2 : Nat} {pt2 : Pos} (i j l : Nat) (ha : DA X Tr [a, b, c] n ws) (h : ∀ ta, PA X [a, b, c] ta → PS X (.Assign [.Tuple [.Name x px, .Name y py, .Name z pz] kt pt] (.Tuple [a, b, c] k2 pt2) pos) (tPar3 i j l ta)) :
    DS X W (.Assign [.Tuple [.Name x px, .Name y py, .Name z pz] kt pt] (.Tuple [a, b, c] k2 pt2) pos) (wPar3 i j l ws) := fun E => PS.imp (h _ (ha E trivial)) fun D σ H => by
  rintro ⟨S, F, R, hR, hw, k1, k2, k3, k4, k5⟩
  refine ⟨S, F, _, hR, hw, fun ds S1 vs F1 H1 hw1 l1 r1 hR1 x1 => ?_⟩
  split at hw1
  · obtain ⟨v, u, w, rfl, q1, q2, q3⟩ := r1.three_of
    exact ⟨v, u, w, rfl, k1 _ _ F1 H1 hw1 (((hR1.set q1).set q2).set q3) x1⟩
  · exact hw1.elim
theorem ds_aug {x : Str} {pos' : Pos} {op : Operator} {g : O2} (i : Nat) (ho : OpV X (inplaceOp op) g) (he : DE X Tr e w) (h : ∀ te ti, PE X e te → PIp X op ti → PS X (.AugAssign (.Name x pos') op e pos) (tAug i te ti)) : DS X W (.AugAssign (.Name x pos') op e pos) (wAug i g w) := fun E => PS.imp (h _ _ (he E trivial) ho) fun D σ H => by
  rintro ⟨S, F, R, hR, hw, k1, k2, k3, k4, k5⟩
  unfold wAug at hw
  split at hw
  · rename_i d hd
    obtain ⟨v, h1, h2⟩ := hR.frz i d hd
    refine ⟨v, h1, S, F, _, hR, hw, fun e S1 v1 F1 H1 hw1 r1 hR1 x1 => ?_⟩
    exact ⟨F1, d, e, _, hR1.g.ext, h2.mono x1, r1, hw1, fun z v F' H' hz rz al => k1 _ _ F' H' hz ((hR1.al al).set rz) (x1.trans al.xF)⟩
  · exact hw.elim
theorem pget_list : PGet X (rIxL X.K) := fun pins s σ H o i ov iv Q I ro ri h => by
  obtain ⟨p, xs, j, v, rfl, rfl, hq, he, q⟩ := h
  cases ro
  obtain ⟨t, rfl⟩ := ri
  obtain ⟨its, r, pl, hz⟩ := I.list hq
  obtain ⟨m, h1, h2, h3, h4, h5⟩ := atI_get he
  obtain ⟨u, eu, ru⟩ := r.get h2
  have hl := r.length
  have hn := line63
  have fin : EP X pins σ Q u s := ⟨v, H, I, ru, q⟩
  have isl : s.heap.IsList p its.toArray := by
    obtain ⟨ob, n, e1, e2, e3, e4⟩ := pl
    exact ⟨ob, e1, e2, n, e4⟩
  by_cases h0 : 0 ≤ j
  · have hj : j.toNat = m := by
      rw [seqIndex_of h0 h5] at h1
      exact Option.some.inj h1
    exact wpAny_getItem_list isl h0 (by omega) (by rw [hj]; simpa using eu) fin
  · have hj : (j + (its.toArray.size : Int)).toNat = m := by
      rw [seqIndex_neg (by omega) h4] at h1
      rw [List.size_toArray, ← hl]
      exact Option.some.inj h1
    exact wpAny_getItem_list_neg isl (by omega) (by rw [List.size_toArray] <;> omega) (by omega) (by rw [hj]; simpa using eu) fin
theorem ds_augM {op : Operator} {g : O2} {tpos : Pos} (hp : OpV X (inplaceOp op) g) (ho : DE X Tr o wo) (hi : DE X Tr i wi) (he : DE X Tr e w)
    (ha : ∀ ov iv new, augStore i ov iv new = (do holding [new, ov, iv] (setItem ov iv new); release [new, ov, iv] []; pure .next) := by intros; rfl) : DS X W (.AugAssign (.Subscript o i tpos) op e pos) (wAugM wo wi g w) := fun E => PS.imp (ps_augS (ho E trivial) (hi E trivial) pget_list (he E trivial) hp set_list ha) fun D σ H => by
  rintro ⟨S, F, R, hR, hw, k1, k2, k3, k4, k5⟩
  refine ⟨S, F, _, hR, hw, fun x S1 v1 F1 H1 hw1 r1 hR1 x1 => ?_⟩
  refine ⟨S1, F1, _, hR1, hw1, fun y S2 v2 F2 H2 hw2 r2 hR2 x2 => ?_⟩
  obtain ⟨a, ds, j, d, rfl, rfl, h1, h2, hw2⟩ := hw2
  cases r1; cases r2
  obtain ⟨vs, q, s⟩ := (hR2.g.obs _ _ h1).1
  obtain ⟨v, h3, h4⟩ := s.at h2
  refine ⟨a, vs, j, v, rfl, rfl, .of q, h3, ?_⟩
  refine ⟨S2, F2, _, hR2, hw2, fun e S3 v3 F3 H3 hw3 r3 hR3 x3 => ?_⟩
  refine ⟨F3, d, e, _, hR3.g.ext, h4.mono x3, r3, hw3, fun z v F' H' hz rz al => ?_⟩
  obtain ⟨ds', k, g1, g2, g3⟩ := hz
  have hR4 := hR3.al al
  obtain ⟨us, q', s'⟩ := (hR4.g.obs _ _ g1).1
  refine ⟨a, us, j, k, rfl, rfl, q', by rw [s'.length]; exact g2, ?_⟩
  exact k1 _ _ F' _ g3 (hR4.obput (by rw [g1]; simp) ⟨_, upd_same, s'.set k rz⟩) (((x1.trans x2).trans x3).trans al.xF)
theorem ds_augO {op : Operator} {g : O2} {x : Str} {px tpos : Pos} (l : Nat) (hx : PE X (.Name x px) (tVar l)) (hp : OpV X (inplaceOp op) g) (hi : DE X Tr i wi) (he : DE X Tr e w)
    (ha : ∀ ov iv new, augStore i ov iv new = (do holding [new, ov, iv] (setItem ov iv new); release [new, ov, iv] []; pure .next) := by intros; rfl) : DS X W (.AugAssign (.Subscript (.Name x px) i tpos) op e pos) (wAugO l wi g w) := fun E => PS.imp (ps_augS hx (hi E trivial) pget_list (he E trivial) hp set_list ha) fun D σ H => by
  rintro ⟨S, F, R, hR, ⟨⟨e0, he0⟩, hw⟩, k1, k2, k3, k4, k5⟩
  obtain ⟨p, h0, _⟩ := hR.own l e0 he0
  refine ⟨_, h0, ?_⟩
  refine ⟨S, F, _, hR, hw, fun y S2 v2 F2 H2 hw2 r2 hR2 x2 => ?_⟩
  obtain ⟨ds, j, d, h1, rfl, h2, hw2⟩ := hw2
  cases r2
  obtain ⟨p', h0', ⟨vs, q, s⟩, _⟩ := hR2.own l _ h1
  rw [h0] at h0'
  cases h0'
  obtain ⟨v, h3, h4⟩ := s.at h2
  refine ⟨p, vs, j, v, rfl, rfl, .of q, h3, ?_⟩
  refine ⟨S2, F2, _, hR2, hw2, fun e S3 v3 F3 H3 hw3 r3 hR3 x3 => ?_⟩
  refine ⟨F3, d, e, _, hR3.g.ext, h4.mono x3, r3, hw3, fun z v F' H' hz rz al => ?_⟩
  obtain ⟨ds', k, g1, g2, g3⟩ := hz
  have hR4 := hR3.al al
  obtain ⟨p', h0', ⟨us, q', s'⟩, _⟩ := hR4.own l _ g1
  rw [h0] at h0'
  cases h0'
  refine ⟨p, us, j, k, rfl, rfl, q', by rw [s'.length]; exact g2, ?_⟩
  exact k1 _ _ F' _ g3 (hR4.mut g1 h0 ⟨_, upd_same, s'.set k rz⟩) ((x2.trans x3).trans al.xF)
/-- x.append(e) as a statement -/
theorem ds_app {x : Str} {px apos cpos : Pos} (l : Nat) (hx : PE X (.Name x px) (tVar l)) (he : DE X Tr e w)
    (h : ∀ to t, PE X (.Name x px) to → PE X e t → PE X (.Call (.Attribute (.Name x px) "append" apos) [e] [] cpos) (tBM X.K "list" rAppend to (tCons t tNil)))
    (hs : swapsWith (.Call (.Attribute (.Name x px) "append" apos) [e] [] cpos) none pos.line X.env = pure false := by rfl) : DS X W (.Expr (.Call (.Attribute (.Name x px) "append" apos) [e] [] cpos) pos) (wApp l w) := fun E => PS.imp (ps_expr (h _ _ hx (he E trivial)) hs) fun D σ H => by
  rintro ⟨S, F, R, hR, ⟨⟨ds0, he0⟩, hw⟩, k1, k2, k3, k4, k5⟩
  obtain ⟨p, h0, ⟨vs0, q0, _⟩, _⟩ := hR.own l _ he0
  refine ⟨_, h0, .inl ⟨rfl, _, .of q0⟩, ?_⟩
  refine ⟨S, F, _, hR, hw, fun d S1 v F1 H1 hw1 r1 hR1 x1 => ?_⟩
  obtain ⟨ds, g1, g2, g3⟩ := hw1
  obtain ⟨p', h0', ⟨vs, q, s⟩, _⟩ := hR1.own l _ g1
  rw [h0] at h0'
  cases h0'
  refine ⟨p, vs, v, rfl, rfl, q, by rw [s.length]; exact g2, ?_⟩
  exact k1 _ _ F1 _ g3 (hR1.mut g1 h0 ⟨_, upd_same, s.append (.one r1)⟩) x1
/-! ### loops -/
theorem ds_for {tg iter : Expr} (hp : PassesOwn (model X.prog X.w) X.A X.env X.xe) (hc : X.calm = true) (hi : DI X Tr tg iter ws) (hg : DG X Tr tg g) (hb : DSs X W body tb)
    (hs : ∀ x, foldedSetIterable iter X.env x = pure x := by intro _; rfl) : DS X W (.For tg iter body [] pos) (wFor ws g tb) := fun E => PS.imp (ps_for hp hc (hi E trivial) (hg E trivial) (hb E) hs) fun D σ H => by
  rintro ⟨S, F, R, hR, hw, k1, k2, k3, k4, k5⟩
  refine ⟨S, F, _, hR, hw, fun ds S1 J F1 H1 hw1 fd hR1 x1 => ?_⟩
  refine ⟨fun i m σ H => m + i = ds.length ∧ ∃ F2 S2, Rel X.K E F2 H σ S2 ∧ Ext F1 F2 ∧ wForL g tb R (ds.drop i) S2, ⟨ds.length, rfl, F1, S1, hR1, .refl _, hw1⟩, fun i m σ2 H2 hW => ?_⟩
  obtain ⟨hm, F2, S2, hR2, x2, hw2⟩ := hW
  obtain ⟨go, stop⟩ := fd F2 H2 x2 hR2.g.ext
  by_cases hi : i < ds.length
  · have hd : ds[i]? = some ds[i] := List.getElem?_eq_getElem hi
    obtain ⟨h1, h2⟩ := go i _ hd
    rw [List.drop_eq_getElem_cons hi] at hw2
    refine .inr ⟨h1, fun σ' H' => ∃ F3 S3, Rel X.K E F3 H' σ' S3 ∧ Ext F1 F3 ∧ wForL g tb R (ds.drop (i + 1)) S3, fun σ' H' hN => ⟨m - 1, by omega, by omega, hN⟩, fun x H3 hy => ?_⟩
    obtain ⟨F3, al, rx⟩ := h2 x H3 hy
    refine ⟨S2, F3, _, _, hR2.al al, rx, hw2, fun S4 σ4 F4 H4 hw4 hR4 x4 => ?_⟩
    have x14 : Ext F1 F4 := (x2.trans al.xF).trans x4
    refine ⟨S4, F4, _, hR4, hw4, fun S' σ' F' H' q r x => ⟨F', S', r, x14.trans x, q⟩, fun S' σ' F' H' q r x => k1 S' σ' F' H' q r ((x1.trans x14).trans x), fun S' σ' F' H' q r x => ⟨F', S', r, x14.trans x, q⟩, fun d S' v σ' F' H' q r r' x => k4 d S' v σ' F' H' q r r' ((x1.trans x14).trans x), k5⟩
  · refine .inl ⟨stop i (by omega), ?_⟩
    rw [List.drop_eq_nil_of_le (by omega)] at hw2
    exact k1 S2 σ2 F2 H2 hw2 hR2 (x1.trans x2)
theorem ds_while (hp : PassesOwn (model X.prog X.w) X.A X.env X.xe) (hc : DT X Tr c wt) (hb : DSs X W body tb) : DS X W (.While c body [] pos) (wWhile wt tb) := fun E => PS.imp (ps_while hp (hc E trivial) (hb E)) fun D σ H => by
  rintro ⟨S, F, R, hR, ⟨n, hw⟩, k1, k2, k3, k4, k5⟩
  refine ⟨fun m σ H => ∃ F2 S2, Rel X.K E F2 H σ S2 ∧ Ext F F2 ∧ wWhN wt tb R m S2, ⟨n, F, S, hR, .refl _, hw⟩, fun m σ2 H2 hW => ?_⟩
  obtain ⟨F2, S2, hR2, x2, hw2⟩ := hW
  cases m with
  | zero => exact (whn_no hw2).elim
  | succ m =>
    refine ⟨S2, F2, _, hR2, whn_out hw2, fun b S3 F3 H3 hw3 hR3 x3 => ?_⟩
    cases b with
    | true =>
      refine ⟨fun σ' H' => ∃ F4 S4, Rel X.K E F4 H' σ' S4 ∧ Ext F F4 ∧ wWhN wt tb R m S4, fun σ' H' hN => ⟨m, Nat.lt_succ_self m, hN⟩, ?_⟩
      have x13 : Ext F F3 := x2.trans x3
      exact ⟨S3, F3, _, hR3, br_t hw3, fun S' σ' F' H' q r x => ⟨F', S', r, x13.trans x, q⟩, fun S' σ' F' H' q r x => k1 S' σ' F' H' q r (x13.trans x), fun S' σ' F' H' q r x => ⟨F', S', r, x13.trans x, q⟩, fun d S' v σ' F' H' q r r' x => k4 d S' v σ' F' H' q r r' (x13.trans x), k5⟩
    | false => exact k1 S3 σ2 F3 H3 (br_f hw3) hR3 (x2.trans x3)
end

end VL

set_option Elab.async false
set_option linter.all false
set_option maxRecDepth 100000
set_option maxHeartbeats 4000000
/-! VL6: comprehensions, calls of defs, defs. -/
namespace VL
open PySem PySem.Spec L2
/-! ### comprehensions -/
def wipeS (s : List Sl) : List Nat → List Sl
  | [] => s
  | v :: vs => (wipeS s vs).set v .u
def noOwn (s : List Sl) (vs : List Nat) : Bool := vs.all fun v => match s[v]? with
  | some (.o _) => false
  | _ => true
def wYes : WT := fun S R => R true S
def wLcL (g : WG) (tt : WT) (te : WE) (vs : List Nat) (s0 : List Sl) (R : List D → Oh → Prop) : List D → Oh → List D → Prop
  | [], h, acc => R acc h
  | x :: xs, h, acc => g x ⟨wipeS s0 vs, h⟩ fun S1 => tt S1 fun b S2 => Br b
      (te S2 fun d S3 => wipeS S3.s vs = wipeS s0 vs ∧ wLcL g tt te vs s0 R xs S3.h (acc ++ [d])) (wipeS S2.s vs = wipeS s0 vs ∧ wLcL g tt te vs s0 R xs S2.h acc)
def wLc (wi : WA) (g : WG) (tt : WT) (te : WE) (vs : List Nat) : WE := fun S R => wi S fun ds S1 => noOwn S1.s vs = true ∧ ds.length ≤ 1000000 ∧ wLcL g tt te vs S1.s (fun acc h => R (.lst acc) ⟨S1.s, h⟩) ds S1.h []
theorem wipe_get {σ : L2.St} {vs : List Nat} {i : Nat} (h : i ∉ vs) : (wipe σ vs)[i]? = σ[i]? := by
  induction vs with
  | nil => rfl
  | cons v vs ih =>
    have h1 : v ≠ i := fun z => h (by rw [z]; exact List.mem_cons_self)
    show ((wipe σ vs).set v none)[i]? = _
    rw [List.getElem?_set_ne h1]
    exact ih fun z => h (List.mem_cons_of_mem _ z)
theorem wipeS_get {s : List Sl} {vs : List Nat} {i : Nat} (h : i ∉ vs) : (wipeS s vs)[i]? = s[i]? := by
  induction vs with
  | nil => rfl
  | cons v vs ih =>
    have h1 : v ≠ i := fun z => h (by rw [z]; exact List.mem_cons_self)
    show ((wipeS s vs).set v .u)[i]? = _
    rw [List.getElem?_set_ne h1]
    exact ih fun z => h (List.mem_cons_of_mem _ z)
theorem wipeS_len (s : List Sl) : ∀ vs, (wipeS s vs).length = s.length
  | [] => rfl
  | v :: vs => by
    show ((wipeS s vs).set v .u).length = _
    rw [List.length_set, wipeS_len s vs]
theorem wipeS_in {s : List Sl} {vs : List Nat} {i : Nat} {x : Sl} (h : i ∈ vs) (e : (wipeS s vs)[i]? = some x) : x = .u := by
  induction vs with
  | nil => cases h
  | cons v vs ih =>
    have e' : ((wipeS s vs).set v .u)[i]? = some x := e
    rcases set_get e' with ⟨_, q, _⟩ | ⟨n, q⟩
    · exact q.symm
    · rcases List.mem_cons.mp h with z | z
      · exact absurd z n
      · exact ih z q
theorem wipe_in {σ : L2.St} {vs : List Nat} {i : Nat} {x : V} (h : i ∈ vs) : (wipe σ vs)[i]? ≠ some (some x) := fun e => (wipe_some e).2 h
theorem wipe_set {σ : L2.St} {vs : List Nat} {i : Nat} {x : Option V} (h : i ∈ vs) : wipe (σ.set i x) vs = wipe σ vs := by
  induction vs with
  | nil => cases h
  | cons v vs ih =>
    show (wipe (σ.set i x) vs).set v none = (wipe σ vs).set v none
    by_cases e : i = v
    · subst e
      by_cases hi : i ∈ vs
      · rw [ih hi]
      · apply List.ext_getElem?
        intro j
        by_cases hj : j = i
        · subst hj
          by_cases hl : j < σ.length
          · rw [List.getElem?_set_self (by rw [wipe_length, List.length_set]; exact hl), List.getElem?_set_self (by rw [wipe_length]; exact hl)]
          · rw [List.getElem?_eq_none (by rw [List.length_set, wipe_length, List.length_set]; omega), List.getElem?_eq_none (by rw [List.length_set, wipe_length]; omega)]
        · rw [List.getElem?_set_ne (Ne.symm hj), List.getElem?_set_ne (Ne.symm hj)]
          by_cases hv : j ∈ vs
          · have key : ∀ (τ : L2.St) (vs : List Nat), j ∈ vs → (wipe τ vs)[j]? = if j < τ.length then some none else none := by
              intro τ vs
              induction vs with
              | nil => intro h; cases h
              | cons u us ihu =>
                intro h
                show ((wipe τ us).set u none)[j]? = _
                by_cases hju : j = u
                · subst hju
                  by_cases hl : j < τ.length
                  · rw [List.getElem?_set_self (by rw [wipe_length]; exact hl), if_pos hl]
                  · rw [List.getElem?_eq_none (by rw [List.length_set, wipe_length]; omega), if_neg hl]
                · rw [List.getElem?_set_ne (Ne.symm hju)]
                  exact ihu ((List.mem_cons.mp h).resolve_left hju)
            rw [key _ _ hv, key _ _ hv, List.length_set]
          · rw [wipe_get hv, wipe_get hv, List.getElem?_set_ne (Ne.symm hj)]
    · rw [ih ((List.mem_cons.mp h).resolve_left e)]
theorem wipe_wipe {σ : L2.St} : ∀ {vs us : List Nat}, (∀ v ∈ vs, v ∈ us) → wipe (wipe σ vs) us = wipe σ us
  | [], _, _ => rfl
  | v :: vs, us, h => by
    show wipe ((wipe σ vs).set v none) us = _
    rw [wipe_set (h v List.mem_cons_self)]
    exact wipe_wipe fun x hx => h x (List.mem_cons_of_mem _ hx)
section
variable {X : Cx} {Φ : En → Prop} {K : PySem.W.Frag} {E : En} {F F' F2 H H' H2 : Hp} {σ σ' : L2.St} {S : Sg} {p : Addr} {o : HO} {d : D} {v : V} {i : Nat} {vs : List Nat}
/-- within a block: its own names are unset -/
theorem Rel.wipe (R : Rel K E F H σ S) (vs : List Nat) : Rel K E F H (wipe σ vs) ⟨wipeS S.s vs, S.h⟩ := by
  have at_ : ∀ (i : Nat) (x : Sl), x ≠ .u → (wipeS S.s vs)[i]? = some x → S.s[i]? = some x ∧ i ∉ vs := fun i x nu h => by
    by_cases hi : i ∈ vs
    · exact absurd (wipeS_in hi h) nu
    · rw [wipeS_get hi] at h
      exact ⟨h, hi⟩
  refine ⟨R.g, by show (wipeS S.s vs).length = _; rw [wipeS_len, wipe_length]; exact R.len, fun i d h => ?_, fun i d h => ?_, fun i j d e p h1 h2 h3 h4 => ?_⟩
  · obtain ⟨h, hi⟩ := at_ i (.f d) (fun z => nomatch z) h
    rw [wipe_get hi]
    exact R.frz i d h
  · obtain ⟨h, hi⟩ := at_ i (.o d) (fun z => nomatch z) h
    rw [wipe_get hi]
    exact R.own i d h
  · obtain ⟨h1, i1⟩ := at_ i (.o d) (fun z => nomatch z) h1
    obtain ⟨h2, i2⟩ := at_ j (.o e) (fun z => nomatch z) h2
    rw [wipe_get i1] at h3
    rw [wipe_get i2] at h4
    exact R.inj i j d e p h1 h2 h3 h4
/-- behind a block's turn -/
theorem Rel.back {S3 : Sg} (R : Rel K E F H σ S) (ho : noOwn S.s vs = true) (hs : wipeS S3.s vs = wipeS S.s vs) (hσ : L2.wipe σ' vs = L2.wipe σ vs)
    (xF : Ext F F') (R3 : Rel K ⟨F2, H2, S.h, owns (L2.wipe σ vs) ⟨wipeS S.s vs, S.h⟩⟩ F' H' σ' S3) (gr : Gr K E F2 H2 S.h) : Rel K E F' H' σ ⟨S.s, S3.h⟩ := by
  have eqs : ∀ i, i ∉ vs → S3.s[i]? = S.s[i]? := fun i hi => by
    have := congrArg (fun l : List Sl => l[i]?) hs
    simp only [wipeS_get hi] at this
    exact this
  have eqσ : ∀ i, i ∉ vs → σ'[i]? = σ[i]? := fun i hi => by
    have := congrArg (fun l : L2.St => l[i]?) hσ
    simp only [wipe_get hi] at this
    exact this
  have now : ∀ (i : Nat) (d : D), S.s[i]? = some (.o d) → i ∉ vs := fun i d h hi => by
    have := List.all_eq_true.mp ho i hi
    rw [h] at this
    cases this
  refine ⟨Gr.then gr (fun p hp => ?_) R3.g, R.len, fun i d h => ?_, fun i d h => ?_, R.inj⟩
  · obtain ⟨j, e, h1, h2⟩ := hp
    have hj : j ∉ vs := fun z => by
      have := wipeS_in z h1
      cases this
    have h1' : S.s[j]? = some (.o e) := by rw [← wipeS_get hj]; exact h1
    have h2' : σ[j]? = some (some (.ref p)) := by rw [← wipe_get hj]; exact h2
    exact R.ownE ⟨j, e, h1', h2'⟩
  · by_cases hi : i ∈ vs
    · obtain ⟨v, h1, h2⟩ := R.frz i d h
      exact ⟨v, h1, h2.mono xF⟩
    · obtain ⟨v, h1, h2⟩ := R3.frz i d (by rw [eqs i hi]; exact h)
      rw [eqσ i hi] at h1
      exact ⟨v, h1, h2⟩
  · have hi := now i d h
    obtain ⟨q, h1, h2, h3, h4, _⟩ := R3.own i d (by rw [eqs i hi]; exact h)
    rw [eqσ i hi] at h1
    exact ⟨q, h1, h2, h3, h4, R.ownE ⟨i, d, h, h1⟩⟩
/-- a fresh container changes -/
theorem Rel.mutN {e : D} (R : Rel K E F H σ S) (f : Fresh K E F H σ S p d) (ha : OwAt K F (upd H p o) p e) : Rel K E F (upd H p o) σ S ∧ Fresh K E F (upd H p o) σ S p e := by
  have ne : ∀ b, F b ≠ none → b ≠ p := fun b hb z => hb (z ▸ f.nF)
  refine ⟨⟨⟨fun b u q => ?_, R.g.gF, fun b q1 q2 q3 => TupO.upd (R.g.gN b q1 q2 q3) f.nF, fun b u q1 q2 q3 => ?_, fun b q => ?_, R.g.gO, fun a ob q => ?_⟩, R.len, R.frz, fun j e' h => ?_, R.inj⟩, ⟨ha, f.nF, f.nh, f.nE, f.no⟩⟩
  · rw [upd_ne (ne b (by rw [q]; simp))]; exact R.g.ext _ _ q
  · have : b ≠ p := fun z => by rw [z, f.nE] at q1; cases q1
    rw [upd_ne this]; exact R.g.gH b u q1 q2 q3
  · by_cases hb : b = p
    · subst hb; rw [upd_same]; simp
    · rw [upd_ne hb]; exact R.g.gP b q
  · obtain ⟨q1, q2⟩ := R.g.obs a ob q
    have na : a ≠ p := fun z => by rw [z, f.nh] at q; cases q
    exact ⟨q1.mono (.refl _) (upd_ne na), q2⟩
  · obtain ⟨u, q1, q2, q3, q4, q5⟩ := R.own j e' h
    have nu : u ≠ p := fun z => f.no j e' h (z ▸ q1)
    exact ⟨u, q1, q2.mono (.refl _) (upd_ne nu), q3, q4, q5⟩
/-- a target of plain names of a block -/
def TgN (K : PySem.W.Frag) (gt : TG) (g : WG) (vs : List Nat) : Prop := ∀ (E : En) (v : V) (σ : L2.St) (S : Sg) (F H : Hp) (d : D) (R : Sg → Prop) (Q : L2.St → Hp → Prop), Rel K E F H σ S → Rep K F v d → g d S R →
  (∀ σ' S', Rel K E F H σ' S' → L2.wipe σ' vs = L2.wipe σ vs → R S' → Q σ' H) → gt v σ H Q
theorem tg_one (hi : i ∈ vs) : TgN K (L2.gName i) (gVar i) vs := fun E v σ S F H d R Q hR r hg k => k _ _ (hR.set r) (wipe_set hi) hg
def namesG : List Nat → TGs
  | [] => gNil
  | i :: is => gCons (L2.gName i) (namesG is)
def namesW : List Nat → WGs
  | [] => gsNil
  | i :: is => gsCons (gVar i) (namesW is)
theorem tg_names : ∀ (is : List Nat), (∀ i ∈ is, i ∈ vs) → ∀ (E : En) (us : List V) (σ : L2.St) (S : Sg) (F H : Hp) (ds : List D) (R : Sg → Prop) (Q : L2.St → Hp → Prop), Rel K E F H σ S → Reps K F us ds → namesW is ds S R →
    (∀ σ' S', Rel K E F H σ' S' → L2.wipe σ' vs = L2.wipe σ vs → R S' → Q σ' H) → namesG is us σ H Q
  | [], _, E, us, σ, S, F, H, ds, R, Q, hR, r, hg, k => by
    cases r with
    | nil => exact ⟨rfl, k σ S hR rfl hg⟩
    | cons => exact hg.elim
  | i :: is, hi, E, us, σ, S, F, H, ds, R, Q, hR, r, hg, k => by
    cases r with
    | nil => exact hg.elim
    | cons r1 r2 =>
      refine ⟨_, _, rfl, ?_⟩
      exact tg_names is (fun j hj => hi j (List.mem_cons_of_mem _ hj)) E _ _ _ F H _ R Q (hR.set r1) r2 hg fun σ' S' hR' hw hr => k σ' S' hR' (hw.trans (wipe_set (hi i List.mem_cons_self))) hr
theorem tg_tup {n : Nat} (is : List Nat) (hi : ∀ i ∈ is, i ∈ vs) : TgN K (gTup K n (namesG is)) (gTp n (namesW is)) vs := fun E v σ S F H d R Q hR r hg k => by
  cases r with
  | tup q s => exact ⟨_, _, rfl, hR.g.ext.sqT q, s.length.trans hg.1, tg_names is hi E _ σ S F H _ R Q hR s hg.2 k⟩
  | _ => exact hg.elim
def LTx (K : PySem.W.Frag) (w : WT) : TT := fun σ H Q => ∃ E, LT K E w σ H Q
def LEx (K : PySem.W.Frag) (w : WE) : TE := fun σ H Q => ∃ E, LE K E w σ H Q
theorem pt_x {a : Expr} {w : WT} (h : DT X Tr a w) : PT X a (LTx X.K w) := ⟨fun pins s σ H Q I q => let ⟨E, q⟩ := q; (h E trivial).run pins s σ H Q I q⟩
theorem pe_x {a : Expr} {w : WE} (h : DE X Tr a w) : PE X a (LEx X.K w) := ⟨fun pins s σ H Q I q => let ⟨E, q⟩ := q; (h E trivial).run pins s σ H Q I q⟩
theorem pts_x0 : PTs X [] (LTx X.K wYes) := ⟨fun pins s σ H Q I q => by
  obtain ⟨E, S, F, R, hR, hw, k⟩ := q
  exact pts_nil.run pins s σ H Q I (k true S F H hw hR (.refl _))⟩
theorem pts_x1 {a : Expr} {w : WT} (h : DT X Tr a w) : PTs X [a] (LTx X.K w) := pts_one (pt_x h)
theorem lc_read {wi : WA} {gt : TG} {g : WG} {tt : WT} {te : WE} {Q : VK} (ht : TgN K gt g vs) (hq : LN K E (wLc wi g tt te vs) σ H Q) : tLc (LI K E wi) gt (LTx K tt) (LEx K te) vs σ H Q := by
  obtain ⟨S, F, R, hR, hw, k⟩ := hq
  refine ⟨S, F, _, hR, hw, fun ds S1 J F1 H1 hw1 fd hR1 x1 D0 hD => ?_⟩
  obtain ⟨no, hl, hw1⟩ := hw1
  obtain ⟨f0, hR1'⟩ := fresh_of hR1 hD (K := K) (E := E) (F := F1) (vs := []) (ds := []) .nil
  refine ⟨fun i m H => m + i = ds.length ∧ ∃ F2 h2 acc, Rel K E F2 H σ ⟨S1.s, h2⟩ ∧ Ext F1 F2 ∧ Fresh K E F2 H σ ⟨S1.s, h2⟩ D0 (.lst acc) ∧ acc.length ≤ i ∧ wLcL g tt te vs S1.s (fun acc h => R (.lst acc) ⟨S1.s, h⟩) (ds.drop i) h2 acc,
    ⟨ds.length, rfl, F1, S1.h, [], hR1', .refl _, f0, Nat.le_refl _, hw1⟩, fun i m H2 hW => ?_⟩
  obtain ⟨hm, F2, h2, acc, hR2, x2, f2, la, hw2⟩ := hW
  obtain ⟨go, stop⟩ := fd F2 H2 x2 hR2.g.ext
  by_cases hi : i < ds.length
  · have hd : ds[i]? = some ds[i] := List.getElem?_eq_getElem hi
    obtain ⟨g1, g2⟩ := go i _ hd
    rw [List.drop_eq_getElem_cons hi] at hw2
    refine .inr ⟨g1, fun H' => ∃ F3 h3 acc', Rel K E F3 H' σ ⟨S1.s, h3⟩ ∧ Ext F1 F3 ∧ Fresh K E F3 H' σ ⟨S1.s, h3⟩ D0 (.lst acc') ∧ acc'.length ≤ i + 1 ∧ wLcL g tt te vs S1.s (fun acc h => R (.lst acc) ⟨S1.s, h⟩) (ds.drop (i + 1)) h3 acc', fun H' hN => ⟨m - 1, by omega, by omega, hN⟩, fun x H3 hy => ?_⟩
    obtain ⟨F3, al, rx⟩ := g2 x H3 hy
    have hR3 := hR2.al al
    have hRw := (hR3.wipe vs).enter
    refine ht _ x (L2.wipe σ vs) _ F3 H3 _ _ _ hRw rx hw2 fun σ4 S4 hR4 hσ4 hw4 => ?_
    have hσ4' : L2.wipe σ4 vs = L2.wipe σ vs := hσ4.trans (wipe_wipe fun _ h => h)
    refine ⟨hσ4', _, S4, F3, _, hR4, hw4, fun b S5 F5 H5 hw5 hR5 x5 => ?_⟩
    have nown : ¬ owns (L2.wipe σ vs) ⟨wipeS S1.s vs, h2⟩ D0 := fun ⟨j, e, q1, q2⟩ => by
      have hj : j ∉ vs := fun z => by cases wipeS_in z q1
      have q1' : (wipeS S1.s vs)[j]? = some (.o e) := q1
      rw [wipeS_get hj] at q1'
      rw [wipe_get hj] at q2
      exact f2.no j e q1' q2
    have hD3 : ∃ u, H3 D0 = some u := Option.ne_none_iff_exists'.mp (by rw [al.xH.ne f2.at_.there]; exact f2.at_.there)
    obtain ⟨u, hu⟩ := hD3
    have fin : ∀ F6 H6 S6, Rel K ⟨F3, H3, h2, owns (L2.wipe σ vs) ⟨wipeS S1.s vs, h2⟩⟩ F6 H6 σ4 S6 → Ext F3 F6 → wipeS S6.s vs = wipeS S1.s vs → Rel K E F6 H6 σ ⟨S1.s, S6.h⟩ ∧ Fresh K E F6 H6 σ ⟨S1.s, S6.h⟩ D0 (.lst acc) := fun F6 H6 S6 hR6 x6 hs6 => by
      have hR7 := hR3.back (S3 := S6) no hs6 hσ4' x6 hR6 hR3.g
      have e6 : H6 D0 = some u := hR6.g.gH D0 u hu f2.nh nown
      have n3 : F3 D0 = none := (al.new D0 f2.nF f2.at_.there).elim id fun z => (TupO.ow f2.at_ z).elim
      have n6 : F6 D0 = none := (hR6.g.gN D0 n3 (by show H3 D0 ≠ none; rw [hu]; simp) nown).elim id fun z => (TupO.ow f2.at_ (by rw [e6, ← hu, al.xH.ne f2.at_.there] at z; exact z)).elim
      have h6 : S6.h D0 = none := by
        cases q : S6.h D0 with
        | none => rfl
        | some y =>
          rcases hR6.g.gO D0 (by rw [q]; simp) with z | z | z
          · exact absurd f2.nh z
          · have z' : H3 D0 = none := z
            rw [hu] at z'; cases z'
          · exact absurd z nown
      exact ⟨hR7, f2.at_.mono (al.xF.trans x6) (by rw [e6, ← hu]; exact al.xH.ne f2.at_.there), n6, h6, f2.nE, f2.no⟩
    cases b with
    | true =>
      refine L2.iteT ?_
      refine ⟨_, S5, F5, _, hR5, br_t hw5, fun d S6 y F6 H6 hw6 r6 hR6 x6 => ?_⟩
      obtain ⟨hs6, hw6⟩ := hw6
      obtain ⟨hR7, f7⟩ := fin F6 H6 S6 hR6 (x5.trans x6) hs6
      obtain ⟨avs, ea, ra⟩ := f7.at_
      refine ⟨avs, ea, ?_, ?_⟩
      · have := ra.length
        have hz : (1000000 : Nat) < sizeLine := by decide
        omega
      · obtain ⟨hR8, f8⟩ := hR7.mutN (o := .lst (avs ++ [y])) (e := .lst (acc ++ [d])) f7 ⟨_, upd_same, ra.append (.one r6)⟩
        exact ⟨F6, S6.h, _, hR8, ((x2.trans al.xF).trans x5).trans x6, f8, by rw [List.length_append]; exact Nat.succ_le_succ la, hw6⟩
    | false =>
      refine L2.iteF ?_
      obtain ⟨hs6, hw6⟩ := br_f hw5
      obtain ⟨hR7, f7⟩ := fin F5 H5 S5 hR5 x5 hs6
      exact ⟨F5, S5.h, acc, hR7, (x2.trans al.xF).trans x5, f7, Nat.le_succ_of_le la, hw6⟩
  · refine .inl ⟨stop i (by omega), ?_⟩
    rw [List.drop_eq_nil_of_le (by omega)] at hw2
    exact k _ _ D0 F2 H2 hw2 f2 hR2 (x1.trans x2)
theorem dn_lc {gt : TG} {elt tg iter : Expr} {ifs : List Expr} {scope : Scope} {own : List (Str × Nat)} {pos : Pos} {wi : WA} {g : WG} {tt : WT} {te : WE} (hc : X.calm = true) (hN : X.N.Nodup) (hi : DI X Φ tg iter wi) (ok : BlkOk X.N X.env.scope scope own)
    (hT : TgN X.K gt g (own.map (·.2)))
    (hg : ∀ (s : Shared) (H : Hp) (C : Addr) (cl : List (Str × Addr)) (fp : List Addr), PG (X.blk s H scope (compEnvC scope cl C X.env) fp) tg gt) (ht : ∀ (s : Shared) (H : Hp) (C : Addr) (cl : List (Str × Addr)) (fp : List Addr), PTs (X.blk s H scope (compEnvC scope cl C X.env) fp) ifs (LTx X.K tt))
    (he : ∀ (s : Shared) (H : Hp) (C : Addr) (cl : List (Str × Addr)) (fp : List Addr), DE (X.blk s H scope (compEnvC scope cl C X.env) fp) Tr elt te) (hs : ∀ x, foldedSetIterable iter X.env x = pure x := by intro _; rfl) :
    DN X Φ (.ListComp elt [⟨tg, iter, ifs, 0⟩] scope pos) (wLc wi g tt te (own.map (·.2))) := fun E hE => PE.imp (pe_lc hc hN (hi E hE) ok hg ht (fun s H C cl fp => pe_x (he s H C cl fp)) hs) fun σ H Q => lc_read hT
/-- y = [..] on one line, y a local -/
theorem ds_setLc {gt : TG} {i : Nat} {y : Str} {py : Pos} {elt tg iter : Expr} {ifs : List Expr} {scope : Scope} {own : List (Str × Nat)} {pos spos : Pos} {wi : WA} {g : WG} {tt : WT} {te : WE} (hc : X.calm = true) (hN : X.N.Nodup) (hy : X.N[i]? = some y) (hyl : X.env.scope.names.lookup y = some .local)
    (hsw : swapsWith (.ListComp elt [⟨tg, iter, ifs, 0⟩] scope pos) (some (.Name y py)) spos.line X.env = pure true) (hi : DI X Tr tg iter wi) (ok : BlkOk X.N X.env.scope scope own)
    (hT : TgN X.K gt g (own.map (·.2)))
    (hg : ∀ (s : Shared) (H : Hp) (C : Addr) (cl : List (Str × Addr)) (fp : List Addr), PG (X.blk s H scope (compEnvC scope cl C X.env) fp) tg gt) (ht : ∀ (s : Shared) (H : Hp) (C : Addr) (cl : List (Str × Addr)) (fp : List Addr), PTs (X.blk s H scope (compEnvC scope cl C X.env) fp) ifs (LTx X.K tt))
    (he : ∀ (s : Shared) (H : Hp) (C : Addr) (cl : List (Str × Addr)) (fp : List Addr), DE (X.blk s H scope (compEnvC scope cl C X.env) fp) Tr elt te) (hs : ∀ x, foldedSetIterable iter X.env x = pure x := by intro _; rfl) :
    DS X W (.Assign [.Name y py] (.ListComp elt [⟨tg, iter, ifs, 0⟩] scope pos) spos) (wSetO i (wLc wi g tt te (own.map (·.2)))) := fun E => PS.imp (ps_setLc hc hN hy hyl hsw (hi E trivial) ok hg ht (fun s H C cl fp => pe_x (he s H C cl fp)) hs) fun D σ H => by
  rintro ⟨S, F, R, hR, hw, k1, k2, k3, k4, k5⟩
  refine lc_read (E := E) hT ⟨S, F, _, hR, hw, fun d S1 q F1 H1 hw1 f hR1 x1 => ?_⟩
  exact k1 _ _ F1 H1 hw1 (hR1.setO f) x1
/-- .. frozen at once -/
theorem ds_setLcF {gt : TG} {i : Nat} {y : Str} {py : Pos} {elt tg iter : Expr} {ifs : List Expr} {scope : Scope} {own : List (Str × Nat)} {pos spos : Pos} {wi : WA} {g : WG} {tt : WT} {te : WE} (hc : X.calm = true) (hN : X.N.Nodup) (hy : X.N[i]? = some y) (hyl : X.env.scope.names.lookup y = some .local)
    (hsw : swapsWith (.ListComp elt [⟨tg, iter, ifs, 0⟩] scope pos) (some (.Name y py)) spos.line X.env = pure true) (hi : DI X Tr tg iter wi) (ok : BlkOk X.N X.env.scope scope own)
    (hT : TgN X.K gt g (own.map (·.2)))
    (hg : ∀ (s : Shared) (H : Hp) (C : Addr) (cl : List (Str × Addr)) (fp : List Addr), PG (X.blk s H scope (compEnvC scope cl C X.env) fp) tg gt) (ht : ∀ (s : Shared) (H : Hp) (C : Addr) (cl : List (Str × Addr)) (fp : List Addr), PTs (X.blk s H scope (compEnvC scope cl C X.env) fp) ifs (LTx X.K tt))
    (he : ∀ (s : Shared) (H : Hp) (C : Addr) (cl : List (Str × Addr)) (fp : List Addr), DE (X.blk s H scope (compEnvC scope cl C X.env) fp) Tr elt te) (hs : ∀ x, foldedSetIterable iter X.env x = pure x := by intro _; rfl) :
    DS X W (.Assign [.Name y py] (.ListComp elt [⟨tg, iter, ifs, 0⟩] scope pos) spos) (wAsg (wLc wi g tt te (own.map (·.2))) (gVar i)) := fun E => PS.imp (ps_setLc hc hN hy hyl hsw (hi E trivial) ok hg ht (fun s H C cl fp => pe_x (he s H C cl fp)) hs) fun D σ H => by
  rintro ⟨S, F, R, hR, hw, k1, k2, k3, k4, k5⟩
  refine lc_read (E := E) hT ⟨S, F, _, hR, hw, fun d S1 q F1 H1 hw1 f hR1 x1 => ?_⟩
  obtain ⟨o, ho⟩ := Option.ne_none_iff_exists'.mp f.at_.there
  exact k1 _ _ _ H1 hw1 ((hR1.freezeN f ho).set (f.at_.rep ho f.nF)) (x1.trans (.new f.nF))
end

/-! ### defs and their calls -/
def NX : XC := fun _ _ _ => False
/-- a promise about data, as a promise about values -/
def spOf (K : PySem.W.Frag) (n : Nat) (sp : Spc) : Sp := fun vs H Q _ => ∃ F ds h R, ds.length = n ∧ Ext F H ∧ Reps K F vs ds ∧ (∀ a ob, h a = some ob → ObAt K F H a ob ∧ F a = none) ∧ sp ds h R NX ∧
  ∀ r h' v F' H', R r h' → Rep K F' v r → Gr K ⟨F, H, h, fun _ => False⟩ F' H' h' → Q v H'
def wCall (sp : Spc) (ws : WA) : WE := fun S R => ws S fun ds S1 => sp ds S1.h (fun r h' => R r ⟨S1.s, h'⟩) NX
theorem Rel.after {K : PySem.W.Frag} {E : En} {F F' H H' : Hp} {σ : L2.St} {S : Sg} {h' : Oh} (R : Rel K E F H σ S) (g : Gr K ⟨F, H, S.h, fun _ => False⟩ F' H' h') : Rel K E F' H' σ ⟨S.s, h'⟩ := by
  refine ⟨R.g.then (fun p hp => hp.elim) g, R.len, fun i d h => ?_, fun i d h => ?_, R.inj⟩
  · obtain ⟨v, h1, h2⟩ := R.frz i d h
    exact ⟨v, h1, h2.mono g.gF⟩
  · obtain ⟨p, h1, h2, h3, h4, h5⟩ := R.own i d h
    obtain ⟨u, hu⟩ := Option.ne_none_iff_exists'.mp h2.there
    have e : H' p = some u := g.gH p u hu h4 id
    refine ⟨p, h1, h2.mono g.gF (by rw [e, hu]), (g.gN p h3 h2.there id).elim id (fun z => (TupO.ow h2 (by rw [e, ← hu] at z; exact z)).elim), ?_, h5⟩
    show h' p = none
    cases q : h' p with
    | none => rfl
    | some y =>
      rcases g.gO p (by rw [q]; simp) with z | z | z
      · exact absurd h4 z
      · have z' : H p = none := z
        rw [hu] at z'; cases z'
      · exact z.elim
section
variable {X : Cx} {Φ : En → Prop} {k n : Nat} {f : Addr} {fd : FuncData} {ps : List Str} {spc : Spc} {x : Str} {p pos : Pos} {e : Expr} {es : List Expr} {ws : WA}
theorem de_call (F : FnOk X.prog X.w X.K X.mg X.base CX0 k f fd ps (spOf X.K n spc)) (hr : Room k X.A) (hg : Gl X x) (hm : X.mg x = some (.ref f)) (hk : PySem.W.keepIn X.K (.ref f) = true) (hb : Binds X.K fd ps []) (ha : DA X Φ (e :: es) n ws)
    (hdb : (x == ("__debug__" : Str)) = false := by decide) (he : starEach (e :: es) X.env = (false, eval e X.env) :: starEach es X.env := by rfl) (hpl : (backTo pos (starEach es X.env)).any (·.1) = false := by rfl) :
    DE X Φ (.Call (.Name x p) (e :: es) [] pos) (wCall spc ws) := fun E hE => PE.imp (pe_call F hr hg hm hk hb .nil pass0 (ha E hE) hdb he hpl) fun σ H Q => by
  rintro ⟨S, F, R, hR, hw, k⟩
  refine ⟨S, F, _, hR, hw, fun ds S1 vs F1 H1 hw1 l1 r1 hR1 x1 => ?_⟩
  show spOf X.K n spc (vs ++ []) H1 Q E0
  rw [List.append_nil]
  exact ⟨F1, ds, S1.h, _, l1, hR1.g.ext, r1, hR1.g.obs, hw1, fun r h' v F' H' hr rv g => k r _ v F' H' hr rv (hR1.after g) (x1.trans g.gF)⟩
theorem de_call0 (F : FnOk X.prog X.w X.K X.mg X.base CX0 k f fd ps (spOf X.K 0 spc)) (hr : Room k X.A) (hg : Gl X x) (hm : X.mg x = some (.ref f)) (hk : PySem.W.keepIn X.K (.ref f) = true) (hb : Binds X.K fd ps [])
    (hdb : (x == ("__debug__" : Str)) = false := by decide) : DE X Φ (.Call (.Name x p) [] [] pos) (wCall spc wNil) := fun E hE => PE.imp (pe_call0 F hr hg hm hk hb .nil pass0 hdb) fun σ H Q => by
  rintro ⟨S, F, R, hR, hw, k⟩
  exact ⟨F, [], S.h, _, rfl, hR.g.ext, .nil, hR.g.obs, hw, fun r h' v F' H' hr rv g => k r _ v F' H' hr rv (hR.after g) g.gF⟩
end
theorem start_get {N : List Str} {vs : List V} {i : Nat} {v : V} (h : vs[i]? = some v) : (L2.start N vs)[i]? = some (some v) := by
  unfold L2.start
  have hl : i < (vs.map some).length := by rw [List.length_map]; exact ix_lt h
  rw [List.getElem?_append_left hl, List.getElem?_map, h]
  rfl
/-- what is wanted behind a body -/
def Fi (R : D → Oh → Prop) : We := ⟨fun S => R .non S.h, fun d S => R d S.h, fun _ => False, fun _ => False, fun _ _ _ => False⟩
/-- the body w keeps the promise sp: n arguments, u other names -/
def Pk (n u : Nat) (sp : Spc) (w : WS) : Prop := ∀ ds h R, ds.length = n → sp ds h R NX → w (Fi R) ⟨ds.map .f ++ List.replicate u .u, h⟩
/-- a def keeps a promise about data, by its body -/
theorem fn_ok {P : Program} {w : World} {K : PySem.W.Frag} {mg : Str → Option Value} {base : Heap} {x qual : Str} {st : Stmt} {f : Addr} {fd : FuncData} {N ps : List Str} {k n : Nat} {ws : WS} {spc : Spc} (F : Fun K x qual st f fd) (S : FnScope N ps (defScope st)) (hn : ps.length = n)
    (hb : ∀ (cdv : Value) (A : Around) (outer : List Env) (s : Shared) (H : Hp) (E : XK), Room k (A.deeper (PyProof.Rows.envOfC qual (defScope st) s.heap.objs.size f cdv)) → DSs (cxOf CX0 P w K mg base N qual (defScope st) f cdv A outer s H E).nox (fun _ _ _ _ => False) (defBody st) ws)
    (hw : Pk n (N.length - n) spc ws) : FnOk P w K mg base CX0 (k + 1) f fd ps (spOf K n spc) := by
  refine F.ok S (fun vs H Q E h => ?_) (fun cdv A outer s H vs Q E hr h => ?_)
  · obtain ⟨F, ds, h, R, h1, _, h2, _⟩ := h
    rw [h2.length, h1, hn]
  · obtain ⟨F, ds, h, R, h1, h2, h3, h4, h5, h6⟩ := h
    refine ⟨_, hb cdv A outer s H E hr ⟨F, H, h, fun _ => False⟩, _, F, _, ?_, hw ds h R h1 h5, fun S' σ' F' H' q r x => h6 _ _ _ F' H' q .non r.g, fun _ _ _ _ q => q.elim, fun _ _ _ _ q => q.elim, fun d S' v σ' F' H' q r' r x => h6 d _ v F' H' q r' r.g, fun _ _ _ _ _ _ _ _ q => q.elim⟩
    have nof : ∀ (i : Nat) (d : D), (ds.map Sl.f ++ List.replicate (N.length - n) Sl.u)[i]? ≠ some (.o d) := fun i d e => by
      rcases Nat.lt_or_ge i (ds.map Sl.f).length with hl | hl
      · rw [List.getElem?_append_left hl, List.getElem?_map] at e
        cases q : ds[i]? with
        | none => rw [q] at e; cases e
        | some y => rw [q] at e; cases e
      · rw [List.getElem?_append_right hl] at e
        have := List.mem_of_getElem? e
        have := List.eq_of_mem_replicate this
        cases this
    refine ⟨⟨h2, .refl _, fun _ q _ _ => .inl q, fun _ _ q _ _ => q, fun _ q => q, fun _ q => .inl q, h4⟩, ?_, fun i d e => ?_, fun i d e => absurd e (nof i d), fun i j d e p q => absurd q (nof i d)⟩
    · unfold L2.start
      rw [List.length_append, List.length_append, List.length_map, List.length_map, List.length_replicate, List.length_replicate, h3.length, h1]
    · rcases Nat.lt_or_ge i (ds.map Sl.f).length with hl | hl
      · rw [List.getElem?_append_left hl, List.getElem?_map] at e
        cases q : ds[i]? with
        | none => rw [q] at e; cases e
        | some y =>
          rw [q] at e
          cases e
          obtain ⟨v, q1, q2⟩ := h3.get q
          exact ⟨v, start_get q1, q2⟩
      · rw [List.getElem?_append_right hl] at e
        have := List.eq_of_mem_replicate (List.mem_of_getElem? e)
        cases this
end VL
namespace VL
open PySem PySem.Spec L2
/-- a def of the text as the top has left it -/
structure DefAt (K : PySem.W.Frag) (mg : Str → Option Value) (x : Str) (st : Stmt) (ps : List Str) (f : Addr) (fd : FuncData) : Prop where
  fn : Fun K x x st f fd
  bd : Binds K fd ps []
  gl : mg x = some (.ref f)
/-- a constant of the text -/
def Cst (K : PySem.W.Frag) (mg : Str → Option Value) (x : Str) (d : D) : Prop := ∃ v u, mg x = some u ∧ RelV v u ∧ ∀ F, Rep K F v d
theorem Cst.de {X : Cx} {Φ : En → Prop} {x : Str} {d : D} {pos : Pos} (c : Cst X.K X.mg x d) (hg : Gl X x) (hd : (x == ("__debug__" : Str)) = false := by decide) : DE X Φ (.Name x pos) (wC d) :=
  let ⟨_, _, h1, h2, h3⟩ := c
  de_glob hg h1 h2 h3 hd
theorem law_in {K : PySem.W.Frag} {H : Hp} {a : Addr} {ns : List Int} {sp : Spc} (hS : SqL K H a (ns.map V.int)) (h : sp [.scr ns] (fun _ => none) (fun d _ => d = .bl true) NX) : spOf K 1 sp [.ref a] H (fun v _ => v = .bl true) fun _ _ _ => False :=
  ⟨H, [.scr ns], fun _ => none, fun d _ => d = .bl true, rfl, .refl _, .cons (.scr hS) .nil, (fun _ _ q => nomatch q), h, fun r h' v F' H' hr rv _ => by
    subst hr
    cases rv
    rfl⟩
theorem rv_int {i : Int} {t : Tok} : RelV (.int i) (.int i t) := ⟨_, rfl⟩
theorem rv_str {i : Str} {t : Tok} : RelV (.str i) (.str i t) := ⟨_, rfl⟩
/-! ### fresh lists by operators -/
def opRep : O2
  | .lst xs, .int k, R => -(2 ^ 63) ≤ k ∧ k < 2 ^ 63 ∧ xs.length * k.toNat ≤ sizeLine ∧ R (.lst (List.replicate k.toNat xs).flatten)
  | _, _, _ => False
def opCat : O2
  | .lst xs, .lst ys, R => xs.length + ys.length ≤ sizeLine ∧ R (.lst (xs ++ ys))
  | _, _, _ => False
def rVN2 (K : PySem.W.Frag) (g : O2) : R2 := fun x y H Q => ∃ F d e R, Ext F H ∧ Rep K F x d ∧ Rep K F y e ∧ g d e R ∧ ∀ es vs p, R (.lst es) → Reps K F vs es → H p = none → Q (.ref p) (upd H p (.lst vs))
section
variable {X : Cx} {Φ : En → Prop} {a b : Expr} {wa wb : WE} {pos : Pos}
theorem on_rep : OpR X (binaryOp .Mult) (rVN2 X.K opRep) := OpR.any fun x y H Q => by
  rintro ⟨F, d, e, R, hx, r1, r2, hg, k⟩
  cases r1 with
  | lst h1 s1 =>
    cases r2 with
    | int j =>
      have l1 := s1.length
      obtain ⟨q1, q2, q3, q4⟩ := hg
      rename_i a1 vs1 ds1
      exact ⟨_, op_rep, a1, j, vs1, rfl, rfl, hx _ _ h1, q1, q2, by rw [l1]; exact q3, fun p hp => k _ _ p q4 (s1.rep _) hp⟩
    | _ => exact hg.elim
  | _ => cases r2 <;> exact hg.elim
theorem on_cat : OpR X (binaryOp .Add) (rVN2 X.K opCat) := OpR.any fun x y H Q => by
  rintro ⟨F, d, e, R, hx, r1, r2, hg, k⟩
  cases r1 with
  | lst h1 s1 =>
    cases r2 with
    | lst h2 s2 =>
      have l1 := s1.length
      have l2 := s2.length
      have q1 := hg.1
      rename_i a1 vs1 ds1 a2 vs2 ds2
      exact ⟨_, op_cat, a1, a2, vs1, vs2, rfl, rfl, hx _ _ h1, hx _ _ h2, by omega, fun p hp => k _ _ p hg.2 (s1.append s2) hp⟩
    | _ => exact hg.elim
  | _ => cases r2 <;> exact hg.elim
theorem dn_op {op : Operator} {g : O2} (ho : OpR X (binaryOp op) (rVN2 X.K g)) (ha : DE X Φ a wa) (hb : DE X Φ b wb) : DN X Φ (.BinOp a op b pos) (wOp g wa wb) := fun E hE => PE.imp (pe_op ho (ha E hE) (hb E hE)) fun σ H Q => by
  rintro ⟨S, F, R, hR, hw, k⟩
  refine ⟨S, F, _, hR, hw, fun x S1 v1 F1 H1 hw1 r1 hR1 x1 => ?_⟩
  refine ⟨S1, F1, _, hR1, hw1, fun y S2 v2 F2 H2 hw2 r2 hR2 x2 => ?_⟩
  refine ⟨F2, x, y, _, hR2.g.ext, r1.mono x2, r2, hw2, fun es vs p hz rz hp => ?_⟩
  obtain ⟨f, hR'⟩ := fresh_of hR2 hp rz
  exact k _ S2 p F2 _ hz f hR' (x1.trans x2)
end
end VL

set_option Elab.async false
set_option linter.all false
set_option maxRecDepth 100000
/-! VL7: x in data of any depth; zip of a tuple and a str. -/
namespace VL
open PySem PySem.Spec L2

theorem Room65 {k : Nat} {A : Around} (r : Room k A) : A.units + 65 < cLine := by have := r.un; omega

def rInDT (K : PySem.W.Frag) : R2 := fun x y H Q => ∃ d ds, Dp K H x d ∧ Dp K H y (.tuple ds) ∧ SeqAt.shaped d = true ∧ SeqAt.shaped (.tuple ds) = true ∧ Q (.bl (ds.any fun z => PyData.eqv z d)) H
def rNotInDT (K : PySem.W.Frag) : R2 := fun x y H Q => ∃ d ds, Dp K H x d ∧ Dp K H y (.tuple ds) ∧ SeqAt.shaped d = true ∧ SeqAt.shaped (.tuple ds) = true ∧ Q (.bl (!ds.any fun z => PyData.eqv z d)) H
section
variable {X : Cx} {Φ : En → Prop}
theorem op_inDT (hu : X.A.units + 65 < cLine) : OpR X (compareOp .In) (rInDT X.K) := by
  intro pins s σ H x y v u Q I rx ry h
  obtain ⟨d, ds, hd, he, sd, se, q⟩ := h
  obtain ⟨as, r1⟩ := Dp.reads I d x v hd rx
  obtain ⟨bs, r2⟩ := Dp.reads I (.tuple ds) y u he ry
  exact SeqAt.in_tuple_reads r2 r1 (SeqAt.canLay_of_shaped se) (SeqAt.canLay_of_shaped sd) (PyProof.Rows.room_in_shaped sd hu) ⟨.bl _, H, I, rfl, q⟩
theorem op_notInDT (hu : X.A.units + 65 < cLine) : OpR X (compareOp .NotIn) (rNotInDT X.K) := by
  intro pins s σ H x y v u Q I rx ry h
  obtain ⟨d, ds, hd, he, sd, se, q⟩ := h
  obtain ⟨as, r1⟩ := Dp.reads I d x v hd rx
  obtain ⟨bs, r2⟩ := Dp.reads I (.tuple ds) y u he ry
  exact SeqAt.notIn_tuple_reads r2 r1 (SeqAt.canLay_of_shaped se) (SeqAt.canLay_of_shaped sd) (PyProof.Rows.room_in_shaped sd hu) ⟨.bl _, H, I, rfl, q⟩
end
def inOk (x : D) (ds : List D) : Bool := (flat x && ds.all flat) || (shD 7 x && ds.all (shD 7))
/-- x in a list or tuple, data of any depth -/
def opInD : O2
  | x, .tup ds, R => inOk x ds = true ∧ R (.bl (inD x ds))
  | x, .lst ds, R => inOk x ds = true ∧ R (.bl (inD x ds))
  | .str x, .str y, R => R (.bl (!(Builtin.Str.occurrences y x 0 y.length 1).isEmpty))
  | _, _, _ => False
def opNotInD : O2
  | x, .tup ds, R => inOk x ds = true ∧ R (.bl (!inD x ds))
  | x, .lst ds, R => inOk x ds = true ∧ R (.bl (!inD x ds))
  | .str x, .str y, R => R (.bl (!(!(Builtin.Str.occurrences y x 0 y.length 1).isEmpty)))
  | _, _, _ => False
theorem inD_pd {x : D} (h : shD 7 x = true) : ∀ {ds : List D}, ds.all (shD 7) = true → ((D.pds ds).any fun z => PyData.eqv z x.pd) = inD x ds
  | [], _ => rfl
  | d :: ds, h' => by
    rw [List.all_cons, Bool.and_eq_true] at h'
    show (PyData.eqv d.pd x.pd || (D.pds ds).any fun z => PyData.eqv z x.pd) = (eqD d x || inD x ds)
    rw [eqD_pd 7 d x h'.1 h, inD_pd h h'.2]
section
variable {X : Cx} {Φ : En → Prop}
theorem ov_inD (hu : X.A.units + 65 < cLine) : OpV X (compareOp .In) opInD := OpR.any fun x y H Q => by
  rintro ⟨F, d, e, R, hx, r1, r2, hg, k⟩
  unfold opInD at hg
  split at hg
  · obtain ⟨f, q⟩ := hg
    rcases (Bool.or_eq_true _ _).mp f with f | f
    · rw [Bool.and_eq_true] at f
      exact ⟨_, ov_in, F, _, _, R, hx, r1, r2, ⟨f.1, f.2, q⟩, k⟩
    · rw [Bool.and_eq_true] at f
      refine ⟨_, op_inDT hu, _, _, r1.dp hx f.1, r2.dp (n := 8) hx f.2, shaped_sh f.1 (by decide), shaped_sh (n := 8) (d := .tup _) f.2 (by decide), ?_⟩
      rw [inD_pd f.1 f.2]
      exact k _ _ F H q (.bl _) (.refl hx)
  · obtain ⟨f, q⟩ := hg
    rcases (Bool.or_eq_true _ _).mp f with f | f
    · rw [Bool.and_eq_true] at f
      exact ⟨_, ov_in, F, _, _, R, hx, r1, r2, ⟨f.1, f.2, q⟩, k⟩
    · rw [Bool.and_eq_true] at f
      refine ⟨_, op_inD hu, _, _, r1.dp hx f.1, r2.dp (n := 8) hx f.2, shaped_sh f.1 (by decide), shaped_sh (n := 8) (d := .lst _) f.2 (by decide), ?_⟩
      rw [inD_pd f.1 f.2]
      exact k _ _ F H q (.bl _) (.refl hx)
  · exact ⟨_, ov_in, F, _, _, R, hx, r1, r2, hg, k⟩
  · exact hg.elim
theorem ov_notInD (hu : X.A.units + 65 < cLine) : OpV X (compareOp .NotIn) opNotInD := OpR.any fun x y H Q => by
  rintro ⟨F, d, e, R, hx, r1, r2, hg, k⟩
  unfold opNotInD at hg
  split at hg
  · obtain ⟨f, q⟩ := hg
    rcases (Bool.or_eq_true _ _).mp f with f | f
    · rw [Bool.and_eq_true] at f
      exact ⟨_, ov_notIn, F, _, _, R, hx, r1, r2, ⟨f.1, f.2, q⟩, k⟩
    · rw [Bool.and_eq_true] at f
      refine ⟨_, op_notInDT hu, _, _, r1.dp hx f.1, r2.dp (n := 8) hx f.2, shaped_sh f.1 (by decide), shaped_sh (n := 8) (d := .tup _) f.2 (by decide), ?_⟩
      rw [inD_pd f.1 f.2]
      exact k _ _ F H q (.bl _) (.refl hx)
  · obtain ⟨f, q⟩ := hg
    rcases (Bool.or_eq_true _ _).mp f with f | f
    · rw [Bool.and_eq_true] at f
      exact ⟨_, ov_notIn, F, _, _, R, hx, r1, r2, ⟨f.1, f.2, q⟩, k⟩
    · rw [Bool.and_eq_true] at f
      refine ⟨_, op_notInD hu, _, _, r1.dp hx f.1, r2.dp (n := 8) hx f.2, shaped_sh f.1 (by decide), shaped_sh (n := 8) (d := .lst _) f.2 (by decide), ?_⟩
      rw [inD_pd f.1 f.2]
      exact k _ _ F H q (.bl _) (.refl hx)
  · exact ⟨_, ov_notIn, F, _, _, R, hx, r1, r2, hg, k⟩
  · exact hg.elim
end

/-! ### zip of a tuple and a str -/
def ItZts (K : PySem.W.Frag) (a : Addr) (xs : List V) (x : Str) : It :=
  ⟨fun i H => SqT K H a xs ∧ i < xs.length ∧ i < x.cps.size,
    fun i H v H' => ∃ T y c, v = .ref T ∧ H T = none ∧ H' = upd H T (.tup [y, .str ⟨#[c]⟩]) ∧ xs[i]? = some y ∧ x.cps[i]? = some c,
    fun i H => SqT K H a xs ∧ (xs.length ≤ i ∨ x.cps.size ≤ i)⟩
theorem sep_zts {z TI TO i1 i2 a : Addr} (D : ZipApart z TI TO i1 i2 a a) : ZipSep2 z TI TO i1 i2 [i1, a] [i2] where
  TIz := D.TIz
  TOz := D.TOz
  TITO := D.TITO
  TIi1 := D.TIi1
  mem1 := by simp
  zf1 := by simpa using ⟨D.i1z.symm, D.l1z.symm⟩
  Tf1 := by simpa using ⟨D.TOi1, D.l1TO.symm⟩
  TIi2 := D.TIi2
  mem2 := by simp
  zf2 := by simpa using D.i2z.symm
  Tf2 := by simpa using D.TOi2
  sep1_2 := by simpa using D.i12
  sep2_1 := by simpa using ⟨D.i12.symm, D.l1i2.symm⟩
theorem turn_zts {P : Program} {w : World} {K : PySem.W.Frag} {elts : List Expr} {kk : Nat} {tpos : Pos} {a z TI TO i1 i2 : Addr} {xs : List V} {x : Str} {t : Tok} (D : ZipApart z TI TO i1 i2 a a) :
    Turn P w K (.Tuple elts kk tpos) (ItZts K a xs x) [z, TI, TO, i1, i2] z (fun i h => (i ≤ xs.length ∧ i ≤ x.cps.size) ∧ IsZip h z TI TO .none ∧ IsTupOf2 h TI (.ref i1) (.ref i2) ∧ (∃ x y, IsTupOf2 h TO x y) ∧ h.IsTupleIter i1 a i ∧ h.IsStrIter i2 (strIterType x) x t i) where
  mem := by simp
  obj := fun i h st c hc => by
    obtain ⟨_, hz, hTI, ⟨x, y, hTO⟩, ⟨o1, e1, _, d1⟩, ⟨o2, e2, _, d2⟩⟩ := st
    have e' : c = z ∨ c = TI ∨ c = TO ∨ c = i1 ∨ c = i2 := by simpa using hc
    rcases e' with q | q | q | q | q
    · rw [q]; exact ⟨_, hz, fun v q => nomatch q⟩
    · rw [q]; exact ⟨_, hTI, fun v q => nomatch q⟩
    · rw [q]; exact ⟨_, hTO, fun v q => nomatch q⟩
    · rw [q]; exact ⟨o1, e1, fun v q => by rw [d1] at q; cases q⟩
    · rw [q]; exact ⟨o2, e2, fun v q => by rw [d2] at q; cases q⟩
  keep := fun i h h' st k => by
    obtain ⟨hi, hz, hTI, ⟨x, y, hTO⟩, h1, h2⟩ := st
    exact ⟨hi, k z (by simp) _ hz, k TI (by simp) _ hTI, ⟨x, y, k TO (by simp) _ hTO⟩, h1.at fun o q => k i1 (by simp) o q, let ⟨o, ho, r⟩ := h2; ⟨o, k i2 (by simp) o ho, r⟩⟩
  item := by
    intro X hP hw hK hc i pins s σ H E I hf st hg
    subst hP hw hK
    obtain ⟨hi, hz, hTI, ⟨x0, y0, hTO⟩, h1, h2⟩ := st
    obtain ⟨hq, l1, l2⟩ := hg
    obtain ⟨its, rv, p, _⟩ := I.tuple hq
    have hzl : z < s.heap.objs.size := Heap.lt_size hz
    have ll : its.toArray.size = xs.length := by rw [List.size_toArray]; exact rv.length.symm
    refine wpAny_pyNext_zipD2_item (sep_zts D) (Draws.tuple (show X.A.in1.handled = none from I.ok.hd hc) i1 a D.l1i1 its.toArray) (Draws.text (show X.A.in1.handled = none from I.ok.hd hc) i2 x t) hz hTI hTO ⟨h1, p⟩ h2 (by omega) l2 fun x1 x2 h' tk y1 y2 z' TO' h1' h2' hT hsz hk => ?_
    obtain ⟨c, u, hcx, rfl⟩ := y2
    have hx : xs[i]? = some xs[i] := List.getElem?_eq_getElem l1
    obtain ⟨u1, hu1, ru1⟩ := rv.get hx
    have e1 : x1 = u1 := by
      have q : its.toArray[i]? = some x1 := y1
      rw [List.getElem?_toArray] at q
      exact Option.some.inj (q.symm.trans hu1)
    subst e1
    refine ⟨_, rfl, wpAny_letOwnedTupleGo_zip (s := { s with heap := h', toks := tk }) z' fun h'' z'' sb => ?_⟩
    have hT2 : h''.get? s.heap.objs.size = some { cls := .type "tuple", data := .seq #[x1, .str ⟨#[c]⟩ u] } := (sb.2 _ (Nat.ne_of_gt hzl)).trans hT
    have new : ObjOk X.prog X.w (upd H s.heap.objs.size (.tup [xs[i], .str ⟨#[c]⟩])) h'' s.heap.objs.size (.tup [xs[i], .str ⟨#[c]⟩]) :=
      ⟨by show 2 ≤ sizeLine; decide, [x1, .str ⟨#[c]⟩ u], .cons ru1 (.cons ⟨u, rfl⟩ .nil), ⟨_, hT2, rfl, _, rfl⟩⟩
    have I1 : Inv X pins σ (upd H s.heap.objs.size (.tup [xs[i], .str ⟨#[c]⟩])) { s with heap := h'', toks := tk } :=
      I.turnedNew (t' := tk) (ch := [z, TI, TO, i1, i2]) (fun c o hb q => (sb.2 c (fun q' => hb (by simp [q']))).trans (hk c o (fun q' => hb (by simp [q'])) (fun q' => hb (by simp [q'])) (fun q' => hb (by simp [q'])) (fun q' => hb (by simp [q'])) q)) hf (Nat.le_refl _) new
    refine ⟨.ref s.heap.objs.size, _, I1, rfl, ⟨_, xs[i], c, rfl, I.hok.fresh (Nat.le_refl _), rfl, hx, hcx⟩, ⟨⟨l1, l2⟩, z'', ?_, ⟨x1, .str ⟨#[c]⟩ u, ?_⟩, ?_, ?_⟩, fun b hcm => ?_⟩
    · exact (sb.2 _ D.TIz).trans (hk _ _ D.TIz D.TITO D.TIi1 D.TIi2 hTI)
    · exact (sb.2 _ D.TOz).trans TO'
    · exact h1'.1.at fun o q => (sb.2 _ D.i1z).trans q
    · exact let ⟨o, ho, r⟩ := h2'; ⟨o, (sb.2 _ D.i2z).trans ho, r⟩
    · have hlt : b < s.heap.objs.size := by
        have e' : b = z ∨ b = TI ∨ b = TO ∨ b = i1 ∨ b = i2 := by simpa using hcm
        rcases e' with q | q | q | q | q
        · rw [q]; exact hzl
        · rw [q]; exact Heap.lt_size hTI
        · rw [q]; exact Heap.lt_size hTO
        · rw [q]; obtain ⟨_, e1, _⟩ := h1; exact Heap.lt_size e1
        · rw [q]; obtain ⟨_, e2, _⟩ := h2; exact Heap.lt_size e2
      rw [upd_ne (Nat.ne_of_lt hlt)]
      exact (hf b hcm).1
  done := by
    intro X hP hw hK hc i pins s σ H E I hf st hg
    subst hP hw hK
    obtain ⟨hi, hz, hTI, ⟨x0, y0, hTO⟩, h1, h2⟩ := st
    obtain ⟨hq, hend⟩ := hg
    obtain ⟨its, rv, p, _⟩ := I.tuple hq
    have ll : its.toArray.size = xs.length := by rw [List.size_toArray]; exact rv.length.symm
    exact wpAny_pyNext_zipD2_end (sep_zts D) (Draws.tuple (show X.A.in1.handled = none from I.ok.hd hc) i1 a D.l1i1 its.toArray) (Draws.text (show X.A.in1.handled = none from I.ok.hd hc) i2 x t) hz hTI hTO ⟨h1, p⟩ h2 (by omega) hi.2 (by omega) fun h' tk hk => ⟨rfl, I.turnedL (t' := tk) (ch := [z, TI, TO, i1, i2]) (fun c o hb q =>
      hk c o (fun q' => hb (by simp [q'])) (fun q' => hb (by simp [q'])) (fun q' => hb (by simp [q'])) (fun q' => hb (by simp [q'])) q) hf⟩
  self := fun A i s Q E st h => wpAny_pyIter_zip st.2.1 h
def iZts (K : PySem.W.Frag) (ta : TA) : TI := fun σ H R => ta σ H fun vs H1 => ∃ a xs x, vs = [.ref a, .str x] ∧ SqT K H1 a xs ∧ R (ItZts K a xs x) H1
theorem pi_zts {X : Cx} {e e2 : Expr} {ta : TA} {p pos tpos : Pos} {elts : List Expr} {kk : Nat} (hg : Gl X "zip") (hm : X.mg "zip" = none) (ha : PA X [e, e2] ta)
    (hs : starEach [e, e2] X.env = (false, eval e X.env) :: starEach [e2] X.env := by rfl) (hpl : (backTo pos (starEach [e2] X.env)).any (·.1) = false := by rfl) :
    PI X (.Tuple elts kk tpos) (.Call (.Name "zip" p) [e, e2] [] pos) (iZts X.K ta) := by
  refine ⟨fun pins s σ H R I h => ?_⟩
  refine PyProof.Rows.Call_ (ld_blt I hg hm PyProof.Rows.boot_zip (PyProof.Rows.callWith_type1 (thn (ha.run pos pins s σ H _ I h) fun us s1 ⟨vs, H1, I1, r1, q1⟩ => ?_) hs hpl))
  obtain ⟨a, xs, x, ex, hq, q⟩ := q1
  subst ex
  cases r1 with
  | cons r rr =>
    cases rr with
    | cons r' rr =>
      cases rr
      cases r
      obtain ⟨t, rfl⟩ := r'
      have fresh5 : ∀ c, c ∈ [s1.heap.objs.size + 4, s1.heap.objs.size + 2, s1.heap.objs.size + 3, s1.heap.objs.size, s1.heap.objs.size + 1] → FpOk X pins H1 c := fun c hcm => by
        have e' : c = s1.heap.objs.size + 4 ∨ c = s1.heap.objs.size + 2 ∨ c = s1.heap.objs.size + 3 ∨ c = s1.heap.objs.size ∨ c = s1.heap.objs.size + 1 := by simpa using hcm
        have hle : s1.heap.objs.size ≤ c := by
          rcases e' with z | z | z | z | z
          · rw [z]; exact Nat.le_add_right _ _
          · rw [z]; exact Nat.le_add_right _ _
          · rw [z]; exact Nat.le_add_right _ _
          · rw [z]; exact Nat.le_refl _
          · rw [z]; exact Nat.le_add_right _ _
        exact I1.fpOk hle (I1.hok.fresh hle)
      obtain ⟨its, rv, p1, _⟩ := I1.tuple hq
      obtain ⟨o1, ho1, _⟩ := id p1
      refine zip_begins2 (begins_tuple a its.toArray) (begins_text x t) p1 trivial fun h' hz hTI hTO h1 h2 hsz hk => wpAny_pyIter_zip hz ?_
      have I2 : Inv X pins σ H1 { s1 with heap := h' } := I1.kept (t' := s1.toks) hk
      exact ⟨s1.heap.objs.size + 4, [s1.heap.objs.size + 4, s1.heap.objs.size + 2, s1.heap.objs.size + 3, s1.heap.objs.size, s1.heap.objs.size + 1], _, _, H1, rfl, I2, turn_zts (t := t) (PySem.W.ktu_apart s1.heap.objs.size a a (Heap.lt_size ho1) (Heap.lt_size ho1)), ⟨⟨Nat.zero_le _, Nat.zero_le _⟩, hz, hTI, ⟨_, _, hTO⟩, ⟨_, h1, rfl, rfl⟩, ⟨_, h2, rfl, rfl⟩⟩, fresh5, q⟩
/-- a tuple beside a text -/
def wZts (w : WA) : WA := fun S R => w S fun ds S1 => match ds with
  | [.tup xs, .str x] => R (List.zipWith (fun x y => .tup [x, y]) xs (chars x)) S1
  | _ => False
section
variable {X : Cx} {Φ : En → Prop} {a b e tg : Expr} {es : List Expr} {w : WE} {ws : WA} {n : Nat} {pos p : Pos} {K : PySem.W.Frag} {F H : Hp}
theorem feeds_zts {a : Addr} {vs : List V} {ds : List D} {x : Str} (h : SqT K F a vs) (s : Reps K F vs ds) : Feeds K (ItZts K a vs x) F (List.zipWith (fun x y => .tup [x, y]) ds (chars x)) := fun F' H' x1 x2 => by
  have hq : SqT K H' a vs := x2.sqT (x1.sqT h)
  have lc : (chars x).length = x.cps.size := by simp [chars]
  refine ⟨fun i d hd => ?_, fun i hi => ?_⟩
  · rw [List.getElem?_zipWith] at hd
    cases e1 : ds[i]? with
    | none => rw [e1] at hd; cases hd
    | some y =>
      cases e2 : (chars x)[i]? with
      | none => rw [e1, e2] at hd; cases hd
      | some z =>
        rw [e1, e2] at hd
        cases hd
        obtain ⟨v, h1, h2⟩ := s.get e1
        obtain ⟨k1, _⟩ := List.getElem?_eq_some_iff.mp h1
        obtain ⟨k2, _⟩ := List.getElem?_eq_some_iff.mp e2
        refine ⟨⟨hq, k1, by omega⟩, fun u H3 hy => ?_⟩
        obtain ⟨T, q, c, rfl, hT, rfl, f1, f2⟩ := hy
        have e3 : q = v := Option.some.inj (f1.symm.trans h1)
        subst e3
        have e4 : z = .str ⟨#[c]⟩ := by
          have e5 : x.cps.toList[i]? = some c := by rw [Array.getElem?_toList]; exact f2
          have e6 : (chars x)[i]? = some (.str ⟨#[c]⟩) := by unfold chars; rw [List.getElem?_map, e5]; rfl
          exact Option.some.inj (e2.symm.trans e6)
        subst e4
        have al := Al.one (o := .tup [q, .str ⟨#[c]⟩]) x2 hT
        exact ⟨_, al, .tup (.of upd_same) (((Reps.cons h2 (.one (.str _))).mono x1).mono al.xF)⟩
  · rw [List.length_zipWith] at hi
    refine ⟨hq, ?_⟩
    rw [s.length]
    omega
theorem di_zts {tpos : Pos} {elts : List Expr} {kk : Nat} (hg : Gl X "zip") (hm : X.mg "zip" = none) (ha : DA X Φ [a, b] n ws) (hp : ∀ t, PA X [a, b] t → PI X (.Tuple elts kk tpos) (.Call (.Name "zip" p) [a, b] [] pos) (iZts X.K t)) : DI X Φ (.Tuple elts kk tpos) (.Call (.Name "zip" p) [a, b] [] pos) (wZts ws) := fun E hE => PI.imp (hp _ (ha E hE)) fun σ H Q => by
  rintro ⟨S, F, R, hR, hw, k⟩
  refine ⟨S, F, _, hR, hw, fun ds S1 vs F1 H1 hw1 l1 r1 hR1 x1 => ?_⟩
  split at hw1
  · obtain ⟨v, u, rfl, q, q2⟩ := r1.two_of
    cases q with
    | tup h s =>
      cases q2 with
      | str => exact ⟨_, _, _, rfl, hR1.g.ext.sqT h, k _ S1 _ F1 H1 hw1 (feeds_zts h s) hR1 x1⟩
  · exact hw1.elim
end
end VL

set_option Elab.async false
set_option linter.all false
set_option maxRecDepth 100000
set_option maxHeartbeats 4000000
/-! VL8: sorted(xs, key=f), f a def of the text. -/
namespace VL
open PySem PySem.Spec PyProof.Rows L2
open PySem.Calls
open PySem.W (keyH_end KeepsBut EachIs AllAlike Sortable SortsAt KeyedOut keyedOut_each each_snoc dataLe dataKind sorted_of_sort copyHeap copyHeap_at copyHeap_old sortingHeap_old sortingHeap sortVals)

theorem in2 {k : Nat} {A : Around} (r : Room (k + 1) A) : Room k A.in1.in1 :=
  ⟨r.hd, by have := r.dp; show A.depth + 3 * k + 5 < _; omega, by have := r.un; show A.units + 1 + 1 + 16 * k + 200 < _; omega⟩

section
variable {X : Cx} {Φ : En → Prop} {pins : List (Addr × Obj)} {σ : L2.St} {H : Hp} {s : Shared} {h' : Heap}
/-- records of ours have turned, one of them is tracked from now on -/
theorem turnedAt {t' : Nat} {ch : List Addr} {T : Addr} {ob : HO} (I : Inv X pins σ H s) (k : ∀ b o, b ∉ ch → s.heap.get? b = some o → h'.get? b = some o) (hf : ∀ b ∈ ch, FpOk X pins H b) (hT : T ∈ ch)
    (new : ObjOk X.prog X.w (upd H T ob) h' T ob) : Inv X pins σ (upd H T ob) { s with heap := h', toks := t' } := by
  have hn : H T = none := (hf T hT).1
  have out : ∀ c v, H c = some v → c ∉ ch := fun c v e z => by rw [(hf c z).1] at e; cases e
  refine I.step (g' := s.gens) (d' := s.drawn) (ch := ch) (fun b hb => let ⟨_, a2, _, a4, a5, a6⟩ := hf b hb; ⟨a4, a2, a5, a6⟩) (fun b o _ _ hc e _ => k b o hc e) (fun b o _ _ hc e _ => ⟨o.slots, k b o hc e⟩)
    (fun b o hc _ n => ?f) (fun b o hc e => ⟨o, k b o hc e⟩) (fun b xs e => ?t) (fun b o u e => ?z) (fun b ps e => ⟨#[], ?l⟩) (fun m hm => ?n) (fun b u e => ?h) I.bare
  case f => rw [upd_ne (fun z => hc (by rw [z]; exact hT))]; exact n
  case t => rw [upd_ne (ne_of_none e hn)]; exact e
  case z => rw [upd_ne (ne_of_none e hn)]; exact e
  case l => rw [upd_ne (ne_of_none e hn), e]; simp
  case n =>
    obtain ⟨o, es, ep, ho, r⟩ := hm
    exact ⟨o, es, ep, k _ o (fun z => (hf _ z).2.1 rfl) ho, r⟩
  case h =>
    by_cases hb : b = T
    · subst hb
      rw [upd_same] at e
      cases e
      exact new
    · rw [upd_ne hb] at e
      refine (I.hok b u e).stay (fun c v hc q => k c v ?_ q) (fun c q => by rw [upd_ne (ne_of_none q hn)]; exact q) fun c xs q => by rw [upd_ne (ne_of_none q hn)]; exact q
      rcases hc with z | z
      · rw [z]; exact out b u e
      · exact out c _ z
end

/-- f's key of x is k, and nothing else happens -/
def KeyOf (spc : Spc) (h : Oh) (x k : D) : Prop := spc [x] h (fun r h' => r = k ∧ h' = h) NX
section
variable {X : Cx} {Φ : En → Prop} {pins : List (Addr × Obj)} {σ : L2.St} {H : Hp} {s : Shared} {n : Nat} {f : Addr} {fd : FuncData} {ps : List Str} {spc : Spc}
/-- a key is asked for, inside a sort -/
theorem key_call {A : Around} (G : FnOk X.prog X.w X.K X.mg X.base CX0 n f fd ps (spOf X.K 1 spc)) (hb : Binds X.K fd ps []) (hr : Room n A) (hA : A.frames = X.A.frames) {F : Hp} {h : Oh} {v : V} {u : Value} {x k : D} (I : Inv X pins σ H s) (g : Ext F H)
    (ob : ∀ a o, h a = some o → ObAt X.K F H a o ∧ F a = none) (rv : RelV v u) (r : Rep X.K F v x) (hk : KeyOf spc h x k) {E : Value → Shared → Prop} :
    wpAny (model X.prog X.w) A (call (.ref f) [u]) (fun v' s' => ∃ (kv : V) (F' H' : Hp), Inv X pins σ H' s' ∧ Un (frs X.stack) [] H H' s.heap s'.heap ∧ RelV kv v' ∧ Rep X.K F' kv k ∧ Gr X.K ⟨F, H, h, fun _ => False⟩ F' H' h) E s := by
  have q : spOf X.K 1 spc [v] H (fun kv H' => ∃ F', Rep X.K F' kv k ∧ Gr X.K ⟨F, H, h, fun _ => False⟩ F' H' h) E0 :=
    ⟨F, [x], h, _, rfl, g, .cons r .nil, ob, hk, fun r h' v' F' H' hr rv gr => by
      obtain ⟨rfl, rfl⟩ := hr
      exact ⟨F', rv, gr⟩⟩
  have hl : [u].length = ps.length := by rw [show [u].length = [v].length from rfl]; exact G.len _ _ _ _ q
  have e0 := I.env0
  refine wpAny_call (codeAny_mono (G.run A X.stack s H ⟨[u], []⟩ [u] [v] _ E0 hr ⟨hA.trans e0.frames, e0.mod, e0.bs, e0.bsz, e0.funs, e0.frf, e0.hok, e0.bare⟩ (by have := hb s [u] I.kIn (by simpa using hl); simpa using this) (.cons rv .nil) q) fun r s' hq => ?_)
  cases r with
  | error e => exact (show False from hq).elim
  | ok fl =>
    cases fl with
    | ret u' =>
      obtain ⟨kv, H', h1, h2, un, h4, h5, F', h6, h7⟩ := hq
      exact ⟨kv, F', H', I.call' (ch := []) h1 un h4 h2 (fun b z => absurd z (by simp)), un, h5, h6, h7⟩
    | next => exact False.elim hq
    | brk => exact False.elim hq
    | cont => exact False.elim hq
end
theorem FpOk.to {X : Cx} {pins : List (Addr × Obj)} {H H' : Hp} {b : Addr} (f : FpOk X pins H b) (h : H' b = none) : FpOk X pins H' b := ⟨h, f.2⟩
theorem FpOk.nostk {X : Cx} {pins : List (Addr × Obj)} {σ : L2.St} {H H1 : Hp} {s : Shared} {b : Addr} (f : FpOk X pins H b) (I : Inv X pins σ H1 s) : b ∉ frs X.stack := fun z => by
  rcases List.mem_cons.mp (I.stkSub b z) with e | e
  · exact f.2.1 e
  · exact f.2.2.1 e
theorem each_reads {X : Cx} {pins : List (Addr × Obj)} {σ : L2.St} {F H : Hp} {s : Shared} (I : Inv X pins σ H s) (e : Ext F H) : ∀ {kvs : List V} {us : List Value} {ks : List D}, Vals kvs us → Reps X.K F kvs ks → ks.all (shD 8) = true →
    EachIs (fun v k => ∃ as, Reads s.heap v k as) us (ks.map D.pd)
  | _, _, _, .nil, .nil, _ => .nil
  | _, _, _, .cons r t, .cons q q', h => by
    rw [List.all_cons, Bool.and_eq_true] at h
    exact .cons (Dp.reads I _ _ _ (q.dp e h.1) r) (each_reads I e t q' h.2)
theorem each_rel {K : PySem.W.Frag} {F : Hp} : ∀ {xs : List V} {us : List Value} {ds : List D}, Vals xs us → Reps K F xs ds → EachIs (fun v d => ∃ x, RelV x v ∧ Rep K F x d) us ds
  | _, _, _, .nil, .nil => .nil
  | _, _, _, .cons r t, .cons q q' => .cons ⟨_, r, q⟩ (each_rel t q')
theorem rel_each {K : PySem.W.Frag} {F : Hp} : ∀ {us : List Value} {ds : List D}, EachIs (fun v d => ∃ x, RelV x v ∧ Rep K F x d) us ds → ∃ xs, Vals xs us ∧ Reps K F xs ds
  | _, _, .nil => ⟨[], .nil, .nil⟩
  | _, _, .cons ⟨x, h1, h2⟩ t => let ⟨xs, h3, h4⟩ := rel_each t; ⟨x :: xs, .cons h1 h3, .cons h2 h4⟩
theorem vals_snoc {xs : List V} {us : List Value} {x : V} {u : Value} (h : Vals xs us) (r : RelV x u) : Vals (xs ++ [x]) (us ++ [u]) := h.append (.cons r .nil)
section
variable {X : Cx} {Φ : En → Prop} {pins : List (Addr × Obj)} {σ : L2.St} {H : Hp} {s : Shared} {n : Nat} {f : Addr} {fd : FuncData} {ps : List Str} {spc : Spc}
/-- what is known ahead of a sort by keys -/
structure KeyB (X : Cx) (n : Nat) (f : Addr) (fd : FuncData) (ps : List Str) (spc : Spc) (A : Around) (F H : Hp) (h : Oh) (xs : List V) (ds : List D) (kf : D → D) : Prop where
  G : FnOk X.prog X.w X.K X.mg X.base CX0 n f fd ps (spOf X.K 1 spc)
  hb : Binds X.K fd ps []
  hr : Room n A
  hA : A.frames = X.A.frames
  hx : Ext F H
  ob : ∀ a o, h a = some o → ObAt X.K F H a o ∧ F a = none
  it : Reps X.K F xs ds
  key : ∀ x ∈ ds, KeyOf spc h x (kf x)
  sh : ∀ x ∈ ds, shD 8 (kf x) = true
  al : AllAlike (ds.map fun x => (kf x).pd)
  so : Sortable (ds.map fun x => (kf x).pd)
  ln : ds.length ≤ sizeLine
theorem sort_rest {A : Around} {F : Hp} {h : Oh} {xs : List V} {ds : List D} {kf : D → D} {vs : List Value} {b : Bool} {a kS : Addr} {e1 : Nat} {P : PySem.Fin → Shared → Prop} {E : Value → Shared → Prop} (B : KeyB X n f fd ps spc A F H h xs ds kf) (I : Inv X pins σ H s) (rv : Vals xs vs)
    (fk : FpOk X pins H kS) (fa : FpOk X pins H a) (hka : kS ≠ a) (nk : s.heap.get? kS = some (seqObj "list" #[] 0)) (na : s.heap.get? a = some (seqObj "list" #[] e1))
    (k : ∀ s' ys F' H', Inv X pins σ (upd H' a (.lst ys)) s' → Reps X.K F' ys (ds.mergeSort (dataLe b fun x => (kf x).pd)) → Gr X.K ⟨F, H, h, fun _ => False⟩ F' H' h → H' a = none → P (.done (.ret .none)) s') :
    wpAny (model X.prog X.w) A (ksk_rest a (.ref f) b vs.toArray e1 (.ref kS)) P E s := by
  have l1 := rv.length
  have l2 := B.it.length
  have l3 := B.ln
  unfold ksk_rest
  refine wpAny_bind (wpAny_rule ?_)
  first
    | rw [List.forIn_toArray]
    | (rw [← Array.forIn_toList]; simp only [List.toList_toArray])
    | rw [← Array.forIn_toList]
  refine wpAny_bind (ksk_fold (fun i s' => ∃ (Fj Hj : Hp) (kA : Array Value) (e : Nat) (kvs : List V), s'.heap.get? kS = some (seqObj "list" kA e) ∧ s'.heap.get? a = some (seqObj "list" #[] e1) ∧ Inv X pins σ Hj s' ∧ Hj kS = none ∧ Hj a = none ∧
    Gr X.K ⟨F, H, h, fun _ => False⟩ Fj Hj h ∧ Vals kvs kA.toList ∧ Reps X.K Fj kvs ((ds.map kf).take i)) vs 0 s
    ⟨F, H, #[], 0, [], nk, na, I, fk.1, fa.1, ⟨B.hx, .refl _, fun _ q _ _ => .inl q, fun _ _ q _ _ => q, fun _ q => q, fun _ q => .inl q, B.ob⟩, .nil, by rw [List.take_zero]; exact .nil⟩ ?step ?done)
  case step =>
    rintro j u s' hu ⟨Fj, Hj, kA, e, kvs, nk', na', I', hk0, ha0, g, rk, rp⟩
    simp only [Nat.zero_add] at rp ⊢
    have hj : j < vs.length := (List.getElem?_eq_some_iff.mp hu).1
    have hjd : j < ds.length := by omega
    have hd : ds[j]? = some ds[j] := List.getElem?_eq_getElem hjd
    obtain ⟨x, hx, rx⟩ := B.it.get hd
    obtain ⟨u', hu', ru⟩ := rv.get hx
    have eu : u' = u := Option.some.inj (hu'.symm.trans hu)
    subst eu
    have hz : kA.size ≤ sizeLine := by
      have q1 : kvs.length = kA.size := by rw [rk.length, Array.length_toList]
      have q2 := rp.length
      rw [List.length_take, List.length_map] at q2
      omega
    have hz1 : kA.size + 1 ≤ sizeLine + 1 := Nat.succ_le_succ hz
    refine wpAny_bind (wpAny_attempt (wpAny_mono (key_call (E := fun _ _ => False) B.G B.hb B.hr B.hA I' g.ext g.obs ru (rx.mono g.gF) (B.key _ (List.getElem_mem hjd))) (fun v s'' he => ?_) fun _ _ hF => hF.elim))
    obtain ⟨kv, F', H', I'', un, rkv, rep, g'⟩ := he
    try dsimp only
    have nk2 : s''.heap.get? kS = some (seqObj "list" kA e) := un.keep _ _ nk' hk0 (FpOk.nostk fk I') (by simp)
    have na2 : s''.heap.get? a = some (seqObj "list" #[] e1) := un.keep _ _ na' ha0 (FpOk.nostk fa I') (by simp)
    have hk2 : H' kS = none := un.free _ _ nk' hk0 (by simp)
    have ha2 : H' a = none := un.free _ _ na' ha0 (by simp)
    have s1 := Heap.SameBut.update s''.heap kS (Obj.mapSeq (·.push v))
    obtain ⟨c2, hc2⟩ : ∃ c2, (s''.heap.update kS (Obj.mapSeq (·.push v))).get? kS = some (seqObj "list" (kA.push v) c2) := ⟨_, get?_update_seq nk2 (·.push v)⟩
    refine wpAny_bind (listUpdate_at nk2 rfl ?_ hz (by rw [Array.size_push]; exact hz1))
    refine wpAny_pure ⟨rfl, F', H', kA.push v, c2, kvs ++ [kv], hc2, (s1.2 a hka.symm).trans na2, I''.turnedL (t' := s''.toks) (ch := [kS]) (fun b o hb q => (s1.2 b (by simpa using hb)).trans q) (fun b hb => by rw [List.mem_singleton.mp hb]; exact FpOk.to fk hk2), hk2, ha2, g.then (fun p hp => hp.elim) g', ?_, ?_⟩
    · rw [Array.toList_push]
      exact vals_snoc rk rkv
    · have ek : (ds.map kf).take (j + 1) = (ds.map kf).take j ++ [kf ds[j]] := by rw [List.take_add_one, List.getElem?_map, hd]; rfl
      rw [ek]
      exact (rp.mono g'.gF).append (.one rep)
  case done =>
    rintro s' ⟨Fj, Hj, kA, e, kvs, nk', na', I', hk0, ha0, g, rk, rp⟩
    rw [List.take_of_length_le (by rw [List.length_map]; omega)] at rp
    have hal : (ds.map kf).all (shD 8) = true := by
      rw [List.all_eq_true]
      intro y hy
      obtain ⟨x, hx, rfl⟩ := List.mem_map.mp hy
      exact B.sh x hx
    have hk' := each_reads I' g.ext rk rp hal
    rw [List.map_map] at hk'
    have hsz : kA.size = vs.length := by
      have q1 : kvs.length = kA.size := by rw [rk.length, Array.length_toList]
      have q2 := rp.length
      rw [List.length_map] at q2
      omega
    try dsimp only
    refine wpAny_bind (listItems_at nk' rfl ?_)
    obtain ⟨W, w1, w2⟩ := restrict s'.heap fun c => decide (c ≠ kS ∧ c ≠ a)
    have w3 : ∀ c o, c ≠ kS → c ≠ a → s'.heap.get? c = some o → W.get? c = some o := fun c o q1 q2 q => (w1 c (decide_eq_true ⟨q1, q2⟩)).trans q
    have hu : ∀ d, d ∈ ds.map (fun x => (kf x).pd) → A.units + d.depth < cLine := fun d hd => by
      obtain ⟨x, hx, rfl⟩ := List.mem_map.mp hd
      have q1 := depth_sh 8 _ (B.sh x hx)
      have q2 := B.hr.un
      omega
    refine keyH_end (κ := dataKind s'.heap (ds.map fun x => (kf x).pd)) (h₁ := W) (fun c o hc q => ?_) (w2 kS (decide_eq_false (fun z => z.1 rfl))) nk' na' hka (SortsAt.data (s := s') hk' B.al B.so hu) hsz (by omega) fun h3 tk3 c3 k3 n3 => ?_
    · have hck : c ≠ kS := fun z => by
        subst z
        rw [w2 c (decide_eq_false (fun z => z.1 rfl))] at q
        cases q
      exact (w1 c (decide_eq_true ⟨hck, hc⟩)).symm.trans q
    · have ko : KeyedOut b (ds.map fun x => (kf x).pd) vs _ := ⟨s'.heap, kA.toList, B.al, rfl, hk'⟩
      obtain ⟨ys, y1, y2⟩ := rel_each (keyedOut_each (bs := ds) (fun x => (kf x).pd) ko (each_rel rv (B.it.mono g.gF)))
      have ly : ys.length ≤ sizeLine := by
        rw [y2.length, List.length_mergeSort]
        exact l3
      refine k _ ys Fj Hj (turnedAt (t' := tk3) (ch := [kS, a]) (T := a) I' (fun c o hc q => ?_) (fun c hc => ?_) (by simp) ⟨ly, _, c3, y1, n3⟩) y2 g ha0
      · have q1 : c ≠ kS ∧ c ≠ a := by simpa using hc
        exact k3 c o q1.2 (w3 c o q1.1 q1.2 q)
      · have q1 : c = kS ∨ c = a := by simpa using hc
        rcases q1 with rfl | rfl
        · exact FpOk.to fk hk0
        · exact FpOk.to fa ha0
end
section
variable {X : Cx} {Φ : En → Prop} {n : Nat} {f : Addr} {fd : FuncData} {ps : List Str} {spc : Spc}
/-- what sorted(l, key=f) wants and gives -/
def rSortF (X : Cx) (n : Nat) (f : Addr) (fd : FuncData) (ps : List Str) (spc : Spc) : List V → List V → Hp → VK → Prop := fun vs zs H Q => ∃ (a : Addr) (F : Hp) (h : Oh) (xs : List V) (ds : List D) (kf : D → D), vs = [.ref a] ∧ zs = [.ref f] ∧ SqL X.K H a xs ∧
  KeyB X n f fd ps spc X.A.in1.in1 F H h xs ds kf ∧ ∀ ys F' H' p, Reps X.K F' ys (ds.mergeSort (dataLe false fun x => (kf x).pd)) → Gr X.K ⟨F, H, h, fun _ => False⟩ F' H' h → H' p = none → Q (.ref p) (upd H' p (.lst ys))
theorem cr_sortF : CallRK X (.builtin "sorted") [Str.ofString "key"] (rSortF X n f fd ps spc) := by
  intro pins s σ H vs zs us ws Q I r rz hq
  obtain ⟨l, F, h, xs, ds, kf, rfl, rfl, hl, B, k⟩ := hq
  obtain rfl := Vals.ref1 r
  obtain ⟨w1, rfl, e1⟩ := vals1 rz
  obtain rfl : w1 = Value.ref f := e1
  obtain ⟨its, rv, p, hz⟩ := I.list hl
  have l1 := rv.length
  have l2 := B.it.length
  have l3 := B.ln
  have a_lt : s.heap.objs.size ≤ s.heap.objs.size + 1 := Nat.le_succ _
  have fa : FpOk X pins H (s.heap.objs.size + 1) := I.fpOk a_lt (I.hok.fresh a_lt)
  refine sorted_of_sort (s := s) p.isList (by omega) (ksk_s1 _ _) (fun _ => ksk_l1 _ _) fun E' => ?_
  rw [show [Str.ofString "key"].zip [Value.ref f] = [(Str.ofString "key", Value.ref f)] from rfl, ksk_t1]
  have ho := copyHeap_at s.heap its
  have ha : s.heap.objs.size + 1 < (copyHeap s.heap its).objs.size := Heap.lt_size ho
  obtain ⟨e1, ho1⟩ : ∃ e1, ((copyHeap s.heap its).update (s.heap.objs.size + 1) (Obj.mapSeq fun _ => (#[] : Array Value))).get? (s.heap.objs.size + 1) = some (seqObj "list" #[] e1) := ⟨_, get?_update_seq ho fun _ => #[]⟩
  have hkS : (((copyHeap s.heap its).update (s.heap.objs.size + 1) (Obj.mapSeq fun _ => (#[] : Array Value))).push (seqObj "tuple" its.toArray 0)).objs.size = (copyHeap s.heap its).objs.size + 1 := by rw [size_push', Heap.size_update]
  have hle : s.heap.objs.size ≤ (copyHeap s.heap its).objs.size + 1 := by omega
  unfold ksk_tree
  refine wpAny_bind (listItems_at ho rfl ?_)
  refine wpAny_bind (listUpdate_at ho rfl ?_ (by rw [List.size_toArray]; omega) (Nat.zero_le _))
  refine wpAny_bind (seqEpoch_at ho1 rfl ?_)
  refine wpAny_bind (wpAny_newTuple ?_ (by show its.length ≤ _; omega))
  refine wpAny_bind (wpAny_newList ?_ (Nat.zero_le _))
  refine wpAny_holding ?_
  have keep : ∀ b o, s.heap.get? b = some o → (sortingHeap (copyHeap s.heap its) (s.heap.objs.size + 1) its).get? b = some o := fun b o q =>
    sortingHeap_old (Nat.ne_of_lt (Nat.lt_succ_of_lt (Heap.lt_size q))) (copyHeap_old q)
  have I2 : Inv X pins σ H { s with heap := sortingHeap (copyHeap s.heap its) (s.heap.objs.size + 1) its } := I.kept (t' := s.toks) keep
  refine sort_rest (b := false) B I2 rv (kS := (((copyHeap s.heap its).update (s.heap.objs.size + 1) (Obj.mapSeq fun _ => (#[] : Array Value))).push (seqObj "tuple" its.toArray 0)).objs.size) ?_ fa ?_ ?_ ?_ fun s' ys F' H' I' ry g ha' => ⟨rfl, .ref _, _, I', rfl, k ys F' H' _ ry g ha'⟩
  · rw [hkS]
    exact I.fpOk hle (I.hok.fresh hle)
  · rw [hkS]
    exact Nat.ne_of_gt (Nat.lt_succ_of_lt ha)
  · exact Heap.get?_push_size _ rfl
  · exact Heap.get?_push_of_some _ (Heap.get?_push_of_some _ ho1)
/-- sorted(e, key=f) -/
def wSortF (spc : Spc) (w : WE) : WE := fun S R => w S fun d S1 => match d with
  | .lst ds => ∃ kf : D → D, (∀ x ∈ ds, KeyOf spc S1.h x (kf x)) ∧ (∀ x ∈ ds, shD 8 (kf x) = true) ∧ AllAlike (ds.map fun x => (kf x).pd) ∧ Sortable (ds.map fun x => (kf x).pd) ∧ ds.length ≤ sizeLine ∧ R (.lst (ds.mergeSort (dataLe false fun x => (kf x).pd))) S1
  | _ => False
theorem dn_sortF {e : Expr} {x : Str} {p px kp pos : Pos} {w : WE} (G : FnOk X.prog X.w X.K X.mg X.base CX0 n f fd ps (spOf X.K 1 spc)) (hr : Room (n + 1) X.A) (hg : Gl X "sorted") (hm : X.mg "sorted" = none) (hgf : Gl X x) (hmf : X.mg x = some (.ref f)) (hb : Binds X.K fd ps []) (he : DE X Φ e w)
    (h1 : starEach [e] X.env = [(false, eval e X.env)] := by rfl) (hdb : (x == ("__debug__" : Str)) = false := by decide) : DN X Φ (.Call (.Name "sorted" p) [e] [⟨some "key", .Name x px, kp⟩] pos) (wSortF spc w) := fun E hE => PE.imp (pe_callBK cr_sortF hg hm (by rfl) (pa_cons (he E hE) pa_nil h1) (pk_cons (pe_glob hgf hmf (v := .ref f) rfl hdb) pk_nil) (he := by rw [h1]; rfl) (hpl := by rw [h1]; rfl)) fun σ H Q => by
  rintro ⟨S, F, R, hR, hw, k⟩
  refine ⟨S, F, _, hR, hw, fun d S1 v F1 H1 hw1 r1 hR1 x1 => ?_⟩
  split at hw1
  · obtain ⟨kf, k1, k2, k3, k4, k5, q⟩ := hw1
    cases r1 with
    | lst ha hs =>
      refine ⟨_, F1, S1.h, _, _, kf, rfl, rfl, .of (hR1.g.ext _ _ ha), ⟨G, hb, in2 hr, rfl, hR1.g.ext, hR1.g.obs, hs, k1, k2, k3, k4, k5⟩, fun ys F' H' p' ry g hp => ?_⟩
      obtain ⟨fr, hR'⟩ := fresh_of (hR1.after g) hp ry
      exact k _ _ p' F' _ q fr hR' (x1.trans g.gF)
  · exact hw1.elim
end
end VL

set_option Elab.async false
set_option linter.all false
set_option maxRecDepth 100000
set_option maxHeartbeats 4000000
/-! VL9: methods of ints and texts; a text times an int; list of a text. -/
namespace VL
open PySem PySem.Spec PyProof.Rows L2
/-- x.bit_length() -/
def wBits (w : WE) : WE := fun S R => w S fun d S1 => match d with
  | .int i => R (.int (Builtin.Int.intBits i : Nat)) S1
  | _ => False
abbrev OM1 := Str → D → (D → Prop) → Prop
def wM1 (g : OM1) (w we : WE) : WE := fun S R => w S fun d S1 => match d with
  | .str a => we S1 fun e S2 => g a e fun z => R z S2
  | _ => False
def wM0 (g : Str → (D → Prop) → Prop) (w : WE) : WE := fun S R => w S fun d S1 => match d with
  | .str a => g a fun z => R z S1
  | _ => False
/-- s.index(t), found -/
def mIndex : OM1 := fun a e R => match e with
  | .str b => ∃ i rest, Builtin.Str.occurrences a b 0 a.length 1 = i :: rest ∧ R (.int (i : Nat))
  | _ => False
/-- s.join(texts) -/
def mJoin : OM1 := fun a e R => match e with
  | .lst ds => ∃ ys : List Str, ds = ys.map D.str ∧ (ys.map (·.length)).sum + ys.length * a.length ≤ 16777216 ∧ R (.str (Txt.join a ys))
  | .tup ds => ∃ ys : List Str, ds = ys.map D.str ∧ (ys.map (·.length)).sum + ys.length * a.length ≤ 16777216 ∧ R (.str (Txt.join a ys))
  | _ => False
def mUpper (a : Str) (R : D → Prop) : Prop := a.length ≤ 5592405 ∧ R (.str (Txt.upper a))
def rM1 (K : PySem.W.Frag) (g : OM1) : V → List V → Hp → VK → Prop := fun x xs H Q => ∃ F a v e R, x = .str a ∧ xs = [v] ∧ Ext F H ∧ Rep K F v e ∧ g a e R ∧ ∀ z v', R z → Rep K F v' z → Q v' H
section
variable {X : Cx} {Φ : En → Prop} {o e : Expr} {wo we : WE} {apos cpos pos : Pos} {name : Str} {id : String}
theorem de_bits (ho : DE X Φ o wo) (hbase : attributeBase o "bit_length" X.env (eval o X.env) = eval o X.env := by rfl) (hline : (apos.endLine == pos.line) = true := by rfl) : DE X Φ (.Call (.Attribute o "bit_length" apos) [] [] pos) (wBits wo) := fun E hE => PE.imp (pe_bits (ho E hE) hbase hline) fun σ H Q => by
  rintro ⟨S, F, R, hR, hw, k⟩
  refine ⟨S, F, _, hR, hw, fun d S1 v F1 H1 hw1 r1 hR1 x1 => ?_⟩
  split at hw1
  · cases r1
    exact ⟨_, rfl, k _ S1 _ F1 H1 hw1 (.int _) hR1 x1⟩
  · exact hw1.elim
theorem mv_index : MtR X "str.index" (rM1 X.K mIndex) := MtR.any fun x xs H Q => by
  rintro ⟨F, a, v, e, R, rfl, rfl, hx, r, hg, k⟩
  refine ⟨_, mt_sindex, ?_⟩
  unfold mIndex at hg
  split at hg
  · obtain ⟨i, rest, h1, h2⟩ := hg
    cases r
    exact ⟨_, _, i, rest, rfl, rfl, h1, k _ _ h2 (.int _)⟩
  · exact hg.elim
theorem mv_join : MtR X "str.join" (rM1 X.K mJoin) := MtR.any fun x xs H Q => by
  rintro ⟨F, a, v, e, R, rfl, rfl, hx, r, hg, k⟩
  refine ⟨_, mt_join, ?_⟩
  unfold mJoin at hg
  split at hg
  · obtain ⟨ys, rfl, h1, h2⟩ := hg
    cases r with
    | lst h s =>
      have e1 := s.strs
      subst e1
      exact ⟨_, _, ys, rfl, rfl, .inl (.of (hx _ _ h)), h1, k _ _ h2 (.str _)⟩
  · obtain ⟨ys, rfl, h1, h2⟩ := hg
    cases r with
    | tup h s =>
      have e1 := s.strs
      subst e1
      exact ⟨_, _, ys, rfl, rfl, .inr (hx.sqT h), h1, k _ _ h2 (.str _)⟩
  · exact hg.elim
theorem de_m1 {g : OM1} (slot : Slot "str" name id) (ty : typeOf (.builtin id) = pure (.type "method_descriptor")) (rule : MtR X id (rM1 X.K g)) (ho : DE X Φ o wo) (he : DE X Φ e we)
    (hs : starEach [e] X.env = [(false, eval e X.env)] := by rfl) (hbase : attributeBase o name X.env (eval o X.env) = eval o X.env := by rfl) (hline : (apos.endLine == pos.line) = true := by rfl) :
    DE X Φ (.Call (.Attribute o name apos) [e] [] pos) (wM1 g wo we) := fun E hE => PE.imp (pe_m1 slot ty rule (ho E hE) (he E hE) hs hbase hline) fun σ H Q => by
  rintro ⟨S, F, R, hR, hw, k⟩
  refine ⟨S, F, _, hR, hw, fun d S1 v F1 H1 hw1 r1 hR1 x1 => ?_⟩
  split at hw1
  · cases r1
    refine ⟨⟨_, rfl⟩, S1, F1, _, hR1, hw1, fun e S2 u F2 H2 hw2 r2 hR2 x2 => ?_⟩
    exact ⟨F2, _, u, e, _, rfl, rfl, hR2.g.ext, r2, hw2, fun z v' hz rz => k z S2 v' F2 H2 hz rz hR2 (x1.trans x2)⟩
  · exact hw1.elim
theorem de_index (ho : DE X Φ o wo) (he : DE X Φ e we) (hs : starEach [e] X.env = [(false, eval e X.env)] := by rfl) (hbase : attributeBase o "index" X.env (eval o X.env) = eval o X.env := by rfl) (hline : (apos.endLine == pos.line) = true := by rfl) :
    DE X Φ (.Call (.Attribute o "index" apos) [e] [] pos) (wM1 mIndex wo we) := de_m1 PySem.F.slot_str_index PySem.F.type_str_index mv_index ho he hs hbase hline
theorem de_join (ho : DE X Φ o wo) (he : DE X Φ e we) (hs : starEach [e] X.env = [(false, eval e X.env)] := by rfl) (hbase : attributeBase o "join" X.env (eval o X.env) = eval o X.env := by rfl) (hline : (apos.endLine == pos.line) = true := by rfl) :
    DE X Φ (.Call (.Attribute o "join" apos) [e] [] pos) (wM1 mJoin wo we) := de_m1 PySem.F.slot_str_join PySem.F.type_str_join mv_join ho he hs hbase hline
theorem de_upper (ho : DE X Φ o wo) (hbase : attributeBase o "upper" X.env (eval o X.env) = eval o X.env := by rfl) (hline : (apos.endLine == pos.line) = true := by rfl) :
    DE X Φ (.Call (.Attribute o "upper" apos) [] [] pos) (wM0 mUpper wo) := fun E hE => PE.imp (pe_upper (ho E hE) hbase hline) fun σ H Q => by
  rintro ⟨S, F, R, hR, hw, k⟩
  refine ⟨S, F, _, hR, hw, fun d S1 v F1 H1 hw1 r1 hR1 x1 => ?_⟩
  split at hw1
  · cases r1
    exact ⟨⟨_, rfl⟩, _, rfl, rfl, hw1.1, k _ S1 _ F1 H1 hw1.2 (.str _) hR1 x1⟩
  · exact hw1.elim
end
/-! ### a text times an int; list of a text -/
def opMulS : O2
  | .str x, .int n, R => MulOk x n ∧ R (.str (Txt.mul x n))
  | d, e, R => opMul d e R
def bLstS : OC
  | [.str x], R => x.length ≤ sizeLine ∧ R (.lst (chars x))
  | ds, R => bLst ds R
section
variable {X : Cx} {Φ : En → Prop}
theorem op_mul_s : OpR X (binaryOp .Mult) (fun x y H Q => ∃ a n, x = .str a ∧ y = .int n ∧ MulOk a n ∧ Q (.str (Txt.mul a n)) H) := by
  intro pins s σ H x y v u Q I rx ry h
  obtain ⟨a, n, rfl, rfl, hm, q⟩ := h
  obtain ⟨t, rfl⟩ := rx
  obtain ⟨t2, rfl⟩ := ry
  exact SB.mul hm fun t' k => ⟨.str _, H, I.tok k, ⟨t', rfl⟩, q⟩
theorem ov_mulS : OpV X (binaryOp .Mult) opMulS := OpR.any fun x y H Q => by
  rintro ⟨F, d, e, R, hx, r1, r2, hg, k⟩
  unfold opMulS at hg
  split at hg
  · cases r1; cases r2
    exact ⟨_, op_mul_s, _, _, rfl, rfl, hg.1, k _ _ F H hg.2 (.str _) (.refl hx)⟩
  · exact ⟨_, ov_mul, F, d, e, R, hx, r1, r2, hg, k⟩
theorem vals_get : ∀ {xs : List V} {us : List Value}, xs.length = us.length → (∀ (j : Nat) (u : Value), us[j]? = some u → ∃ x : V, xs[j]? = some x ∧ RelV x u) → Vals xs us
  | [], [], _, _ => .nil
  | [], _ :: _, h, _ => by simp at h
  | _ :: _, [], h, _ => by simp at h
  | x :: xs, u :: us, h, k => by
    obtain ⟨y, h1, h2⟩ := k 0 u rfl
    cases h1
    exact .cons h2 (vals_get (by simpa using h) fun j v hv => k (j + 1) v hv)
theorem reps_signs {K : PySem.W.Frag} {F : Hp} : ∀ cs : List Nat, Reps K F (cs.map fun c => .str ⟨#[c]⟩) (cs.map fun c => .str ⟨#[c]⟩)
  | [] => .nil
  | _ :: cs => .cons (.str _) (reps_signs cs)
theorem call_list_s (hc : X.calm = true) : CallR X (.type "list") (fun xs H Q => ∃ a : Str, xs = [.str a] ∧ a.length ≤ sizeLine ∧ ∀ l, H l = none → Q (.ref l) (upd H l (.lst (a.cps.toList.map fun c => .str ⟨#[c]⟩)))) := by
  intro pins s σ H xs us Q I rx h
  obtain ⟨a, rfl, hz, q⟩ := h
  cases rx with
  | cons r rr =>
    cases rr
    obtain ⟨t, rfl⟩ := r
    refine PySem.call_list_str (I.ok.hd hc) a t (hn := hz) fun h' tk acc c hk hS hacc => ?_
    have hn : H s.heap.objs.size = none := I.hok.fresh (Nat.le_refl _)
    have vs : Vals (a.cps.toList.map fun c => V.str ⟨#[c]⟩) acc.toList := vals_get (by rw [List.length_map, Array.length_toList, Array.length_toList]; exact hacc.1.symm) fun j u hu => by
      obtain ⟨c, t', h1, rfl⟩ := hacc.2 j u (by rw [← Array.getElem?_toList]; exact hu)
      exact ⟨.str ⟨#[c]⟩, by rw [List.getElem?_map, Array.getElem?_toList, h1]; rfl, ⟨t', rfl⟩⟩
    refine ⟨.ref _, _, I.laid (t' := tk) (o := .lst (a.cps.toList.map fun c => V.str ⟨#[c]⟩)) hk (Nat.le_refl _) ⟨?_, acc.toList, c, vs, ?_⟩, rfl, q _ hn⟩
    · rw [List.length_map]
      exact hz
    · simpa using hS
theorem cn_lstS (hc : X.calm = true) : CallN X (.type "list") bLstS := CallR.any fun xs H Q => by
  rintro ⟨F, ds, R, hx, r, hg, k⟩
  unfold bLstS at hg
  split at hg
  · obtain ⟨v, rfl, q⟩ := r.one_of
    cases q
    exact ⟨_, call_list_s hc, _, rfl, hg.1, fun l hl => k _ _ _ hg.2 (reps_signs _) hl⟩
  · exact ⟨_, cn_lst, F, ds, R, hx, r, hg, k⟩
theorem bLstS_l : ∀ ds R, bLstS ds R → bLstS ds fun d => R d ∧ ∃ es, d = .lst es := fun ds R h => by
  unfold bLstS at h ⊢
  split at h
  · exact ⟨h.1, h.2, _, rfl⟩
  · exact bLst_l _ _ h
theorem cv_lstS (hc : X.calm = true) : CallV X (.type "list") bLstS := vn_vc (cn_lstS hc) bLstS_l
end
/-- a block without free names fits any outer scope -/
theorem blk_any {N : List Str} {sc sc2 scope : Scope} {own : List (Str × Nat)} (h : BlkOk N sc scope own) (hf : scope.names.all (fun y => y.2 != .free) = true) : BlkOk N sc2 scope own := ⟨h.kind, h.uniq, h.ix, fun y hy e => by
  have := List.all_eq_true.mp hf y hy
  rw [e] at this
  exact absurd this (by decide), h.own⟩
end VL

set_option Elab.async false
set_option linter.all false
set_option maxRecDepth 100000
set_option maxHeartbeats 400000
/-! VL10: exceptions of own classes; classes and their instances. -/
namespace VL
open PySem PySem.Spec PyProof.Rows L2
/-! ### exceptions -/
section
variable {X : Cx} {C : Addr} {bmB : List Value} {B newId initId : String}
/-- X() -/
theorem pmk_own0 {x : Str} {p pos : Pos} (F : ExcBaseFacts B newId initId bmB) (q : PySem.W.excIn X.K C bmB newId = true) (gC : X.mg x = some (.ref C)) (kC : PySem.W.keepIn X.K (.ref C) = true) (r : Raises X (.ref C)) (hg : Gl X x)
    (hdb : (x == ("__debug__" : Str)) = false := by decide) : PMk X (.Call (.Name x p) [] [] pos) (fun _ H Q => Q (.ref C) none H) := by
  intro pins s σ H Q I h
  refine PySem.wpAny_Call_Name_kw (ld_glob I hg gC ?_ hdb)
  refine PySem.W.callWith_K0 I.kIn kC ?_
  obtain ⟨bm, N, nm, qn, bs, hdct, sn, sub, ab, col, dd, k0, k1, k2, k3, k5, mN, hC, hN, hni, T⟩ := exc_obj I.kIn q
  refine wpAny_call_exc_subT F T hC hN hni (fun h' e hm => ?_) (Nat.zero_le _)
  exact mk_of I hm r h (I.hok.gone hm.new)
end
/-- what an expression that raises must show -/
def Px (K : PySem.W.Frag) (W : L2.WX) (xx : Str → List (Str × D) → Sg → Prop) : En → Prop := fun E => ∀ c fs S' cls dd σ' F' H', xx c fs S' → XAt K F' c fs cls dd → Rel K E F' H' σ' S' → W cls dd σ' H'
/-- raise, an own class without fields -/
def wRaise (c : Str) : WS := fun T S => T.xx c [] S
theorem ds_raise {X : Cx} {c : Str} {e : Expr} {pos : Pos} {W : L2.WX} (hc : X.calm = true) (tk : Takes X W) (he : PMk X e (fun _ H Q => Q (.ref (clsAt X.K c)) none H)) : DS X W (.Raise (some e) none pos) (wRaise c) := fun E => PS.imp (ps_raise hc tk he) fun D σ H => by
  rintro ⟨S, F, R, hR, hw, k1, k2, k3, k4, k5⟩
  exact k5 c [] S _ _ σ F H hw ⟨rfl, .inl ⟨rfl, rfl⟩⟩ hR
/-- what is wanted behind a body that may raise -/
def FiX (R : D → Oh → Prop) (Y : XC) : We := ⟨fun S => R .non S.h, fun d S => R d S.h, fun _ => False, fun _ => False, fun c fs S => Y c fs S.h⟩
/-- a promise that may raise -/
def spOfX (K : PySem.W.Frag) (n : Nat) (sp : Spc) : Sp := fun vs H Q E => ∃ F ds h R Y, ds.length = n ∧ Ext F H ∧ Reps K F vs ds ∧ (∀ a ob, h a = some ob → ObAt K F H a ob ∧ F a = none) ∧ sp ds h R Y ∧
  (∀ r h' v F' H', R r h' → Rep K F' v r → Gr K ⟨F, H, h, fun _ => False⟩ F' H' h' → Q v H') ∧ ∀ c fs h' F' H' cls dd, Y c fs h' → XAt K F' c fs cls dd → Gr K ⟨F, H, h, fun _ => False⟩ F' H' h' → E cls dd H'
def PkX (n u : Nat) (sp : Spc) (w : WS) : Prop := ∀ ds h R Y, ds.length = n → sp ds h R Y → w (FiX R Y) ⟨ds.map .f ++ List.replicate u .u, h⟩
/-- a def that may raise keeps its promise, by its body -/
theorem fn_okX {P : Program} {w : World} {K : PySem.W.Frag} {mg : Str → Option Value} {base : Heap} {x qual : Str} {st : Stmt} {f : Addr} {fd : FuncData} {N ps : List Str} {k n : Nat} {ws : WS} {spc : Spc} (F : Fun K x qual st f fd) (S : FnScope N ps (defScope st)) (hn : ps.length = n)
    (hb : ∀ (cdv : Value) (A : Around) (outer : List Env) (s : Shared) (H : Hp) (E : XK), Room k (A.deeper (PyProof.Rows.envOfC qual (defScope st) s.heap.objs.size f cdv)) → DSs (cxOf (L2.CX P w) P w K mg base N qual (defScope st) f cdv A outer s H E) (fun cls dd _ H' => E cls dd H') (defBody st) ws)
    (hw : PkX n (N.length - n) spc ws) : FnOk P w K mg base (L2.CX P w) (k + 1) f fd ps (spOfX K n spc) := by
  refine F.okX S (fun vs H Q E h => ?_) (fun cdv A outer s H vs Q E hr h => ?_)
  · obtain ⟨F, ds, h, R, Y, h1, _, h2, _⟩ := h
    rw [h2.length, h1, hn]
  · obtain ⟨F, ds, h, R, Y, h1, h2, h3, h4, h5, h6, h7⟩ := h
    refine ⟨_, hb cdv A outer s H E hr ⟨F, H, h, fun _ => False⟩, _, F, _, ?_, hw ds h R Y h1 h5, fun S' σ' F' H' q r x => h6 _ _ _ F' H' q .non r.g, fun _ _ _ _ q => q.elim, fun _ _ _ _ q => q.elim, fun d S' v σ' F' H' q r' r x => h6 d _ v F' H' q r' r.g, fun c fs S' cls dd σ' F' H' q ax r => h7 c fs _ F' H' cls dd q ax r.g⟩
    have nof : ∀ (i : Nat) (d : D), (ds.map Sl.f ++ List.replicate (N.length - n) Sl.u)[i]? ≠ some (.o d) := fun i d e => by
      rcases Nat.lt_or_ge i (ds.map Sl.f).length with hl | hl
      · rw [List.getElem?_append_left hl, List.getElem?_map] at e
        cases q : ds[i]? with
        | none => rw [q] at e; cases e
        | some y => rw [q] at e; cases e
      · rw [List.getElem?_append_right hl] at e
        have := List.mem_of_getElem? e
        have := List.eq_of_mem_replicate this
        cases this
    refine ⟨⟨h2, .refl _, fun _ q _ _ => .inl q, fun _ _ q _ _ => q, fun _ q => q, fun _ q => .inl q, h4⟩, ?_, fun i d e => ?_, fun i d e => absurd e (nof i d), fun i j d e p q => absurd q (nof i d)⟩
    · unfold L2.start
      rw [List.length_append, List.length_append, List.length_map, List.length_map, List.length_replicate, List.length_replicate, h3.length, h1]
    · rcases Nat.lt_or_ge i (ds.map Sl.f).length with hl | hl
      · rw [List.getElem?_append_left hl, List.getElem?_map] at e
        cases q : ds[i]? with
        | none => rw [q] at e; cases e
        | some y =>
          rw [q] at e
          cases e
          obtain ⟨v, q1, q2⟩ := h3.get q
          exact ⟨v, start_get q1, q2⟩
      · rw [List.getElem?_append_right hl] at e
        have := List.eq_of_mem_replicate (List.mem_of_getElem? e)
        cases this
/-- a promise is handed on -/
def wCallX (sp : Spc) (ws : WA) (xx : Str → List (Str × D) → Sg → Prop) : WE := fun S R => ws S fun ds S1 => sp ds S1.h (fun r h' => R r ⟨S1.s, h'⟩) (fun c fs h' => xx c fs ⟨S1.s, h'⟩)
section
variable {X : Cx} {Φ : En → Prop} {k n : Nat} {f : Addr} {fd : FuncData} {ps : List Str} {spc : Spc} {x : Str} {p pos : Pos} {e : Expr} {es : List Expr} {ws : WA} {W : L2.WX} {xx : Str → List (Str × D) → Sg → Prop}
theorem de_callX (F : FnOk X.prog X.w X.K X.mg X.base (L2.CX X.prog X.w) k f fd ps (spOfX X.K n spc)) (tk : Takes X W) (hx : ∀ E, Φ E → Px X.K W xx E) (hr : Room k X.A) (hg : Gl X x) (hm : X.mg x = some (.ref f)) (hk : PySem.W.keepIn X.K (.ref f) = true) (hb : Binds X.K fd ps []) (ha : DA X Φ (e :: es) n ws)
    (hdb : (x == ("__debug__" : Str)) = false := by decide) (he : starEach (e :: es) X.env = (false, eval e X.env) :: starEach es X.env := by rfl) (hpl : (backTo pos (starEach es X.env)).any (·.1) = false := by rfl) :
    DE X Φ (.Call (.Name x p) (e :: es) [] pos) (wCallX spc ws xx) := fun E hE => PE.imp (pe_callS F hr hg hm hk hb (fun σ => passAt tk σ) (ha E hE) hdb he hpl) fun σ H Q => by
  rintro ⟨S, F, R, hR, hw, k⟩
  refine ⟨S, F, _, hR, hw, fun ds S1 vs F1 H1 hw1 l1 r1 hR1 x1 => ?_⟩
  exact ⟨F1, ds, S1.h, _, _, l1, hR1.g.ext, r1, hR1.g.obs, hw1, fun r h' v F' H' hr rv g => k r _ v F' H' hr rv (hR1.after g) (x1.trans g.gF), fun c fs h' F' H' cls dd hy ax g => hx E hE c fs _ cls dd σ F' H' hy ax (hR1.after g)⟩
/-- .. where nothing is raised -/
theorem de_callL (F : FnOk X.prog X.w X.K X.mg X.base (L2.CX X.prog X.w) k f fd ps (spOfX X.K n spc)) (hr : Room k X.A) (hg : Gl X x) (hm : X.mg x = some (.ref f)) (hk : PySem.W.keepIn X.K (.ref f) = true) (hb : Binds X.K fd ps []) (ha : DA X Φ (e :: es) n ws)
    (hdb : (x == ("__debug__" : Str)) = false := by decide) (he : starEach (e :: es) X.env = (false, eval e X.env) :: starEach es X.env := by rfl) (hpl : (backTo pos (starEach es X.env)).any (·.1) = false := by rfl) :
    DE X Φ (.Call (.Name x p) (e :: es) [] pos) (wCall spc ws) := fun E hE => PE.imp (pe_call F hr hg hm hk hb .nil passL (ha E hE) hdb he hpl) fun σ H Q => by
  rintro ⟨S, F, R, hR, hw, k⟩
  refine ⟨S, F, _, hR, hw, fun ds S1 vs F1 H1 hw1 l1 r1 hR1 x1 => ?_⟩
  show spOfX X.K n spc (vs ++ []) H1 Q E0
  rw [List.append_nil]
  exact ⟨F1, ds, S1.h, _, NX, l1, hR1.g.ext, r1, hR1.g.obs, hw1, fun r h' v F' H' hr rv g => k r _ v F' H' hr rv (hR1.after g) (x1.trans g.gF), fun c fs h' F' H' cls dd hy => hy.elim⟩
end

/-! ### statements with parts that raise -/
section
variable {X : Cx} {W : L2.WX} {e : Expr} {pos : Pos} {w : (Str → List (Str × D) → Sg → Prop) → WE} {g : WG}
/-- the family of readings of an expression that may raise -/
def LEX (K : PySem.W.Frag) (E : En) (W : L2.WX) (w : (Str → List (Str × D) → Sg → Prop) → WE) : TE := fun σ H Q => ∃ xx, Px K W xx E ∧ LE K E (w xx) σ H Q
def DEX (X : Cx) (W : L2.WX) (e : Expr) (w : (Str → List (Str × D) → Sg → Prop) → WE) : Prop := ∀ xx, DE X (Px X.K W xx) e (w xx)
theorem DEX.pe (h : DEX X W e w) (E : En) : PE X e (LEX X.K E W w) := ⟨fun pins s σ H Q I q => let ⟨xx, hx, q⟩ := q; (h xx E hx).run pins s σ H Q I q⟩
def LTX (K : PySem.W.Frag) (E : En) (W : L2.WX) (w : (Str → List (Str × D) → Sg → Prop) → WT) : TT := fun σ H Q => ∃ xx, Px K W xx E ∧ LT K E (w xx) σ H Q
def DTX (X : Cx) (W : L2.WX) (e : Expr) (w : (Str → List (Str × D) → Sg → Prop) → WT) : Prop := ∀ xx, DT X (Px X.K W xx) e (w xx)
theorem DTX.pt {w : (Str → List (Str × D) → Sg → Prop) → WT} (h : DTX X W e w) (E : En) : PT X e (LTX X.K E W w) := ⟨fun pins s σ H Q I q => let ⟨xx, hx, q⟩ := q; (h xx E hx).run pins s σ H Q I q⟩
theorem ds_asgX {tg : Expr} (he : DEX X W e w) (hg : DG X Tr tg g) (hs : swapsWithSole [tg] e pos.line X.env = pure false := by rfl) (hw : swappedStores [tg] e X.env = pure none := by rfl)
    (h1 : (assignEach [tg] X.env).map (·.2) = [assign tg X.env] := by rfl) : DS X W (.Assign [tg] e pos) (fun T => wAsg (w T.xx) g T) := fun E => PS.imp (ps_asg (he.pe E) (hg E trivial) hs hw h1) fun D σ H => by
  rintro ⟨S, F, R, hR, hw, k1, k2, k3, k4, k5⟩
  refine ⟨R.xx, k5, S, F, _, hR, hw, fun d S1 v F1 H1 hw1 r1 hR1 x1 => ?_⟩
  exact ⟨S1, F1, d, _, hR1, r1, hw1, fun S2 σ2 F2 H2 q r x2 => k1 S2 σ2 F2 H2 q r (x1.trans x2)⟩
theorem ds_setX {x : Str} {pos' : Pos} (i : Nat) (he : DEX X W e w) (h : ∀ te, PE X e te → PS X (.Assign [.Name x pos'] e pos) (tAsg te (L2.gName i))) : DS X W (.Assign [.Name x pos'] e pos) (fun T => wAsg (w T.xx) (gVar i) T) := fun E => PS.imp (h _ (he.pe E)) fun D σ H => by
  rintro ⟨S, F, R, hR, hw, k1, k2, k3, k4, k5⟩
  refine ⟨R.xx, k5, S, F, _, hR, hw, fun d S1 v F1 H1 hw1 r1 hR1 x1 => ?_⟩
  exact k1 _ _ F1 H1 hw1 (hR1.set r1) x1
theorem ds_exprX (he : DEX X W e w) (hs : swapsWith e none pos.line X.env = pure false := by rfl) : DS X W (.Expr e pos) (fun T => wDrop (w T.xx) T) := fun E => PS.imp (ps_expr (he.pe E) hs) fun D σ H => by
  rintro ⟨S, F, R, hR, hw, k1, k2, k3, k4, k5⟩
  exact ⟨R.xx, k5, S, F, _, hR, hw, fun d S1 v F1 H1 hw1 r1 hR1 x1 => k1 S1 σ F1 H1 hw1 hR1 x1⟩
theorem ds_retX (he : DEX X W e w) : DS X W (.Return (some e) pos) (fun T => wRet (w T.xx) T) := fun E => PS.imp (ps_ret (he.pe E)) fun D σ H => by
  rintro ⟨S, F, R, hR, hw, k1, k2, k3, k4, k5⟩
  exact ⟨R.xx, k5, S, F, _, hR, hw, fun d S1 v F1 H1 hw1 r1 hR1 x1 => k4 d S1 v σ F1 H1 hw1 r1 hR1 x1⟩
theorem ds_ifX {wt : (Str → List (Str × D) → Sg → Prop) → WT} {t u : WS} {c : Expr} {body els : List Stmt} (hc : DTX X W c wt) (ha : DSs X W body t) (hb : DSs X W els u) : DS X W (.If c body els pos) (fun T => wIfS (wt T.xx) t u T) := fun E => PS.imp (ps_if (hc.pt E) (ha E) (hb E)) fun D σ H => by
  rintro ⟨S, F, R, hR, hw, k1, k2, k3, k4, k5⟩
  refine ⟨R.xx, k5, S, F, _, hR, hw, fun b S1 F1 H1 hw1 hR1 x1 => ?_⟩
  cases b with
  | true => exact LS.weak x1 hR1 (br_t hw1) (fun S' σ' F' H' q r x => k1 S' σ' F' H' q r (x1.trans x)) k2 k3 k4 k5
  | false => exact LS.weak x1 hR1 (br_f hw1) (fun S' σ' F' H' q r x => k1 S' σ' F' H' q r (x1.trans x)) k2 k3 k4 k5
end

/-! ### try: body, except C: suite -/
/-- the class caught is c, the one that the body raises -/
def wTry (c : Str) (body suite : WS) : WS := fun T S => body { T with xx := fun c' fs S' => c' = c ∧ suite { T with xx := fun _ _ _ => False } S' } S
section
variable {X : Cx} {W : L2.WX} {x c : Str} {C : Addr} {body suite : List Stmt} {b₀ : Stmt} {np pos pos' : Pos} {tb ts : WS}
theorem ds_try (hs : X.stack = X.env :: X.outer) (hf : X.env.frame = some X.env.locals) (hc : Names X x (.ref (clsAt X.K c))) (he : PySem.W.exmOne X.K (.ref (clsAt X.K c)) (.ref (clsAt X.K c)) = some true) (tk : Takes X W)
    (hb : ∀ (W' : L2.WX) (pn : List (Addr × Obj)) (xe : Value → Shared → Prop), Takes (X.tr pn xe) W' → PassesOwn (model X.prog X.w) X.A X.env xe → DSs (X.tr pn xe) W' body tb)
    (hsu : ∀ (W' : L2.WX) (a : Addr) (oe : Obj) (pn : List (Addr × Obj)), DSs (X.suite a ((a, oe) :: pn)) W' (b₀ :: suite) ts) :
    DS X W (.Try body [.ExceptHandler (some (.Name x np)) none (b₀ :: suite) pos'] [] [] pos) (wTry c tb ts) := fun E => PS.imp
    (ps_try_only (tb := fun W' D σ H => ∃ E', LS X.K E' W' tb D σ H) (ts := fun _ _ _ D σ H => ∃ E', LS X.K E' (fun _ _ _ _ => False) ts D σ H) hs hf hc tk
      (fun W' pn xe tk' hp => ⟨fun pins s σ H D I q => let ⟨E', q⟩ := q; ((hb W' pn xe tk' hp) E').run pins s σ H D I q⟩)
      (fun a oe cls d pn _ _ => ⟨fun pins s σ H D I q => let ⟨E', q⟩ := q; ((hsu _ a oe pn) E').run pins s σ H D I q⟩)) fun D σ H => by
  rintro ⟨S, F, R, hR, hw, k1, k2, k3, k4, k5⟩
  refine ⟨_, S, F, _, hR.enter, hw, fun S' σ' F' H' q r x => k1 S' σ' F' H' q (hR.leave r) x, fun S' σ' F' H' q r x => k2 S' σ' F' H' q (hR.leave r) x, fun S' σ' F' H' q r x => k3 S' σ' F' H' q (hR.leave r) x, fun d S' v σ' F' H' q rv r x => k4 d S' v σ' F' H' q rv (hR.leave r) x, fun c' fs S' cls dd σ' F' H' q ax r => ?_⟩
  obtain ⟨rfl, q⟩ := q
  obtain ⟨rfl, _⟩ := ax
  have x0 : Ext F F' := r.g.gF
  refine ⟨true, he, fun _ a ha => ⟨E, S', F', { R with xx := fun _ _ _ => False }, hR.leave r, ?_, fun S2 σ2 F2 H2 q r x => k1 S2 σ2 F2 H2 q r (x0.trans x), fun S2 σ2 F2 H2 q r x => k2 S2 σ2 F2 H2 q r (x0.trans x), fun S2 σ2 F2 H2 q r x => k3 S2 σ2 F2 H2 q r (x0.trans x), fun d S2 v σ2 F2 H2 q rv r x => k4 d S2 v σ2 F2 H2 q rv r (x0.trans x), fun _ _ _ _ _ _ _ _ z => z.elim⟩, fun z => nomatch z⟩
  exact q
end
end VL

set_option Elab.async false
set_option linter.all false
set_option maxRecDepth 100000
set_option maxHeartbeats 400000
/-! VL11: classes and their instances; a list sorted downwards; len(set(..)). -/
namespace VL
open PySem PySem.Spec PyProof.Rows L2
abbrev XX := Str → List (Str × D) → Sg → Prop
/-! ### fields -/
def putD (f : Str) (d : D) : List (Str × D) → List (Str × D)
  | [] => [(f, d)]
  | (g, x) :: r => if g = f then (g, d) :: r else (g, x) :: putD f d r
section
variable {K : PySem.W.Frag} {F H : Hp}
theorem fs_lookup : ∀ {vfs : List (Str × V)} {fs : List (Str × D)} {f : Str} {d : D}, vfs.map (·.1) = fs.map (·.1) → Reps K F (vfs.map (·.2)) (fs.map (·.2)) → fs.lookup f = some d → ∃ v, vfs.lookup f = some v ∧ Rep K F v d
  | [], [], _, _, _, _, h => nomatch h
  | [], _ :: _, _, _, e, _, _ => nomatch e
  | _ :: _, [], _, _, e, _, _ => nomatch e
  | (g, v) :: vfs, (g', x) :: fs, f, d, e, r, h => by
    rw [List.map_cons, List.map_cons] at e
    injection e with e1 e2
    have e1' : g = g' := e1
    subst e1'
    cases r with
    | cons r1 r2 =>
      rw [List.lookup_cons] at h ⊢
      cases q : (f == g) with
      | true =>
        rw [q] at h
        cases h
        exact ⟨v, rfl, r1⟩
      | false =>
        rw [q] at h
        exact fs_lookup e2 r2 h
theorem fs_none : ∀ {vfs : List (Str × V)} {fs : List (Str × D)} {f : Str}, vfs.map (·.1) = fs.map (·.1) → fs.lookup f = none → vfs.lookup f = none
  | [], [], _, _, _ => rfl
  | [], _ :: _, _, e, _ => nomatch e
  | _ :: _, [], _, e, _ => nomatch e
  | (g, v) :: vfs, (g', x) :: fs, f, e, h => by
    rw [List.map_cons, List.map_cons] at e
    injection e with e1 e2
    have e1' : g = g' := e1
    subst e1'
    rw [List.lookup_cons] at h ⊢
    cases q : (f == g) with
    | true =>
      rw [q] at h
      cases h
    | false =>
      rw [q] at h
      exact fs_none e2 h
theorem fs_put {f : Str} {v : V} {d : D} (rv : Rep K F v d) : ∀ {vfs : List (Str × V)} {fs : List (Str × D)}, vfs.map (·.1) = fs.map (·.1) → Reps K F (vfs.map (·.2)) (fs.map (·.2)) →
    (putF f v vfs).map (·.1) = (putD f d fs).map (·.1) ∧ Reps K F ((putF f v vfs).map (·.2)) ((putD f d fs).map (·.2))
  | [], [], _, _ => ⟨rfl, .one rv⟩
  | [], _ :: _, e, _ => nomatch e
  | _ :: _, [], e, _ => nomatch e
  | (g, u) :: vfs, (g', x) :: fs, e, r => by
    rw [List.map_cons, List.map_cons] at e
    injection e with e1 e2
    have e1' : g = g' := e1
    subst e1'
    cases r with
    | cons r1 r2 =>
      unfold putF putD
      by_cases q : g = f
      · rw [if_pos q, if_pos q]
        exact ⟨by rw [List.map_cons, List.map_cons, e2], .cons rv r2⟩
      · rw [if_neg q, if_neg q]
        obtain ⟨h1, h2⟩ := fs_put rv e2 r2
        exact ⟨by rw [List.map_cons, List.map_cons, h1], .cons r1 h2⟩
end
/-- e.f -/
def wFld (c f : Str) (w : WE) : WE := fun S R => w S fun x S1 => ∃ a fs d, x = .obj a ∧ S1.h a = some (.ins c fs) ∧ fs.lookup f = some d ∧ R d S1
/-- e.f = .. -/
def wSetF (c f : Str) (w we : WE) : WS := fun D S => we S fun d S1 => w S1 fun x S2 => ∃ a fs, x = .obj a ∧ S2.h a = some (.ins c fs) ∧ fs.length < 1000 ∧ D.nx (S2.ob a (.ins c (putD f d fs)))
/-- .. a fresh container that becomes a known object -/
def wSetFM (c f : Str) (w we : WE) : WS := fun D S => we S fun d S1 => ∀ q, S1.h q = none → w (S1.ob q (obOf d)) fun x S2 => ∃ a fs, x = .obj a ∧ S2.h a = some (.ins c fs) ∧ fs.length < 1000 ∧ D.nx (S2.ob a (.ins c (putD f (.obj q) fs)))
/-- e.f op= .. -/
def wAugF (c f : Str) (g : O2) (w we : WE) : WS := fun D S => w S fun x S1 => ∃ a fs d, x = .obj a ∧ S1.h a = some (.ins c fs) ∧ fs.lookup f = some d ∧
  we S1 fun e S2 => g d e fun z => ∃ fs', S2.h a = some (.ins c fs') ∧ fs'.length < 1000 ∧ D.nx (S2.ob a (.ins c (putD f z fs')))
/-- what is known of a class of the text: f no attribute of it -/
structure ClsT (K : PySem.W.Frag) (c : Str) : Prop where
  cls : Cls K (clsAt K c)
def NoF (K : PySem.W.Frag) (c f : Str) : Prop := NoAttr K (clsAt K c) f
section
variable {X : Cx} {Φ : En → Prop} {W : L2.WX} {o e value : Expr} {c f : Str} {pos pos' tpos : Pos} {w we : WE}
theorem de_fld (he : DE X Φ e w) (T : ClsT X.K c) (n : NoF X.K c f) (hb : attributeBase e f X.env (eval e X.env) = eval e X.env := by rfl) : DE X Φ (.Attribute e f pos) (wFld c f w) := fun E hE => PE.imp (pe_fld (he E hE) hb) fun σ H Q => by
  rintro ⟨S, F, R, hR, hw, k⟩
  refine ⟨S, F, _, hR, hw, fun x S1 v1 F1 H1 hw1 r1 hR1 x1 => ?_⟩
  obtain ⟨a, fs, d, rfl, h1, h2, q⟩ := hw1
  cases r1
  obtain ⟨dx, vfs, g1, g2, g3⟩ := (hR1.g.obs _ _ h1).1
  obtain ⟨v, q1, q2⟩ := fs_lookup g2 g3 h2
  exact ⟨a, _, dx, vfs, v, rfl, g1, T.cls, n, q1, k d S1 v F1 H1 q q2 hR1 x1⟩
theorem vlen {K : PySem.W.Frag} {F : Hp} {vfs : List (Str × V)} {fs : List (Str × D)} (e : vfs.map (·.1) = fs.map (·.1)) : vfs.length = fs.length := by
  have := congrArg List.length e
  rwa [List.length_map, List.length_map] at this
theorem ds_fld (ho : DE X Tr o w) (hv : DE X Tr value we) (T : ClsT X.K c) (n : NoF X.K c f) (hs : swapsWith value (some (.Attribute o f pos')) pos.line X.env = pure false := by rfl) : DS X W (.Assign [.Attribute o f pos'] value pos) (wSetF c f w we) := fun E => PS.imp (ps_fld (ho E trivial) (hv E trivial) hs) fun D σ H => by
  rintro ⟨S, F, R, hR, hw, k1, k2, k3, k4, k5⟩
  refine ⟨S, F, _, hR, hw, fun d S1 v1 F1 H1 hw1 r1 hR1 x1 => ?_⟩
  refine ⟨S1, F1, _, hR1, hw1, fun x S2 v2 F2 H2 hw2 r2 hR2 x2 => ?_⟩
  obtain ⟨a, fs, rfl, h1, h2, q⟩ := hw2
  cases r2
  obtain ⟨dx, vfs, g1, g2, g3⟩ := (hR2.g.obs _ _ h1).1
  obtain ⟨p1, p2⟩ := fs_put (f := f) (r1.mono x2) g2 g3
  exact ⟨a, _, dx, vfs, rfl, g1, T.cls, n, by rw [vlen (K := X.K) (F := F2) g2]; exact h2, k1 _ σ F2 _ q (hR2.obput (by rw [h1]; simp) ⟨dx, _, upd_same, p1, p2⟩) (x1.trans x2)⟩
theorem ds_fldM (ho : DE X Tr o w) (hv : DN X Tr value we) (T : ClsT X.K c) (n : NoF X.K c f) (hs : swapsWith value (some (.Attribute o f pos')) pos.line X.env = pure false := by rfl) : DS X W (.Assign [.Attribute o f pos'] value pos) (wSetFM c f w we) := fun E => PS.imp (ps_fld (ho E trivial) (hv E trivial) hs) fun D σ H => by
  rintro ⟨S, F, R, hR, hw, k1, k2, k3, k4, k5⟩
  refine ⟨S, F, _, hR, hw, fun d S1 p F1 H1 hw1 fr hR1 x1 => ?_⟩
  have ha : ObAt X.K F1 H1 p (obOf d) := by
    have z := fr.at_
    cases d <;> first | exact z | exact z.elim
  refine ⟨_, F1, _, hR1.obnew fr ha, hw1 p fr.nh, fun x S2 v2 F2 H2 hw2 r2 hR2 x2 => ?_⟩
  obtain ⟨a, fs, rfl, h1, h2, q⟩ := hw2
  cases r2
  obtain ⟨dx, vfs, g1, g2, g3⟩ := (hR2.g.obs _ _ h1).1
  obtain ⟨p1, p2⟩ := fs_put (f := f) (v := .ref p) (d := .obj p) (.obj p) g2 g3
  exact ⟨a, _, dx, vfs, rfl, g1, T.cls, n, by rw [vlen (K := X.K) (F := F2) g2]; exact h2, k1 _ σ F2 _ q (hR2.obput (by rw [h1]; simp) ⟨dx, _, upd_same, p1, p2⟩) (x1.trans x2)⟩
theorem ds_augF {op : Operator} {g : O2} (hp : OpV X (inplaceOp op) g) (ho : DE X Tr o w) (hv : DE X Tr value we) (T : ClsT X.K c) (n : NoF X.K c f) : DS X W (.AugAssign (.Attribute o f tpos) op value pos) (wAugF c f g w we) := fun E => PS.imp (ps_fldaug (ho E trivial) (hv E trivial) hp) fun D σ H => by
  rintro ⟨S, F, R, hR, hw, k1, k2, k3, k4, k5⟩
  refine ⟨S, F, _, hR, hw, fun x S1 v1 F1 H1 hw1 r1 hR1 x1 => ?_⟩
  obtain ⟨a, fs, d, rfl, h1, h2, hw1⟩ := hw1
  cases r1
  obtain ⟨dx, vfs, g1, g2, g3⟩ := (hR1.g.obs _ _ h1).1
  obtain ⟨v, q1, q2⟩ := fs_lookup g2 g3 h2
  refine ⟨a, _, dx, vfs, v, rfl, g1, T.cls, n, q1, S1, F1, _, hR1, hw1, fun e S2 v2 F2 H2 hw2 r2 hR2 x2 => ?_⟩
  refine ⟨F2, d, e, _, hR2.g.ext, q2.mono x2, r2, hw2, fun z u F' H' hz rz al => ?_⟩
  obtain ⟨fs', h3, h4, q⟩ := hz
  have hR3 := hR2.al al
  obtain ⟨dx', vfs', g1', g2', g3'⟩ := (hR3.g.obs _ _ h3).1
  obtain ⟨p1, p2⟩ := fs_put (f := f) rz g2' g3'
  exact ⟨dx', vfs', g1', by rw [vlen (K := X.K) (F := F') g2']; exact h4, k1 _ σ F' _ q (hR3.obput (by rw [h3]; simp) ⟨dx', _, upd_same, p1, p2⟩) ((x1.trans x2).trans al.xF)⟩
end

/-! ### new instances -/
/-- a new instance becomes a known object -/
theorem Rel.obmake {K : PySem.W.Frag} {E : En} {F H : Hp} {σ : L2.St} {S : Sg} {c : Str} {x dx : Addr} (R : Rel K E F H σ S) (hx : H x = none) (hd : H dx = none) (ne : dx ≠ x) :
    Rel K E F (upd (upd H dx (.own x)) x (.ins (clsAt K c) dx [])) σ (S.ob x (.ins c [])) := by
  have R1 := (R.fresh (o := .own x) hd).1
  have hx1 : (upd H dx (.own x)) x = none := by rw [upd_ne (Ne.symm ne)]; exact hx
  obtain ⟨R2, nF, nh, nE, no⟩ := R1.fresh (o := .ins (clsAt K c) dx []) hx1
  refine ⟨⟨R2.g.ext, R2.g.gF, R2.g.gN, R2.g.gH, R2.g.gP, fun b q => ?_, fun b ob q => ?_⟩, R2.len, R2.frz, fun j e' h => ?_, R2.inj⟩
  · by_cases hb : b = x
    · subst hb; exact .inr (.inl nE)
    · have q' : S.h.put x _ b ≠ none := q
      rw [Oh.put_ne hb] at q'; exact R2.g.gO b q'
  · have q' : S.h.put x _ b = some ob := q
    by_cases hb : b = x
    · subst hb
      rw [Oh.put_same] at q'; cases q'
      exact ⟨⟨dx, [], upd_same, rfl, .nil⟩, nF⟩
    · rw [Oh.put_ne hb] at q'
      exact R2.g.obs b ob q'
  · obtain ⟨q, q1, q2, q3, q4, q5⟩ := R2.own j e' h
    have nq : q ≠ x := fun z => no j e' h (z ▸ q1)
    exact ⟨q, q1, q2, q3, by show S.h.put x _ q = none; rw [Oh.put_ne nq]; exact q4, q5⟩
def wMake (c : Str) (sp : Spc) (ws : WA) : WE := fun S R => ws S fun ds S1 => ∀ a, S1.h a = none → sp (.obj a :: ds) (S1.h.put a (.ins c [])) (fun r h' => r = .non ∧ R (.obj a) ⟨S1.s, h'⟩) NX
def wMakeX (c : Str) (sp : Spc) (ws : WA) (xx : XX) : WE := fun S R => ws S fun ds S1 => ∀ a, S1.h a = none → sp (.obj a :: ds) (S1.h.put a (.ins c [])) (fun r h' => r = .non ∧ R (.obj a) ⟨S1.s, h'⟩) (fun c' fs h' => xx c' fs ⟨S1.s, h'⟩)
/-- o.m(..) -/
def wMeth (c m : Str) (sp : Spc) (w : WE) (ws : WA) : WE := fun S R => w S fun x S1 => ∃ a fs, x = .obj a ∧ S1.h a = some (.ins c fs) ∧ fs.lookup m = none ∧ ws S1 fun ds S2 => sp (.obj a :: ds) S2.h (fun r h' => R r ⟨S2.s, h'⟩) NX
def wMethX (c m : Str) (sp : Spc) (w : WE) (ws : WA) (xx : XX) : WE := fun S R => w S fun x S1 => ∃ a fs, x = .obj a ∧ S1.h a = some (.ins c fs) ∧ fs.lookup m = none ∧ ws S1 fun ds S2 => sp (.obj a :: ds) S2.h (fun r h' => R r ⟨S2.s, h'⟩) (fun c' fs h' => xx c' fs ⟨S2.s, h'⟩)
section
variable {X : Cx} {CX : CXT} {k : Nat} {f C : Addr} {fd : FuncData} {ps : List Str} {sp : Sp} {E : L2.St → XK} {x m : Str} {p pos apos : Pos} {e o : Expr} {es : List Expr} {ta : TE} {t : TA}
/-- C(..) that may raise -/
def tMakeE (C : Addr) (sp : Sp) (E : L2.St → XK) (t : TA) : TE := fun σ H Q => t σ H fun vs H1 => ∀ x dx, H1 x = none → H1 dx = none → dx ≠ x →
  sp (.ref x :: vs) (upd (upd H1 dx (.own x)) x (.ins C dx [])) (fun v H2 => v = .non ∧ Q (.ref x) H2) (E σ)
theorem run_makeE {pins : List (Addr × Obj)} {σ : L2.St} {H : Hp} {s : Shared} {Q : VK} {us : List Value} {vs : List V} (M : Mk X.K C f) (F : FnOk X.prog X.w X.K X.mg X.base CX k f fd ps sp) (hr : Room (k + 1) X.A) (hb : Binds X.K fd ps [])
    (hx : PassesAt CX X σ (E σ)) (I : Inv X pins σ H s) (r : Vals vs us)
    (h : ∀ x dx, H x = none → H dx = none → dx ≠ x → sp (.ref x :: vs) (upd (upd H dx (.own x)) x (.ins C dx [])) (fun v H2 => v = .non ∧ Q (.ref x) H2) (E σ)) :
    wpAny (model X.prog X.w) X.A (call (.ref C) us) (EP X pins σ Q) X.xe s := by
  have hq := h (s.heap.objs.size + 1) s.heap.objs.size (I.hok.fresh (Nat.le_succ _)) (I.hok.fresh (Nat.le_refl _)) (Nat.ne_of_lt (Nat.lt_succ_self _))
  have I2 := Inv.made (C := C) I
  have r2 : Vals (V.ref (s.heap.objs.size + 1) :: vs) (Value.ref (s.heap.objs.size + 1) :: us) := .cons rfl r
  have hl : (Value.ref (s.heap.objs.size + 1) :: us ++ []).length = ps.length := by
    have e := r2.length
    rw [F.len _ _ _ _ hq] at e
    rw [List.append_nil]
    exact e.symm
  have hbb := hb _ (Value.ref (s.heap.objs.size + 1) :: us) I2.kIn hl
  rw [List.append_nil] at hbb
  refine wpAny_call (make_map (f := f) I.kIn M.makes M.init (beq_iff_eq.mp M.fn) (codeAny_mono (F.run _ X.stack _ _ ⟨Value.ref (s.heap.objs.size + 1) :: us, []⟩ (Value.ref (s.heap.objs.size + 1) :: us) _ _ (E σ) (hr.make C us [])
    (I2.env0.make C us []) hbb r2 hq) fun r s' hq' => ?_))
  cases r with
  | error e => exact hx pins _ _ e s' I2 hq'
  | ok fl =>
    cases fl with
    | ret u =>
      obtain ⟨v, H', I3, rv, ev, q3⟩ := I2.after hq'
      subst ev
      exact ⟨rv, ⟨V.ref (s.heap.objs.size + 1), H', I3, rfl, q3⟩⟩
    | next => exact False.elim hq'
    | brk => exact False.elim hq'
    | cont => exact False.elim hq'
theorem pe_makeE (M : Mk X.K C f) (F : FnOk X.prog X.w X.K X.mg X.base CX k f fd ps sp) (hr : Room (k + 1) X.A) (hg : Gl X x) (hm : X.mg x = some (.ref C)) (hb : Binds X.K fd ps []) (hx : ∀ σ, PassesAt CX X σ (E σ))
    (ha : PA X (e :: es) t) (hdb : (x == ("__debug__" : Str)) = false := by decide) (he : starEach (e :: es) X.env = (false, eval e X.env) :: starEach es X.env := by rfl) (hpl : (backTo pos (starEach es X.env)).any (·.1) = false := by rfl) :
    PE X (.Call (.Name x p) (e :: es) [] pos) (tMakeE C sp E t) := by
  refine ⟨fun pins s σ H Q I h => ?_⟩
  refine wpAny_Call_Name_kw (ld_glob I hg hm ?_ hdb)
  refine PySem.W.callWith_K (h₀ := X.base) I.ok.mod.kin M.kp (thn (ha.run pos pins s σ H _ I h) fun us s1 ⟨vs, H1, I1, r, q⟩ => ⟨I1.kIn, ?_⟩) he hpl
  exact run_makeE M F hr hb (hx σ) I1 r q
theorem pe_makeE0 (M : Mk X.K C f) (F : FnOk X.prog X.w X.K X.mg X.base CX k f fd ps sp) (hr : Room (k + 1) X.A) (hg : Gl X x) (hm : X.mg x = some (.ref C)) (hb : Binds X.K fd ps []) (hx : ∀ σ, PassesAt CX X σ (E σ))
    (hdb : (x == ("__debug__" : Str)) = false := by decide) : PE X (.Call (.Name x p) [] [] pos) (tMakeE C sp E tNil) := by
  refine ⟨fun pins s σ H Q I h => ?_⟩
  refine wpAny_Call_Name_kw (ld_glob I hg hm ?_ hdb)
  exact PySem.W.callWith_K0 I.kIn M.kp (run_makeE (us := []) M F hr hb (hx σ) I .nil h)
def tMethE (C : Addr) (m : Str) (sp : Sp) (E : L2.St → XK) (ta : TE) (t : TA) : TE := fun σ H Q => ta σ H fun x H1 => ∃ a dx fs, x = .ref a ∧ H1 a = some (.ins C dx fs) ∧ fs.lookup m = none ∧
  t σ H1 fun vs H2 => sp (x :: vs) H2 Q (E σ)
theorem pe_methE {pl : Sem Bool} (he : PE X o ta) (c : Cls X.K C) (hm : Meth X.K C m f) (F : FnOk X.prog X.w X.K X.mg X.base CX k f fd ps sp) (hr : Room k X.A) (hb : Binds X.K fd ps []) (hx : ∀ σ, PassesAt CX X σ (E σ)) (ha : PA X (e :: es) t)
    (hst : starEach (e :: es) X.env = (false, eval e X.env) :: starEach es X.env := by rfl) (hpl : (backTo pos (starEach es X.env)).any (·.1) = false := by rfl)
    (ht : eval (.Call (.Attribute o m apos) (e :: es) [] pos) X.env = (do
      let ov ← eval o X.env
      standAt apos.atName
      let (f, first) ← holding [ov] (getMethod ov m pl)
      callWith pos f first (backTo pos (starEach (e :: es) X.env)) (backToKw pos (keywordEach [] X.env))) := by rfl) :
    PE X (.Call (.Attribute o m apos) (e :: es) [] pos) (tMethE C m sp E ta t) := by
  refine ⟨fun pins s σ H Q I h => ?_⟩
  refine PySem.W.methodCall_KW (pl := pl) (thn (he.run pins s σ H _ I h) fun u s1 ⟨x, H1, I1, rx, a, dx, fs, ex, ea, l, q⟩ => ?_) ht
  subst ex
  obtain rfl : u = Value.ref a := rx
  refine getmeth_ok I1 ea c hm l ?_
  refine PySem.W.callWith_K (first := [.ref a]) (h₀ := X.base) I.ok.mod.kin hm.kp (thn (ha.run pos pins s1 σ H1 _ I1 q) fun us s2 ⟨vs, H2, I2, r, q2⟩ => ⟨I2.kIn, ?_⟩) hst hpl
  exact run_fnS (us := .ref a :: us) (vs := .ref a :: vs) F hr hb (hx σ) I2 (.cons rfl r) q2
theorem pe_methE0 {pl : Sem Bool} (he : PE X o ta) (c : Cls X.K C) (hm : Meth X.K C m f) (F : FnOk X.prog X.w X.K X.mg X.base CX k f fd ps sp) (hr : Room k X.A) (hb : Binds X.K fd ps []) (hx : ∀ σ, PassesAt CX X σ (E σ))
    (ht : eval (.Call (.Attribute o m apos) [] [] pos) X.env = (do
      let ov ← eval o X.env
      standAt apos.atName
      let (f, first) ← holding [ov] (getMethod ov m pl)
      callWith pos f first (backTo pos (starEach [] X.env)) (backToKw pos (keywordEach [] X.env))) := by rfl) :
    PE X (.Call (.Attribute o m apos) [] [] pos) (tMethE C m sp E ta tNil) := by
  refine ⟨fun pins s σ H Q I h => ?_⟩
  refine PySem.W.methodCall_KW (pl := pl) (thn (he.run pins s σ H _ I h) fun u s1 ⟨x, H1, I1, rx, a, dx, fs, ex, ea, l, q⟩ => ?_) ht
  subst ex
  obtain rfl : u = Value.ref a := rx
  refine getmeth_ok I1 ea c hm l ?_
  exact PySem.W.callWith_K0 (first := [.ref a]) I1.kIn hm.kp (run_fnS (us := [.ref a]) (vs := [.ref a]) F hr hb (hx σ) I1 (.cons rfl .nil) q)
end
theorem pass0S {X : Cx} (σ : L2.St) : PassesAt CX0 X σ E0 := fun _ _ _ _ _ _ h => h.elim
theorem passLS {X : Cx} (σ : L2.St) : PassesAt (L2.CX X.prog X.w) X σ E0 := fun pins H s e s' I c => passL pins σ H s e s' I c
section
variable {X : Cx} {Φ : En → Prop} {CX : CXT} {k n : Nat} {f : Addr} {fd : FuncData} {ps : List Str} {spc : Spc} {x c m : Str} {p pos apos : Pos} {e o : Expr} {es : List Expr} {w : WE} {ws : WA} {W : L2.WX} {xx : XX}
theorem make_read {K : PySem.W.Frag} {E : En} {σ : L2.St} {H : Hp} {Q : VK} {sp : Spc} {EE : L2.St → XK} (sq : Sp) (hsq : ∀ vs H Q (E2 : XK) F ds h R Y, ds.length = n + 1 → Ext F H → Reps K F vs ds → (∀ a ob, h a = some ob → ObAt K F H a ob ∧ F a = none) → sp ds h R Y →
      (∀ r h' v F' H', R r h' → Rep K F' v r → Gr K ⟨F, H, h, fun _ => False⟩ F' H' h' → Q v H') → (∀ c fs h' F' H' cls dd, Y c fs h' → XAt K F' c fs cls dd → Gr K ⟨F, H, h, fun _ => False⟩ F' H' h' → E2 cls dd H') → sq vs H Q E2)
    (Y : XX) (hy : ∀ c fs S' cls dd F' H', Y c fs S' → XAt K F' c fs cls dd → Rel K E F' H' σ S' → EE σ cls dd H')
    (hq : LE K E (fun S R => ws S fun ds S1 => ∀ a, S1.h a = none → sp (.obj a :: ds) (S1.h.put a (.ins c [])) (fun r h' => r = .non ∧ R (.obj a) ⟨S1.s, h'⟩) (fun c' fs h' => Y c' fs ⟨S1.s, h'⟩)) σ H Q) :
    tMakeE (clsAt K c) sq EE (LA K E n ws) σ H Q := by
  obtain ⟨S, F, R, hR, hw, k⟩ := hq
  refine ⟨S, F, _, hR, hw, fun ds S1 vs F1 H1 hw1 l1 r1 hR1 x1 => fun x dx hx hd ne => ?_⟩
  have hR2 := hR1.obmake (c := c) hx hd ne
  refine hsq _ _ _ _ F1 (.obj x :: ds) _ _ _ (by rw [List.length_cons, l1]) hR2.g.ext (.cons (.obj x) r1) hR2.g.obs (hw1 x (hR1.g.noob hx)) (fun r h' v F' H' hr rv g => ?_) fun c fs h' F' H' cls dd q ax g => hy c fs _ cls dd F' H' q ax (hR2.after g)
  obtain ⟨rfl, hr⟩ := hr
  cases rv
  exact ⟨rfl, k (.obj x) ⟨S1.s, h'⟩ _ F' H' hr (.obj x) (hR2.after g) (x1.trans g.gF)⟩
theorem de_make (M : Mk X.K (clsAt X.K c) f) (F : FnOk X.prog X.w X.K X.mg X.base CX0 k f fd ps (spOf X.K (n + 1) spc)) (hr : Room (k + 1) X.A) (hg : Gl X x) (hm : X.mg x = some (.ref (clsAt X.K c))) (hb : Binds X.K fd ps []) (ha : DA X Φ (e :: es) n ws)
    (hdb : (x == ("__debug__" : Str)) = false := by decide) (he : starEach (e :: es) X.env = (false, eval e X.env) :: starEach es X.env := by rfl) (hpl : (backTo pos (starEach es X.env)).any (·.1) = false := by rfl) :
    DE X Φ (.Call (.Name x p) (e :: es) [] pos) (wMake c spc ws) := fun E hE => PE.imp (pe_makeE M F hr hg hm hb (fun σ => pass0S σ) (ha E hE) hdb he hpl) fun σ H Q hq =>
  make_read (Y := fun _ _ _ => False) (EE := fun _ => E0) (spOf X.K (n + 1) spc) (fun vs H Q E2 F ds h R Y a1 a2 a3 a4 a5 a6 a7 => ⟨F, ds, h, R, a1, a2, a3, a4, a5, a6⟩) (fun _ _ _ _ _ _ _ z => z.elim) hq
theorem de_make0 (M : Mk X.K (clsAt X.K c) f) (F : FnOk X.prog X.w X.K X.mg X.base CX0 k f fd ps (spOf X.K 1 spc)) (hr : Room (k + 1) X.A) (hg : Gl X x) (hm : X.mg x = some (.ref (clsAt X.K c))) (hb : Binds X.K fd ps [])
    (hdb : (x == ("__debug__" : Str)) = false := by decide) :
    DE X Φ (.Call (.Name x p) [] [] pos) (wMake c spc wNil) := fun E hE => PE.imp (pe_makeE0 M F hr hg hm hb (fun σ => pass0S σ) hdb) fun σ H Q hq => by
  have z := make_read (n := 0) (Y := fun _ _ _ => False) (EE := fun _ => E0) (spOf X.K 1 spc) (fun vs H Q E2 F ds h R Y a1 a2 a3 a4 a5 a6 a7 => ⟨F, ds, h, R, a1, a2, a3, a4, a5, a6⟩) (fun _ _ _ _ _ _ _ z => z.elim) hq
  obtain ⟨S, F, R, hR, hw, k⟩ := z
  exact k [] S [] F H hw rfl .nil hR (.refl _)
/-- a class whose __init__ may raise, where it does not -/
theorem de_makeL (M : Mk X.K (clsAt X.K c) f) (F : FnOk X.prog X.w X.K X.mg X.base (L2.CX X.prog X.w) k f fd ps (spOfX X.K (n + 1) spc)) (hr : Room (k + 1) X.A) (hg : Gl X x) (hm : X.mg x = some (.ref (clsAt X.K c))) (hb : Binds X.K fd ps []) (ha : DA X Φ (e :: es) n ws)
    (hdb : (x == ("__debug__" : Str)) = false := by decide) (he : starEach (e :: es) X.env = (false, eval e X.env) :: starEach es X.env := by rfl) (hpl : (backTo pos (starEach es X.env)).any (·.1) = false := by rfl) :
    DE X Φ (.Call (.Name x p) (e :: es) [] pos) (wMake c spc ws) := fun E hE => PE.imp (pe_makeE M F hr hg hm hb (fun σ => passLS σ) (ha E hE) hdb he hpl) fun σ H Q hq =>
  make_read (sp := spc) (Y := fun _ _ _ => False) (EE := fun _ => E0) (spOfX X.K (n + 1) spc) (fun vs H Q E2 F ds h R Y a1 a2 a3 a4 a5 a6 a7 => ⟨F, ds, h, R, Y, a1, a2, a3, a4, a5, a6, a7⟩) (fun _ _ _ _ _ _ _ z => z.elim) hq
theorem de_makeX (M : Mk X.K (clsAt X.K c) f) (F : FnOk X.prog X.w X.K X.mg X.base (L2.CX X.prog X.w) k f fd ps (spOfX X.K (n + 1) spc)) (tk : Takes X W) (hx : ∀ E, Φ E → Px X.K W xx E) (hr : Room (k + 1) X.A) (hg : Gl X x) (hm : X.mg x = some (.ref (clsAt X.K c))) (hb : Binds X.K fd ps []) (ha : DA X Φ (e :: es) n ws)
    (hdb : (x == ("__debug__" : Str)) = false := by decide) (he : starEach (e :: es) X.env = (false, eval e X.env) :: starEach es X.env := by rfl) (hpl : (backTo pos (starEach es X.env)).any (·.1) = false := by rfl) :
    DE X Φ (.Call (.Name x p) (e :: es) [] pos) (wMakeX c spc ws xx) := fun E hE => PE.imp (pe_makeE M F hr hg hm hb (fun σ => passAt tk σ) (ha E hE) hdb he hpl) fun σ H Q hq =>
  make_read (sp := spc) (Y := xx) (EE := L2.WE W) (spOfX X.K (n + 1) spc) (fun vs H Q E2 F ds h R Y a1 a2 a3 a4 a5 a6 a7 => ⟨F, ds, h, R, Y, a1, a2, a3, a4, a5, a6, a7⟩) (fun c' fs S' cls dd F' H' q ax r => hx E hE c' fs S' cls dd σ F' H' q ax r) hq
theorem meth_read {K : PySem.W.Frag} {E : En} {σ : L2.St} {H : Hp} {Q : VK} {sp : Spc} {EE : L2.St → XK} (sq : Sp) (hsq : ∀ vs H Q (E2 : XK) F ds h R Y, ds.length = n + 1 → Ext F H → Reps K F vs ds → (∀ a ob, h a = some ob → ObAt K F H a ob ∧ F a = none) → sp ds h R Y →
      (∀ r h' v F' H', R r h' → Rep K F' v r → Gr K ⟨F, H, h, fun _ => False⟩ F' H' h' → Q v H') → (∀ c fs h' F' H' cls dd, Y c fs h' → XAt K F' c fs cls dd → Gr K ⟨F, H, h, fun _ => False⟩ F' H' h' → E2 cls dd H') → sq vs H Q E2)
    (Y : XX) (hy : ∀ c fs S' cls dd F' H', Y c fs S' → XAt K F' c fs cls dd → Rel K E F' H' σ S' → EE σ cls dd H')
    (hq : LE K E (fun S R => w S fun x S1 => ∃ a fs, x = .obj a ∧ S1.h a = some (.ins c fs) ∧ fs.lookup m = none ∧ ws S1 fun ds S2 => sp (.obj a :: ds) S2.h (fun r h' => R r ⟨S2.s, h'⟩) (fun c' fs h' => Y c' fs ⟨S2.s, h'⟩)) σ H Q) :
    tMethE (clsAt K c) m sq EE (LE K E w) (LA K E n ws) σ H Q := by
  obtain ⟨S, F, R, hR, hw, k⟩ := hq
  refine ⟨S, F, _, hR, hw, fun x S1 v F1 H1 hw1 r1 hR1 x1 => ?_⟩
  obtain ⟨a, fs, rfl, h1, h2, hw1⟩ := hw1
  cases r1
  obtain ⟨dx, vfs, g1, g2, g3⟩ := (hR1.g.obs _ _ h1).1
  refine ⟨a, dx, vfs, rfl, g1, fs_none g2 h2, S1, F1, _, hR1, hw1, fun ds S2 vs F2 H2 hw2 l2 r2 hR2 x2 => ?_⟩
  exact hsq _ _ _ _ F2 (.obj a :: ds) _ _ _ (by rw [List.length_cons, l2]) hR2.g.ext (.cons (.obj a) r2) hR2.g.obs hw2 (fun r h' v F' H' hr rv g => k r _ v F' H' hr rv (hR2.after g) ((x1.trans x2).trans g.gF)) fun c fs h' F' H' cls dd q ax g => hy c fs _ cls dd F' H' q ax (hR2.after g)
theorem meth_read0 {K : PySem.W.Frag} {C : Addr} {E : En} {EE : L2.St → XK} {σ : L2.St} {H : Hp} {Q : VK} {sq : Sp} (h : tMethE C m sq EE (LE K E w) (LA K E 0 wNil) σ H Q) : tMethE C m sq EE (LE K E w) tNil σ H Q := by
  obtain ⟨S, F, R, hR, hw, k⟩ := h
  refine ⟨S, F, R, hR, hw, fun d S' v F' H' q r hR' x => ?_⟩
  obtain ⟨a, dx, fs, h1, h2, h3, S2, F2, R2, hR2, hw2, k2⟩ := k d S' v F' H' q r hR' x
  exact ⟨a, dx, fs, h1, h2, h3, k2 [] S2 [] F2 H' hw2 rfl .nil hR2 (.refl _)⟩
theorem de_meth (he : DE X Φ o w) (T : ClsT X.K c) (hm : Meth X.K (clsAt X.K c) m f) (F : FnOk X.prog X.w X.K X.mg X.base CX0 k f fd ps (spOf X.K (n + 1) spc)) (hr : Room k X.A) (hb : Binds X.K fd ps []) (ha : DA X Φ (e :: es) n ws) {pl : Sem Bool}
    (hst : starEach (e :: es) X.env = (false, eval e X.env) :: starEach es X.env := by rfl) (hpl : (backTo pos (starEach es X.env)).any (·.1) = false := by rfl)
    (ht : eval (.Call (.Attribute o m apos) (e :: es) [] pos) X.env = (do
      let ov ← eval o X.env
      standAt apos.atName
      let (f, first) ← holding [ov] (getMethod ov m pl)
      callWith pos f first (backTo pos (starEach (e :: es) X.env)) (backToKw pos (keywordEach [] X.env))) := by rfl) :
    DE X Φ (.Call (.Attribute o m apos) (e :: es) [] pos) (wMeth c m spc w ws) := fun E hE => PE.imp (pe_methE (he E hE) T.cls hm F hr hb (fun σ => pass0S σ) (ha E hE) hst hpl ht) fun σ H Q hq =>
  meth_read (sp := fun ds h R _ => spc ds h R NX) (Y := fun _ _ _ => False) (EE := fun _ => E0) (spOf X.K (n + 1) spc) (fun vs H Q E2 F ds h R Y a1 a2 a3 a4 a5 a6 a7 => ⟨F, ds, h, R, a1, a2, a3, a4, a5, a6⟩) (fun _ _ _ _ _ _ _ z => z.elim) hq
theorem de_methL (he : DE X Φ o w) (T : ClsT X.K c) (hm : Meth X.K (clsAt X.K c) m f) (F : FnOk X.prog X.w X.K X.mg X.base (L2.CX X.prog X.w) k f fd ps (spOfX X.K (n + 1) spc)) (hr : Room k X.A) (hb : Binds X.K fd ps []) (ha : DA X Φ (e :: es) n ws) {pl : Sem Bool}
    (hst : starEach (e :: es) X.env = (false, eval e X.env) :: starEach es X.env := by rfl) (hpl : (backTo pos (starEach es X.env)).any (·.1) = false := by rfl)
    (ht : eval (.Call (.Attribute o m apos) (e :: es) [] pos) X.env = (do
      let ov ← eval o X.env
      standAt apos.atName
      let (f, first) ← holding [ov] (getMethod ov m pl)
      callWith pos f first (backTo pos (starEach (e :: es) X.env)) (backToKw pos (keywordEach [] X.env))) := by rfl) :
    DE X Φ (.Call (.Attribute o m apos) (e :: es) [] pos) (wMeth c m spc w ws) := fun E hE => PE.imp (pe_methE (he E hE) T.cls hm F hr hb (fun σ => passLS σ) (ha E hE) hst hpl ht) fun σ H Q hq =>
  meth_read (sp := spc) (Y := fun _ _ _ => False) (EE := fun _ => E0) (spOfX X.K (n + 1) spc) (fun vs H Q E2 F ds h R Y a1 a2 a3 a4 a5 a6 a7 => ⟨F, ds, h, R, Y, a1, a2, a3, a4, a5, a6, a7⟩) (fun _ _ _ _ _ _ _ z => z.elim) hq
theorem de_methX (he : DE X Φ o w) (T : ClsT X.K c) (hm : Meth X.K (clsAt X.K c) m f) (F : FnOk X.prog X.w X.K X.mg X.base (L2.CX X.prog X.w) k f fd ps (spOfX X.K (n + 1) spc)) (tk : Takes X W) (hx : ∀ E, Φ E → Px X.K W xx E) (hr : Room k X.A) (hb : Binds X.K fd ps []) (ha : DA X Φ (e :: es) n ws) {pl : Sem Bool}
    (hst : starEach (e :: es) X.env = (false, eval e X.env) :: starEach es X.env := by rfl) (hpl : (backTo pos (starEach es X.env)).any (·.1) = false := by rfl)
    (ht : eval (.Call (.Attribute o m apos) (e :: es) [] pos) X.env = (do
      let ov ← eval o X.env
      standAt apos.atName
      let (f, first) ← holding [ov] (getMethod ov m pl)
      callWith pos f first (backTo pos (starEach (e :: es) X.env)) (backToKw pos (keywordEach [] X.env))) := by rfl) :
    DE X Φ (.Call (.Attribute o m apos) (e :: es) [] pos) (wMethX c m spc w ws xx) := fun E hE => PE.imp (pe_methE (he E hE) T.cls hm F hr hb (fun σ => passAt tk σ) (ha E hE) hst hpl ht) fun σ H Q hq =>
  meth_read (sp := spc) (Y := xx) (EE := L2.WE W) (spOfX X.K (n + 1) spc) (fun vs H Q E2 F ds h R Y a1 a2 a3 a4 a5 a6 a7 => ⟨F, ds, h, R, Y, a1, a2, a3, a4, a5, a6, a7⟩) (fun c' fs S' cls dd F' H' q ax r => hx E hE c' fs S' cls dd σ F' H' q ax r) hq
theorem de_meth0 (he : DE X Φ o w) (T : ClsT X.K c) (hm : Meth X.K (clsAt X.K c) m f) (F : FnOk X.prog X.w X.K X.mg X.base CX0 k f fd ps (spOf X.K 1 spc)) (hr : Room k X.A) (hb : Binds X.K fd ps []) {pl : Sem Bool}
    (ht : eval (.Call (.Attribute o m apos) [] [] pos) X.env = (do
      let ov ← eval o X.env
      standAt apos.atName
      let (f, first) ← holding [ov] (getMethod ov m pl)
      callWith pos f first (backTo pos (starEach [] X.env)) (backToKw pos (keywordEach [] X.env))) := by rfl) :
    DE X Φ (.Call (.Attribute o m apos) [] [] pos) (wMeth c m spc w wNil) := fun E hE => PE.imp (pe_methE0 (he E hE) T.cls hm F hr hb (fun σ => pass0S σ) ht) fun σ H Q hq =>
  meth_read0 (meth_read (sp := fun ds h R _ => spc ds h R NX) (Y := fun _ _ _ => False) (EE := fun _ => E0) (spOf X.K 1 spc) (fun vs H Q E2 F ds h R Y a1 a2 a3 a4 a5 a6 a7 => ⟨F, ds, h, R, a1, a2, a3, a4, a5, a6⟩) (fun _ _ _ _ _ _ _ z => z.elim) hq)
theorem de_methL0 (he : DE X Φ o w) (T : ClsT X.K c) (hm : Meth X.K (clsAt X.K c) m f) (F : FnOk X.prog X.w X.K X.mg X.base (L2.CX X.prog X.w) k f fd ps (spOfX X.K 1 spc)) (hr : Room k X.A) (hb : Binds X.K fd ps []) {pl : Sem Bool}
    (ht : eval (.Call (.Attribute o m apos) [] [] pos) X.env = (do
      let ov ← eval o X.env
      standAt apos.atName
      let (f, first) ← holding [ov] (getMethod ov m pl)
      callWith pos f first (backTo pos (starEach [] X.env)) (backToKw pos (keywordEach [] X.env))) := by rfl) :
    DE X Φ (.Call (.Attribute o m apos) [] [] pos) (wMeth c m spc w wNil) := fun E hE => PE.imp (pe_methE0 (he E hE) T.cls hm F hr hb (fun σ => passLS σ) ht) fun σ H Q hq =>
  meth_read0 (meth_read (sp := spc) (Y := fun _ _ _ => False) (EE := fun _ => E0) (spOfX X.K 1 spc) (fun vs H Q E2 F ds h R Y a1 a2 a3 a4 a5 a6 a7 => ⟨F, ds, h, R, Y, a1, a2, a3, a4, a5, a6, a7⟩) (fun _ _ _ _ _ _ _ z => z.elim) hq)
theorem de_methX0 (he : DE X Φ o w) (T : ClsT X.K c) (hm : Meth X.K (clsAt X.K c) m f) (F : FnOk X.prog X.w X.K X.mg X.base (L2.CX X.prog X.w) k f fd ps (spOfX X.K 1 spc)) (tk : Takes X W) (hx : ∀ E, Φ E → Px X.K W xx E) (hr : Room k X.A) (hb : Binds X.K fd ps []) {pl : Sem Bool}
    (ht : eval (.Call (.Attribute o m apos) [] [] pos) X.env = (do
      let ov ← eval o X.env
      standAt apos.atName
      let (f, first) ← holding [ov] (getMethod ov m pl)
      callWith pos f first (backTo pos (starEach [] X.env)) (backToKw pos (keywordEach [] X.env))) := by rfl) :
    DE X Φ (.Call (.Attribute o m apos) [] [] pos) (wMethX c m spc w wNil xx) := fun E hE => PE.imp (pe_methE0 (he E hE) T.cls hm F hr hb (fun σ => passAt tk σ) ht) fun σ H Q hq =>
  meth_read0 (meth_read (sp := spc) (Y := xx) (EE := L2.WE W) (spOfX X.K 1 spc) (fun vs H Q E2 F ds h R Y a1 a2 a3 a4 a5 a6 a7 => ⟨F, ds, h, R, Y, a1, a2, a3, a4, a5, a6, a7⟩) (fun c' fs S' cls dd F' H' q ax r => hx E hE c' fs S' cls dd σ F' H' q ax r) hq)
end
/-! ### x.sort(reverse=True), x owns its list of ints -/
def rSortR : V → List V → Hp → VK → Prop := fun x zs H Q => ∃ (a : Addr) (ns : List Int), x = V.ref a ∧ zs = [.bl true] ∧ H a = some (.lst (ns.map V.int)) ∧ ∀ ns' : List Int, ns'.Perm ns → ns'.Pairwise (· ≥ ·) → Q .non (upd H a (.lst (ns'.map V.int)))
theorem mt_sortR {X : Cx} : MtK0 X "list.sort" [Str.ofString "reverse"] rSortR := by
  intro pins s σ H x zs v ws Q I rx rz h
  obtain ⟨a, ns, rfl, rfl, ha, q⟩ := h
  cases rx
  obtain ⟨w1, rfl, e1⟩ := vals1 rz
  obtain rfl : w1 = Value.bool true := e1
  obtain ⟨hz, its, n, rv, hob⟩ := I.hok a _ ha
  have hi := rv.ints
  refine PyProof.Rows.wpAny_call_entry_kw PyProof.Rows.slot_list_sort ⟨_, hob, rfl⟩ PyProof.Rows.entry_list_sort
    (SrtR.list_sort_ordR (b := true) SrtO.swo_int hob (by rw [← rv.length]; exact hz) (fun h2 => SrtO.ints_sortable hi h2) fun out h1 h2 => ⟨.none, rfl, ?_⟩) (PyProof.Rows.args_list_sort_rev _ _)
  obtain ⟨ns', k1, k2, k3⟩ := SrtR.ints_outR hi h1 h2
  obtain ⟨ep, he'⟩ := PyProof.Rows.sortedHeap_at (vs := its) (out := out.toArray.reverse) hob
  have hlen : (ns'.map V.int).length ≤ sizeLine := by
    rw [List.length_map, k2.length_eq]
    rw [List.length_map] at hz
    exact hz
  refine ⟨.non, upd H a (.lst (ns'.map V.int)), I.write (e := a) (t' := s.toks) (by rw [ha]; trivial) (.inl rfl) (fun b u hb hu => ?_) ⟨_, he'⟩ ⟨hlen, _, ep, vals_of_ints k1, ?_⟩, rfl, q ns' k2 k3⟩
  · rw [PyProof.Rows.sortedHeap_old hb (Heap.lt_size hu)]; exact hu
  · have : ((if true = true then out.toArray.reverse else out.toArray).toList).toArray = out.toArray.reverse := by simp
    rw [this]
    exact he'
def wSortR (i : Nat) : WS := fun D S => ∃ ns : List Int, S.s[i]? = some (.o (.lst (ns.map .int))) ∧ ∀ ns' : List Int, ns'.Perm ns → ns'.Pairwise (· ≥ ·) → D.nx (S.st i (.o (.lst (ns'.map .int))))
theorem ds_sortR {X : Cx} {W : L2.WX} {x : Str} {px apos cpos pos kp cp : Pos} {j : Nat} (l : Nat) (hx : PE X (.Name x px) (tVar l))
    (h : ∀ to tk, PE X (.Name x px) to → PK X [⟨some "reverse", .Constant (.bool true) j cp, kp⟩] tk → PE X (.Call (.Attribute (.Name x px) "sort" apos) [] [⟨some "reverse", .Constant (.bool true) j cp, kp⟩] cpos) (tBMK0 X.K "list" rSortR to tk))
    (hs : swapsWith (.Call (.Attribute (.Name x px) "sort" apos) [] [⟨some "reverse", .Constant (.bool true) j cp, kp⟩] cpos) none pos.line X.env = pure false := by rfl) :
    DS X W (.Expr (.Call (.Attribute (.Name x px) "sort" apos) [] [⟨some "reverse", .Constant (.bool true) j cp, kp⟩] cpos) pos) (wSortR l) := fun E => PS.imp (ps_expr (h _ _ hx (pk_cons pe_bl pk_nil)) hs) fun D σ H => by
  rintro ⟨S, F, R, hR, ⟨ns, he, hw⟩, k1, k2, k3, k4, k5⟩
  obtain ⟨p, h0, ⟨vs0, q0, r0⟩, _⟩ := hR.own l _ he
  have e := r0.ints
  subst e
  refine ⟨_, h0, .inl ⟨rfl, _, .of q0⟩, p, ns, rfl, rfl, q0, fun ns' h1 h2 => ?_⟩
  exact k1 _ _ F _ (hw ns' h1 h2) (hR.mut he h0 ⟨_, upd_same, Reps.ofInts _⟩) (.refl _)
end VL

set_option Elab.async false
set_option linter.all false
set_option maxRecDepth 100000
set_option maxHeartbeats 400000
/-! VL12: len(set(a list of tuples of ints)). -/
namespace VL
open PySem PySem.Spec PyProof.Rows L2
def tupI (ns : List Int) : D := .tup (ns.map .int)
theorem reps_tups {K : PySem.W.Frag} {F : Hp} : ∀ {vs : List V} {ks : List (List Int)}, Reps K F vs (ks.map tupI) → ∃ as : List (Addr × List Int), vs = as.map (fun p => V.ref p.1) ∧ as.map (·.2) = ks ∧ ∀ p ∈ as, SqT K F p.1 (p.2.map V.int)
  | _, [], .nil => ⟨[], rfl, rfl, fun _ h => nomatch h⟩
  | _, k :: ks, .cons r t => by
    obtain ⟨as, h1, h2, h3⟩ := reps_tups t
    cases r with
    | tup q s =>
      rename_i a vs
      have e := s.ints
      subst e
      refine ⟨(a, k) :: as, by rw [h1]; rfl, by rw [List.map_cons, h2], fun p hp => ?_⟩
      rcases List.mem_cons.mp hp with rfl | hp
      · exact q
      · exact h3 p hp
/-- len(set(e)) -/
def wLenSet (w : WE) : WE := fun S R => w S fun d S1 => ∃ ks : List (List Int), d = .lst (ks.map tupI) ∧ ks.length < 64 ∧ ∀ L : List (List Int), L.Nodup → (∀ x, x ∈ L ↔ x ∈ ks) → R (.int (L.length : Nat)) S1
def tLenSetT (K : PySem.W.Frag) (ta : TE) : TE := fun σ H Q => ta σ H fun x H1 => ∃ (l : Addr) (ks : List (Addr × List Int)), x = V.ref l ∧ SqL K H1 l (ks.map fun p => V.ref p.1) ∧ (∀ p ∈ ks, SqT K H1 p.1 (p.2.map V.int)) ∧ ks.length < 64 ∧
  ∀ L : List (List Int), L.Nodup → (∀ y, y ∈ L ↔ y ∈ ks.map (·.2)) → Q (.int (L.length : Nat)) H1
theorem pe_lenSetT {X : Cx} {a : Expr} {ta : TE} {p p2 q pos : Pos} (hu : X.A.units + 64 < cLine) (hg : Gl X "len") (hm : X.mg "len" = none) (hg2 : Gl X "set") (hm2 : X.mg "set" = none) (ha : PE X a ta) (hc : X.calm = true := by rfl)
    (na : starEach [a] X.env = (false, eval a X.env) :: starEach [] X.env := by rfl) : PE X (.Call (.Name "len" p) [.Call (.Name "set" p2) [a] [] q] [] pos) (tLenSetT X.K ta) := by
  refine ⟨fun pins s σ H Q I h => ?_⟩
  refine Call_ (ld_blt I hg hm boot_len ?_)
  refine PyProof.Rows.callWith_builtin1 (PyProof.Rows.args_cons ?_ rfl) rfl rfl
  refine Call_ (ld_blt I hg2 hm2 boot_set ?_)
  refine PyProof.Rows.callWith_type1 (PyProof.Rows.args_cons (thn (ha.run pins s σ H _ I h) fun v s1 ⟨x, H1, I1, r1, q1⟩ => PyProof.Rows.args_nil ?_) na) na rfl
  obtain ⟨l, ks, rfl, hq, hk, hf, q1⟩ := q1
  cases r1
  obtain ⟨its, rv, pl, hz⟩ := I1.list hq
  refine call_set_tups (P := X.prog) (w := X.w) ks (I1.ok.hd hc) pl.isList (by simpa using refs_of_vals rv) (fun p hp => I1.isT (hk p hp)) hf (by omega) fun h' tk L es ep t R g k => ?_
  refine PyProof.Rows.args_nil ?_
  obtain ⟨o, ho, hex, hd⟩ := R.ob
  have hs : es.size = L.length := R.size (s := { s1 with heap := h', toks := tk })
  have I2 : Inv X pins σ H1 { s1 with heap := h', toks := tk } := I1.kept fun b o e => k b o e
  refine call_len_set ho hex hd (R.fits (s := { s1 with heap := h', toks := tk })) (by have := R.few; omega) ⟨.int (L.length : Nat), H1, I2.tok _, ⟨_, by rw [hs]⟩, ?_⟩
  have := q1 (L.map (·.2)) R.nd fun y => ⟨fun hy => ?_, fun hy => ?_⟩
  · rwa [List.length_map] at this
  · obtain ⟨p, hp, rfl⟩ := List.mem_map.mp hy
    exact List.mem_map.mpr ⟨p, List.mem_of_mem_take (g.sub p hp), rfl⟩
  · obtain ⟨p, hp, rfl⟩ := List.mem_map.mp hy
    exact g.all p (by rw [List.take_length]; exact hp)
theorem de_lenSet {X : Cx} {Φ : En → Prop} {a : Expr} {w : WE} {p p2 q pos : Pos} (hu : X.A.units + 64 < cLine) (hg : Gl X "len") (hm : X.mg "len" = none) (hg2 : Gl X "set") (hm2 : X.mg "set" = none) (ha : DE X Φ a w) (hc : X.calm = true := by rfl)
    (na : starEach [a] X.env = (false, eval a X.env) :: starEach [] X.env := by rfl) : DE X Φ (.Call (.Name "len" p) [.Call (.Name "set" p2) [a] [] q] [] pos) (wLenSet w) := fun E hE => PE.imp (pe_lenSetT hu hg hm hg2 hm2 (ha E hE) hc na) fun σ H Q => by
  rintro ⟨S, F, R, hR, hw, k⟩
  refine ⟨S, F, _, hR, hw, fun d S1 v F1 H1 hw1 r1 hR1 x1 => ?_⟩
  obtain ⟨ks, rfl, h1, h2⟩ := hw1
  cases r1 with
  | lst q s =>
    obtain ⟨as, rfl, rfl, h3⟩ := reps_tups s
    refine ⟨_, as, rfl, .of (hR1.g.ext _ _ q), fun p hp => hR1.g.ext.sqT (h3 p hp), by rw [List.length_map] at h1; exact h1, fun L n1 n2 => ?_⟩
    exact k _ S1 _ F1 H1 (h2 L n1 n2) (.int _) hR1 x1
/-! ### what the top has written of classes -/
structure MethAt (K : PySem.W.Frag) (c m qual : Str) (st : Stmt) (ps : List Str) (f : Addr) (fd : FuncData) : Prop where
  fn : Fun K m qual st f fd
  bd : Binds K fd ps []
  mt : Meth K (clsAt K c) m f
structure InitAt (K : PySem.W.Frag) (mg : Str → Option Value) (c qual : Str) (st : Stmt) (ps : List Str) (f : Addr) (fd : FuncData) : Prop where
  fn : Fun K "__init__" qual st f fd
  bd : Binds K fd ps []
  mkr : Mk K (clsAt K c) f
  gl : mg c = some (.ref (clsAt K c))
/-- an own class of exceptions over ValueError -/
structure ExcT (K : PySem.W.Frag) (mg : Str → Option Value) (c : Str) : Prop where
  gC : mg c = some (.ref (clsAt K c))
  xP : PySem.W.excIn K (clsAt K c) [.type "ValueError", .type "Exception", .type "BaseException", .type "object"] "ValueError.__new__" = true
  kP : PySem.W.keepIn K (.ref (clsAt K c)) = true
  bP : PySem.W.subIn K (.ref (clsAt K c)) (.type "BaseException") = some true
  tP : PySem.W.typeIn K (.ref (clsAt K c)) = some (.type "type")
  te : PySem.W.exmOne K (.ref (clsAt K c)) (.ref (clsAt K c)) = some true
theorem exm_self {K : PySem.W.Frag} {S : Addr} (h1 : PySem.W.subIn K (.ref S) (.type "BaseException") = some true) (h2 : PySem.W.isClsIn K S = true) (h3 : PySem.W.typeIn K (.ref S) = some (.type "type")) (h4 : PySem.W.subIn K (.ref S) (.ref S) = some true) :
    PySem.W.exmOne K (.ref S) (.ref S) = some true := by
  have e1 : (PySem.W.subIn K (.ref S) (.type "BaseException") == some true) = true := by rw [h1] <;> rfl
  have e2 : ((PySem.W.clsIn K S).isSome && PySem.W.typeIn K (.ref S) == some (.type "type")) = true := by
    have h2' : (PySem.W.clsIn K S).isSome = true := h2
    rw [h2', h3] <;> rfl
  show (if (PySem.W.subIn K (.ref S) (.type "BaseException") == some true) = true then (if ((PySem.W.clsIn K S).isSome && PySem.W.typeIn K (.ref S) == some (.type "type")) = true then PySem.W.subIn K (.ref S) (.ref S) else none) else none) = some true
  rw [if_pos e1, if_pos e2]
  exact h4
end VL

set_option Elab.async false
set_option linter.all false
set_option maxRecDepth 100000
set_option maxHeartbeats 400000
/-! VL13: a list that a name owns is lent to a call; loops over known lists. -/
namespace VL
open PySem PySem.Spec PyProof.Rows L2
def Oh.del (h : Oh) (a : Addr) : Oh := fun b => if b = a then none else h b
theorem Oh.del_same {h : Oh} {a : Addr} : h.del a a = none := by unfold Oh.del; rw [if_pos rfl]
theorem Oh.del_ne {h : Oh} {a b : Addr} (n : b ≠ a) : h.del a b = h b := by unfold Oh.del; rw [if_neg n]
theorem Oh.del_put {h : Oh} {a : Addr} {o : Ob} (e : h a = none) : (h.put a o).del a = h := by
  funext b
  by_cases q : b = a
  · subst q; rw [Oh.del_same, e]
  · rw [Oh.del_ne q, Oh.put_ne q]
section
variable {K : PySem.W.Frag} {E : En} {F H : Hp} {σ : L2.St} {S : Sg}
/-- a name's own container becomes a known object -/
theorem Rel.promote {i : Nat} {d : D} (R : Rel K E F H σ S) (hi : S.s[i]? = some (.o d)) : ∃ p, σ[i]? = some (some (.ref p)) ∧ S.h p = none ∧ (E.H p = none ∨ E.ow p) ∧ Rel K E F H σ ((S.ob p (obOf d)).st i (.f (.obj p))) := by
  obtain ⟨p, h1, h2, h3, h4, h5⟩ := R.own i d hi
  have ha : ObAt K F H p (obOf d) := by
    cases d <;> first | exact h2 | exact h2.elim
  refine ⟨p, h1, h4, h5, ⟨⟨R.g.ext, R.g.gF, R.g.gN, R.g.gH, R.g.gP, fun b q => ?_, fun b ob q => ?_⟩, by show (S.s.set i _).length = _; rw [List.length_set]; exact R.len, fun j e h => ?_, fun j e h => ?_, fun j l e e' q q1 q2 q3 q4 => ?_⟩⟩
  · by_cases hb : b = p
    · subst hb; exact .inr h5
    · have q' : S.h.put p (obOf d) b ≠ none := q
      rw [Oh.put_ne hb] at q'; exact R.g.gO b q'
  · have q' : S.h.put p (obOf d) b = some ob := q
    by_cases hb : b = p
    · subst hb
      rw [Oh.put_same] at q'; cases q'
      exact ⟨ha, h3⟩
    · rw [Oh.put_ne hb] at q'
      exact R.g.obs b ob q'
  · rcases set_get h with ⟨rfl, h, hl⟩ | ⟨n, h⟩
    · cases h
      exact ⟨_, h1, .obj p⟩
    · exact R.frz j e h
  · rcases set_get h with ⟨rfl, h, hl⟩ | ⟨n, h⟩
    · cases h
    · obtain ⟨q, q1, q2, q3, q4, q5⟩ := R.own j e h
      have nq : q ≠ p := fun z => n (R.inj j i e d p h hi (z ▸ q1) h1)
      exact ⟨q, q1, q2, q3, by show S.h.put p (obOf d) q = none; rw [Oh.put_ne nq]; exact q4, q5⟩
  · rcases set_get q1 with ⟨_, h, _⟩ | ⟨n1, g1⟩
    · cases h
    rcases set_get q2 with ⟨_, h, _⟩ | ⟨n2, g2⟩
    · cases h
    exact R.inj j l e e' q g1 g2 q3 q4
/-- .. and the name's own again -/
theorem Rel.demote {i : Nat} {p : Addr} {ds : List D} (R : Rel K E F H σ S) (hi : i < S.s.length) (h1 : σ[i]? = some (some (.ref p))) (hp : S.h p = some (.ml ds)) (h5 : E.H p = none ∨ E.ow p) : Rel K E F H σ ⟨S.s.set i (.o (.lst ds)), S.h.del p⟩ := by
  obtain ⟨h2, h3⟩ := R.g.obs p _ hp
  refine ⟨⟨R.g.ext, R.g.gF, R.g.gN, R.g.gH, R.g.gP, fun b q => ?_, fun b ob q => ?_⟩, by show (S.s.set i _).length = _; rw [List.length_set]; exact R.len, fun j e h => ?_, fun j e h => ?_, fun j l e e' q q1 q2 q3 q4 => ?_⟩
  · refine R.g.gO b fun z => q ?_
    show S.h.del p b = none
    unfold Oh.del
    split
    · rfl
    · exact z
  · have q' : S.h.del p b = some ob := q
    by_cases hb : b = p
    · subst hb; rw [Oh.del_same] at q'; cases q'
    · rw [Oh.del_ne hb] at q'
      exact R.g.obs b ob q'
  · rcases set_get h with ⟨rfl, h, hl⟩ | ⟨n, h⟩
    · cases h
    · exact R.frz j e h
  · rcases set_get h with ⟨rfl, h, hl⟩ | ⟨n, h⟩
    · cases h
      exact ⟨p, h1, h2, h3, Oh.del_same, h5⟩
    · obtain ⟨q, q1, q2, q3, q4, q5⟩ := R.own j e h
      have nq : q ≠ p := fun z => by rw [z, hp] at q4; cases q4
      exact ⟨q, q1, q2, q3, by show S.h.del p q = none; rw [Oh.del_ne nq]; exact q4, q5⟩
  · have own : ∀ (j : Nat) (e : D), (S.s.set i (.o (.lst ds)))[j]? = some (.o e) → σ[j]? = some (some (.ref q)) → (j = i ∧ q = p) ∨ (j ≠ i ∧ S.s[j]? = some (.o e) ∧ q ≠ p) := fun j e g1 g2 => by
      rcases set_get g1 with ⟨rfl, _, _⟩ | ⟨n, g⟩
      · rw [h1] at g2; cases g2
        exact .inl ⟨rfl, rfl⟩
      · obtain ⟨q', r1, _, _, r4, _⟩ := R.own j e g
        rw [g2] at r1; cases r1
        exact .inr ⟨n, g, fun z => by rw [z, hp] at r4; cases r4⟩
    rcases own j e q1 q3 with ⟨a1, a2⟩ | ⟨a1, a2, a3⟩
    · rcases own l e' q2 q4 with ⟨b1, b2⟩ | ⟨b1, b2, b3⟩
      · exact a1.trans b1.symm
      · exact absurd a2 b3
    · rcases own l e' q2 q4 with ⟨b1, b2⟩ | ⟨b1, b2, b3⟩
      · exact absurd b2 a3
      · exact R.inj j l e e' q a2 b2 q3 q4
end
/-- the name's own list, as a known object -/
def wObj (i : Nat) : WE := fun S R => ∃ d, S.s[i]? = some (.o d) ∧ ∀ p, S.h p = none → R (.obj p) ((S.ob p (obOf d)).st i (.f (.obj p)))
/-- .. lent for an expression -/
def wLend (i : Nat) (w : WE) : WE := fun S R => (∃ d, S.s[i]? = some (.o d)) ∧ w S fun r S1 => ∃ p ds, S1.s[i]? = some (.f (.obj p)) ∧ S1.h p = some (.ml ds) ∧ R r ⟨S1.s.set i (.o (.lst ds)), S1.h.del p⟩
/-- for over a known list, which stays as it is -/
def wForOL (a : Addr) (ds : List D) (g : WG) (tb : WS) (T : We) : List D → Sg → Prop
  | [], S => S.h a = some (.ml ds) ∧ T.nx S
  | x :: xs, S => S.h a = some (.ml ds) ∧ g x S fun S1 => tb { T with nx := wForOL a ds g tb T xs, ct := wForOL a ds g tb T xs, bk := T.nx } S1
def wForO (w : WE) (g : WG) (tb : WS) : WS := fun D S => w S fun d S1 => ∃ a ds, d = .obj a ∧ S1.h a = some (.ml ds) ∧ wForOL a ds g tb D ds S1
section
variable {X : Cx} {Φ : En → Prop} {W : L2.WX} {e : Expr} {w : WE} {pos : Pos}
theorem de_obj {x : Str} (i : Nat) (h : PE X (.Name x pos) (tVar i)) : DE X Φ (.Name x pos) (wObj i) := fun E hE => PE.imp h fun σ H Q => by
  rintro ⟨S, F, R, hR, ⟨d, hd, hw⟩, k⟩
  obtain ⟨p, h1, h2, _, h4⟩ := hR.promote hd
  exact ⟨_, h1, k _ _ _ F H (hw p h2) (.obj p) h4 (.refl _)⟩
theorem de_lend (i : Nat) (h : DE X Φ e w) : DE X Φ e (wLend i w) := fun E hE => PE.imp (h E hE) fun σ H Q => by
  rintro ⟨S, F, R, hR, ⟨⟨d, hd⟩, hw⟩, k⟩
  obtain ⟨p0, h1, _, _, _, h5⟩ := hR.own i d hd
  refine ⟨S, F, _, hR, hw, fun r S1 v F1 H1 hw1 r1 hR1 x1 => ?_⟩
  obtain ⟨p, ds, q1, q2, q3⟩ := hw1
  obtain ⟨u, u1, u2⟩ := hR1.frz i _ q1
  cases u2
  rw [h1] at u1
  cases u1
  exact k r _ v F1 H1 q3 r1 (hR1.demote (ix_lt q1) h1 q2 h5) x1
theorem ds_forO {g : WG} {tg iter : Expr} {body : List Stmt} {tb : WS} (hp : PassesOwn (model X.prog X.w) X.A X.env X.xe) (hc : X.calm = true) (hi : DE X Tr iter w) (hg : DG X Tr tg g) (hb : DSs X W body tb)
    (hs : ∀ x, foldedSetIterable iter X.env x = pure x := by intro _; rfl) : DS X W (.For tg iter body [] pos) (wForO w g tb) := fun E => PS.imp (ps_for hp hc (pi_list (hi E trivial)) (hg E trivial) (hb E) hs) fun D σ H => by
  rintro ⟨S, F, R, hR, hw, k1, k2, k3, k4, k5⟩
  refine ⟨S, F, _, hR, hw, fun d S1 v F1 H1 hw1 r1 hR1 x1 => ?_⟩
  obtain ⟨a, ds, rfl, ha, hw1⟩ := hw1
  cases r1
  obtain ⟨vs1, q1, _⟩ := (hR1.g.obs _ _ ha).1
  refine ⟨a, rfl, ⟨vs1, .of q1⟩, ?_⟩
  refine ⟨fun i m σ H => m + i = ds.length ∧ ∃ F2 S2, Rel X.K E F2 H σ S2 ∧ Ext F1 F2 ∧ wForOL a ds g tb R (ds.drop i) S2, ⟨ds.length, rfl, F1, S1, hR1, .refl _, hw1⟩, fun i m σ2 H2 hW => ?_⟩
  obtain ⟨hm, F2, S2, hR2, x2, hw2⟩ := hW
  by_cases hi : i < ds.length
  · have hd : ds[i]? = some ds[i] := List.getElem?_eq_getElem hi
    rw [List.drop_eq_getElem_cons hi] at hw2
    obtain ⟨ha2, hw2⟩ := hw2
    obtain ⟨vs, q, s⟩ := (hR2.g.obs _ _ ha2).1
    obtain ⟨v, h1, h2⟩ := s.get hd
    have hq : SqL X.K H2 a vs := .of q
    refine .inr ⟨⟨vs, v, hq, h1⟩, fun σ' H' => ∃ F3 S3, Rel X.K E F3 H' σ' S3 ∧ Ext F1 F3 ∧ wForOL a ds g tb R (ds.drop (i + 1)) S3, fun σ' H' hN => ⟨m - 1, by omega, by omega, hN⟩, fun x H3 hy => ?_⟩
    obtain ⟨rfl, hy⟩ := hy
    have e : x = v := Option.some.inj ((hy _ hq).symm.trans h1)
    subst e
    refine ⟨S2, F2, _, _, hR2, h2, hw2, fun S4 σ4 F4 H4 hw4 hR4 x4 => ?_⟩
    have x14 : Ext F1 F4 := x2.trans x4
    exact ⟨S4, F4, _, hR4, hw4, fun S' σ' F' H' q r x => ⟨F', S', r, x14.trans x, q⟩, fun S' σ' F' H' q r x => k1 S' σ' F' H' q r ((x1.trans x14).trans x), fun S' σ' F' H' q r x => ⟨F', S', r, x14.trans x, q⟩, fun d S' v σ' F' H' q r r' x => k4 d S' v σ' F' H' q r r' ((x1.trans x14).trans x), k5⟩
  · rw [List.drop_eq_nil_of_le (by omega)] at hw2
    obtain ⟨ha2, hw2⟩ := hw2
    obtain ⟨vs, q, s⟩ := (hR2.g.obs _ _ ha2).1
    exact .inl ⟨⟨vs, .of q, by rw [s.length]; omega⟩, k1 S2 σ2 F2 H2 hw2 hR2 (x1.trans x2)⟩
end
theorem foroc {a : Addr} {ds : List D} {g : WG} {tb : WS} {T : We} {x : D} {xs : List D} {S : Sg} (ha : S.h a = some (.ml ds)) (h : g x S fun S1 => tb { T with nx := wForOL a ds g tb T xs, ct := wForOL a ds g tb T xs, bk := T.nx } S1) : wForOL a ds g tb T (x :: xs) S := ⟨ha, h⟩
end VL

set_option Elab.async false
set_option linter.all false
set_option maxRecDepth 100000
set_option maxHeartbeats 4000000
/-! VL14: min(xs, key=f), f a def of the text; any(tuple of ints). -/
namespace VL
open PySem PySem.Spec PyProof.Rows L2
open PySem.Calls
open PySem.W (AllAlike Sortable)
/-- the first of the least -/
def argMin (k : D → PyData) : List D → D → D
  | [], b => b
  | x :: xs, b => argMin k xs (if PySem.W.dataLt (k x) (k b) = true then x else b)
theorem argMin_cons {k : D → PyData} {x b : D} {xs : List D} : argMin k (x :: xs) b = argMin k xs (if PySem.W.dataLt (k x) (k b) = true then x else b) := rfl
theorem in1R {k : Nat} {A : Around} (r : Room (k + 1) A) : Room k A.in1 :=
  ⟨r.hd, by have := r.dp; show A.depth + 3 * k + 5 < _; omega, by have := r.un; show A.units + 1 + 16 * k + 200 < _; omega⟩
section
variable {X : Cx} {Φ : En → Prop} {pins : List (Addr × Obj)} {σ : L2.St} {s : Shared} {n : Nat} {f : Addr} {fd : FuncData} {ps : List Str} {spc : Spc}
theorem min_loop {F H : Hp} {h : Oh} {xs : List V} {ds : List D} {kf : D → D} {l I S : Addr} {R : Result → Shared → Prop} (hh : X.A.handled = none) (B : KeyB X n f fd ps spc X.A.in1 F H h xs ds kf) (hl : F l = some (.lst xs)) (hSI : S ≠ I)
    (hR : ∀ s' F' H' v u, Inv X pins σ H' s' → Gr X.K ⟨F, H, h, fun _ => False⟩ F' H' h → RelV v u → ∀ b, Rep X.K F' v b → b = argMin (fun x => (kf x).pd) ds.tail (ds.headD .non) → R (.ok (.ret u)) s') :
    ∀ (r j : Nat) (s : Shared) (Fj Hj : Hp) (ub uk : Value) (vb vk : V) (b : D) (c : Nat), ds.length - (j + 1) = r → j + 1 ≤ ds.length → Inv X pins σ Hj s → Gr X.K ⟨F, H, h, fun _ => False⟩ Fj Hj h → FpOk X pins Hj I → FpOk X pins Hj S →
      s.heap.IsListIter I l (j + 1) → s.heap.get? S = some (seqObj "list" #[ub, uk] c) → RelV vb ub → Rep X.K Fj vb b → RelV vk uk → Rep X.K Fj vk (kf b) → b ∈ ds → argMin (fun x => (kf x).pd) (ds.drop (j + 1)) b = argMin (fun x => (kf x).pd) ds.tail (ds.headD .non) →
      codeAny (model X.prog X.w) X.A (.builtin "min.loop" ⟨[.ref I, .ref f, .ref S], []⟩) R s := by
  have nm : (toString "min" ++ toString ".loop" : String) = "min.loop" := by decide
  have l2 := B.it.length
  intro r
  induction r with
  | zero =>
    intro j s Fj Hj ub uk vb vk b c hr hj I0 g fI fS hit hS rb qb rk qk mb ha
    have hin : j + 1 = ds.length := by omega
    have hlj : Hj l = some (.lst xs) := g.ext _ _ (g.gF _ _ hl)
    obtain ⟨its, rv, p, hz⟩ := I0.list (.of hlj)
    have l1 := rv.length
    have hlI : l ≠ I := fun z => by rw [z, fI.1] at hlj; cases hlj
    have W := Walks.list (prog := X.prog) (w := X.w) (A := X.A.in1) hh I l hlI its.toArray
    have hsz : its.toArray.size = its.length := List.size_toArray ..
    refine codeAny_builtin PySem.F.entry_min_loop ?_
    rw [Around.under_plainId PySem.F.plain_min_loop _]
    show wpAny _ X.A.in1 (seqItems? (.ref S) >>= _) _ _ _
    refine wpAny_bind (wpAny_seqItems hS rfl ?_)
    show wpAny _ X.A.in1 (tryCatch (pyNext (.ref I)) _ >>= _) _ _ _
    refine wpAny_bind (wpAny_tryCatch (W.done _ _ _ ⟨by rw [hsz, ← l1, l2, ← hin]; exact hit, p.isList⟩ fun h' tk' hk' => ?_))
    have hS' := hk' S _ (by simpa using hSI) hS
    show wpAny _ X.A.in1 (updateSeq S (fun _ => #[]) >>= _) _ _ _
    refine wpAny_bind (wpAny_updateSeq hS' rfl (wpAny_bind (wpAny_letGo (wpAny_pure ?_))))
    have s1 := Heap.SameBut.update h' S (Obj.mapSeq fun _ => (#[] : Array Value))
    refine hR _ Fj Hj vb ub ?_ g rb b qb (by rw [← ha, List.drop_of_length_le (by omega)]; rfl)
    have I1 : Inv X pins σ Hj { s with heap := h', toks := tk' } := I0.turnedL (t' := tk') (ch := [I]) (fun b o hb e => hk' b o hb e) fun b hb => by rw [List.mem_singleton.mp hb]; exact fI
    exact I1.turnedL (t' := tk') (ch := [S]) (fun b o hb e => (s1.2 b (by simpa using hb)).trans e) fun b hb => by rw [List.mem_singleton.mp hb]; exact fS
  | succ r ih =>
    intro j s Fj Hj ub uk vb vk b c hr hj I0 g fI fS hit hS rb qb rk qk mb ha
    have hlt : j + 1 < ds.length := by omega
    have hlj : Hj l = some (.lst xs) := g.ext _ _ (g.gF _ _ hl)
    obtain ⟨its, rv, p, hz⟩ := I0.list (.of hlj)
    have l1 := rv.length
    have hlI : l ≠ I := fun z => by rw [z, fI.1] at hlj; cases hlj
    have W := Walks.list (prog := X.prog) (w := X.w) (A := X.A.in1) hh I l hlI its.toArray
    have hsz : its.toArray.size = its.length := List.size_toArray ..
    refine codeAny_builtin PySem.F.entry_min_loop ?_
    rw [Around.under_plainId PySem.F.plain_min_loop _]
    show wpAny _ X.A.in1 (seqItems? (.ref S) >>= _) _ _ _
    refine wpAny_bind (wpAny_seqItems hS rfl ?_)
    show wpAny _ X.A.in1 (tryCatch (pyNext (.ref I)) _ >>= _) _ _ _
    refine wpAny_bind (wpAny_tryCatch (W.item (j + 1) _ _ _ (by omega) ⟨hit, p.isList⟩ fun u h' tk' hP hst' hk' => ?_))
    have hu : its[j + 1]? = some u := by simpa using hP
    have hd : ds[j + 1]? = some ds[j + 1] := List.getElem?_eq_getElem hlt
    obtain ⟨x, hx, rx⟩ := B.it.get hd
    obtain ⟨u', hu', ru⟩ := rv.get hx
    have eu : u' = u := Option.some.inj (hu'.symm.trans hu)
    subst eu
    have hS' := hk' S _ (by simpa using hSI) hS
    have I1 : Inv X pins σ Hj { s with heap := h', toks := tk' } := I0.turnedL (t' := tk') (ch := [I]) (fun b o hb e => hk' b o hb e) fun b hb => by rw [List.mem_singleton.mp hb]; exact fI
    obtain ⟨oI, hoI, hoc, hod⟩ := id hst'.1
    have md : ds[j + 1] ∈ ds := List.getElem_mem hlt
    show wpAny _ X.A.in1 (tryCatch (holding [u'] (call (.ref f) [u'])) _ >>= _) _ _ _
    refine wpAny_bind (wpAny_tryCatch (wpAny_holding (wpAny_mono (key_call (E := fun _ _ => False) B.G B.hb B.hr B.hA I1 g.ext g.obs ru (rx.mono g.gF) (B.key _ md)) (fun v s'' he => ?_) fun _ _ hF => hF.elim)))
    obtain ⟨kv, F', H', I2, un, rkv, rep, g'⟩ := he
    have g2 := g.then (fun p hp => hp.elim) g'
    have hS2 : s''.heap.get? S = some (seqObj "list" #[ub, uk] c) := un.keep _ _ hS' fS.1 (FpOk.nostk fS I1) (by simp)
    have hI2 : s''.heap.get? I = some oI := un.keep _ _ hoI fI.1 (FpOk.nostk fI I1) (by simp)
    have fI2 : FpOk X pins H' I := FpOk.to fI (un.free _ _ hoI fI.1 (by simp))
    have fS2 : FpOk X pins H' S := FpOk.to fS (un.free _ _ hS' fS.1 (by simp))
    have it2 : s''.heap.IsListIter I l (j + 1 + 1) := ⟨oI, hI2, hoc, hod⟩
    obtain ⟨as1, rd1⟩ := Dp.reads I2 _ _ _ (rep.dp g2.ext (B.sh _ md)) rkv
    obtain ⟨as2, rd2⟩ := Dp.reads I2 _ _ _ ((qk.mono g'.gF).dp g2.ext (B.sh _ mb)) rk
    have m1 : (kf ds[j + 1]).pd ∈ ds.map (fun x => (kf x).pd) := List.mem_map.mpr ⟨_, md, rfl⟩
    have m2 : (kf b).pd ∈ ds.map (fun x => (kf x).pd) := List.mem_map.mpr ⟨_, mb, rfl⟩
    have nn : (kf ds[j + 1]).pd ≠ .none := by
      rcases B.so with z | z
      · obtain ⟨q, t, e⟩ := z _ m1
        rw [e]
        exact fun z => by cases z
      · exact (z _ m1).1
    show wpAny _ X.A.in1 (tryCatch (holding [u', v] (richCompare .Lt v uk >>= _)) _ >>= _) _ _ _
    refine wpAny_bind (wpAny_tryCatch (wpAny_holding (wpAny_bind (PySem.W.rcLt_alike _ _ X.A.in1 s'' v uk as1 as2 rd1 rd2 (B.al _ m1 _ m2) nn ?_ X.prog X.w _ _ ?_))))
    · have q1 := depth_sh 8 _ (B.sh _ md)
      have q2 := B.hr.un
      have := Nat.min_le_left (kf ds[j + 1]).pd.depth (kf b).pd.depth
      omega
    refine wpAny_bind (wpAny_holding (wpAny_truthy_bool ?_))
    refine wpAny_bind (wpAny_letGo (wpAny_pure ?_))
    have hdr : ds.drop (j + 1) = ds[j + 1] :: ds.drop (j + 1 + 1) := List.drop_eq_getElem_cons hlt
    rw [hdr] at ha
    rw [argMin_cons] at ha
    cases hb' : PySem.W.dataLt (kf ds[j + 1]).pd (kf b).pd with
    | true =>
      rw [if_pos (by exact hb')] at ha
      have s1 := Heap.SameBut.update s''.heap S (Obj.mapSeq fun _ => #[u', v])
      obtain ⟨c2, hc2⟩ : ∃ c2, (s''.heap.update S (Obj.mapSeq fun _ => #[u', v])).get? S = some (seqObj "list" #[u', v] c2) := ⟨_, get?_update_seq hS2 fun _ => #[u', v]⟩
      simp only [if_true]
      refine wpAny_bind (wpAny_updateSeq hS2 rfl (wpAny_bind (wpAny_letGo ?_)))
      rw [nm]
      refine wpAny_pure ⟨plainId_quiet PySem.F.plain_min_loop _, ih (j + 1) _ F' H' u' v x kv _ c2 (by omega) hlt (I2.turnedL (t' := s''.toks) (ch := [S]) (fun b o hb e => (s1.2 b (by simpa using hb)).trans e) fun b hb => by rw [List.mem_singleton.mp hb]; exact fS2) g2 fI2 fS2 ⟨oI, (s1.2 I hSI.symm).trans hI2, hoc, hod⟩ hc2 ru (rx.mono g2.gF) rkv rep md ha⟩
    | false =>
      rw [if_neg (by rw [hb']; decide)] at ha
      simp only [Bool.false_eq_true, if_false]
      refine wpAny_bind (wpAny_letGo ?_)
      rw [nm]
      refine wpAny_pure ⟨plainId_quiet PySem.F.plain_min_loop _, ih (j + 1) _ F' H' ub uk vb vk b c (by omega) hlt I2 g2 fI2 fS2 it2 hS2 rb (qb.mono g'.gF) rk (qk.mono g'.gF) mb ha⟩
/-- what min(l, key=f) wants and gives -/
def rMinF (X : Cx) (n : Nat) (f : Addr) (fd : FuncData) (ps : List Str) (spc : Spc) : List V → List V → Hp → VK → Prop := fun vs zs H Q => ∃ (a : Addr) (F : Hp) (h : Oh) (xs : List V) (ds : List D) (kf : D → D), vs = [.ref a] ∧ zs = [.ref f] ∧ F a = some (.lst xs) ∧ ds ≠ [] ∧
  KeyB X n f fd ps spc X.A.in1 F H h xs ds kf ∧ ∀ v F' H', Rep X.K F' v (argMin (fun x => (kf x).pd) ds.tail (ds.headD .non)) → Gr X.K ⟨F, H, h, fun _ => False⟩ F' H' h → Q v H'
theorem cr_minF : CallRK X (.builtin "min") [Str.ofString "key"] (rMinF X n f fd ps spc) := by
  intro pins s σ H vs zs us ws Q I0 r rz hq
  obtain ⟨l, F, h, xs, ds, kf, rfl, rfl, hl, hne, B, k⟩ := hq
  have nm : (toString "min" ++ toString ".loop" : String) = "min.loop" := by decide
  obtain rfl := Vals.ref1 r
  obtain ⟨w1, rfl, e1⟩ := vals1 rz
  obtain rfl : w1 = Value.ref f := e1
  have l2 := B.it.length
  have hpos : 0 < ds.length := List.length_pos_iff.mpr hne
  have hlH : H l = some (.lst xs) := B.hx _ _ hl
  obtain ⟨its, rv, p, hz⟩ := I0.list (.of hlH)
  have l1 := rv.length
  refine kmk_tree PySem.F.kind_min PySem.F.plain_min PySem.F.entry_min (kmk_min_key _ _) ?_
  show wpAny _ X.A.in1 (Builtin.Builtins.bindParams "min" ["key", "default"] 0 ⟨[], [(Str.ofString "key", .ref f)]⟩ >>= _) _ _ s
  refine wpAny_bind (wpAny_of_eq (show Builtin.Builtins.bindParams "min" ["key", "default"] 0 ⟨[], [(Str.ofString "key", .ref f)]⟩ = pure [some (.ref f), none] from rfl) (wpAny_bind (wpAny_pure ?_)))
  refine wpAny_bind (wpAny_pyIter_list p.isList (wpAny_bind (wpAny_newList ?_ (Nat.zero_le _))))
  rw [nm]
  have zS := size_push' s.heap { cls := .type "list_iterator", data := .fields #[.ref l, .int 0 0] }
  have gI : ((s.heap.push { cls := .type "list_iterator", data := .fields #[.ref l, .int 0 0] }).push (seqObj "list" #[] 0)).get? s.heap.objs.size = some { cls := .type "list_iterator", data := .fields #[.ref l, .int 0 0] } := Heap.get?_push_of_some _ (Heap.get?_push_size _ rfl)
  have gS : ((s.heap.push { cls := .type "list_iterator", data := .fields #[.ref l, .int 0 0] }).push (seqObj "list" #[] 0)).get? (s.heap.push { cls := .type "list_iterator", data := .fields #[.ref l, .int 0 0] }).objs.size = some (seqObj "list" #[] 0) := Heap.get?_push_size _ rfl
  have I3 : Inv X pins σ H { s with heap := (s.heap.push { cls := .type "list_iterator", data := .fields #[.ref l, .int 0 0] }).push (seqObj "list" #[] 0) } := I0.kept (t' := s.toks) fun b u q => Heap.get?_push_of_some _ (Heap.get?_push_of_some _ q)
  generalize (s.heap.push { cls := .type "list_iterator", data := .fields #[.ref l, .int 0 0] }).push (seqObj "list" #[] 0) = h2 at *
  generalize (s.heap.push { cls := .type "list_iterator", data := .fields #[.ref l, .int 0 0] }).objs.size = S at *
  have fI : FpOk X pins H s.heap.objs.size := I0.fpOk (Nat.le_refl _) (I0.hok.fresh (Nat.le_refl _))
  have leS : s.heap.objs.size ≤ S := by omega
  have fS : FpOk X pins H S := I0.fpOk leS (I0.hok.fresh leS)
  have hSI : S ≠ s.heap.objs.size := by omega
  generalize s.heap.objs.size = J at *
  refine wpAny_pure ⟨plainId_quiet PySem.F.plain_min_loop _, ?_⟩
  have hlI : l ≠ J := fun z => by rw [z, fI.1] at hlH; cases hlH
  obtain ⟨its3, rv3, p3, hz3⟩ := I3.list (.of hlH)
  have l3 := rv3.length
  have W := Walks.list (prog := X.prog) (w := X.w) (A := X.A.in1) B.hr.hd J l hlI its3.toArray
  have hsz : its3.toArray.size = its3.length := List.size_toArray ..
  refine codeAny_builtin PySem.F.entry_min_loop ?_
  rw [Around.under_plainId PySem.F.plain_min_loop _]
  show wpAny _ X.A.in1 (seqItems? (.ref S) >>= _) _ _ _
  refine wpAny_bind (wpAny_seqItems gS rfl ?_)
  show wpAny _ X.A.in1 (tryCatch (pyNext (.ref J)) _ >>= _) _ _ _
  refine wpAny_bind (wpAny_tryCatch (W.item 0 _ _ _ (by omega) ⟨⟨_, gI, rfl, rfl⟩, p3.isList⟩ fun u h' tk' hP hst' hk' => ?_))
  have hu : its3[0]? = some u := by simpa using hP
  obtain ⟨d0, dr, rfl⟩ : ∃ d0 dr, ds = d0 :: dr := by
    cases ds with
    | nil => exact absurd rfl hne
    | cons a b => exact ⟨a, b, rfl⟩
  obtain ⟨x, hx, rx⟩ := B.it.get (i := 0) (d := d0) rfl
  obtain ⟨u', hu', ru⟩ := rv3.get hx
  have eu : u' = u := Option.some.inj (hu'.symm.trans hu)
  subst eu
  have hS' := hk' S _ (by simpa using hSI) gS
  have I4 : Inv X pins σ H { s with heap := h', toks := tk' } := Inv.turnedL (s := { s with heap := h2 }) I3 (t' := tk') (ch := [J]) (fun b o hb e => hk' b o hb e) fun b hb => by rw [List.mem_singleton.mp hb]; exact fI
  obtain ⟨oI, hoI, hoc, hod⟩ := id hst'.1
  have md : d0 ∈ d0 :: dr := .head _
  have g0 : Gr X.K ⟨F, H, h, fun _ => False⟩ F H h := ⟨B.hx, .refl _, fun _ q _ _ => .inl q, fun _ _ q _ _ => q, fun _ q => q, fun _ q => .inl q, B.ob⟩
  show wpAny _ X.A.in1 (tryCatch (holding [u'] (call (.ref f) [u'])) _ >>= _) _ _ _
  refine wpAny_bind (wpAny_tryCatch (wpAny_holding (wpAny_mono (key_call (E := fun _ _ => False) B.G B.hb B.hr B.hA I4 g0.ext g0.obs ru rx (B.key _ md)) (fun v s'' he => ?_) fun _ _ hF => hF.elim)))
  obtain ⟨kv, F', H', I5, un, rkv, rep, g'⟩ := he
  have hS2 : s''.heap.get? S = some (seqObj "list" #[] 0) := un.keep _ _ hS' fS.1 (FpOk.nostk fS I4) (by simp)
  have hI2 : s''.heap.get? J = some oI := un.keep _ _ hoI fI.1 (FpOk.nostk fI I4) (by simp)
  have fI2 : FpOk X pins H' J := FpOk.to fI (un.free _ _ hoI fI.1 (by simp))
  have fS2 : FpOk X pins H' S := FpOk.to fS (un.free _ _ hS' fS.1 (by simp))
  have s1 := Heap.SameBut.update s''.heap S (Obj.mapSeq fun _ => #[u', v])
  obtain ⟨c2, hc2⟩ : ∃ c2, (s''.heap.update S (Obj.mapSeq fun _ => #[u', v])).get? S = some (seqObj "list" #[u', v] c2) := ⟨_, get?_update_seq hS2 fun _ => #[u', v]⟩
  show wpAny _ X.A.in1 (updateSeq S (fun _ => #[u', v]) >>= _) _ _ _
  refine wpAny_bind (wpAny_updateSeq hS2 rfl ?_)
  rw [nm]
  refine wpAny_pure ⟨plainId_quiet PySem.F.plain_min_loop _, min_loop (I := J) B.hr.hd B hl hSI (fun s3 F3 H3 v3 u3 i3 g3 r3 b3 q3 e3 => ?_) _ 0 _ F' H' u' v x kv d0 c2 rfl (by show 1 ≤ dr.length + 1; omega) (I5.turnedL (t' := s''.toks) (ch := [S]) (fun b o hb e => (s1.2 b (by simpa using hb)).trans e) fun b hb => by rw [List.mem_singleton.mp hb]; exact fS2) g' fI2 fS2 ⟨oI, (s1.2 J hSI.symm).trans hI2, hoc, hod⟩ hc2 ru (rx.mono g'.gF) rkv rep md rfl⟩
  subst e3
  exact ⟨v3, H3, i3, r3, k v3 F3 H3 q3 g3⟩
/-- min(e, key=f) -/
def wMinF (spc : Spc) (w : WE) : WE := fun S R => w S fun d S1 => match d with
  | .lst ds => ds ≠ [] ∧ ∃ kf : D → D, (∀ x ∈ ds, KeyOf spc S1.h x (kf x)) ∧ (∀ x ∈ ds, shD 8 (kf x) = true) ∧ AllAlike (ds.map fun x => (kf x).pd) ∧ Sortable (ds.map fun x => (kf x).pd) ∧ ds.length ≤ sizeLine ∧ R (argMin (fun x => (kf x).pd) ds.tail (ds.headD .non)) S1
  | _ => False
theorem de_minF {e : Expr} {x : Str} {p px kp pos : Pos} {w : WE} (G : FnOk X.prog X.w X.K X.mg X.base CX0 n f fd ps (spOf X.K 1 spc)) (hr : Room (n + 1) X.A) (hg : Gl X "min") (hm : X.mg "min" = none) (hgf : Gl X x) (hmf : X.mg x = some (.ref f)) (hb : Binds X.K fd ps []) (he : DE X Φ e w)
    (h1 : starEach [e] X.env = [(false, eval e X.env)] := by rfl) (hdb : (x == ("__debug__" : Str)) = false := by decide) : DE X Φ (.Call (.Name "min" p) [e] [⟨some "key", .Name x px, kp⟩] pos) (wMinF spc w) := fun E hE => PE.imp (pe_callBK cr_minF hg hm (by rfl) (pa_cons (he E hE) pa_nil h1) (pk_cons (pe_glob hgf hmf (v := .ref f) rfl hdb) pk_nil) (he := by rw [h1]; rfl) (hpl := by rw [h1]; rfl)) fun σ H Q => by
  rintro ⟨S, F, R, hR, hw, k⟩
  refine ⟨S, F, _, hR, hw, fun d S1 v F1 H1 hw1 r1 hR1 x1 => ?_⟩
  split at hw1
  · obtain ⟨k0, kf, k1, k2, k3, k4, k5, q⟩ := hw1
    cases r1 with
    | lst ha hs =>
      refine ⟨_, F1, S1.h, _, _, kf, rfl, rfl, ha, k0, ⟨G, hb, in1R hr, rfl, hR1.g.ext, hR1.g.obs, hs, k1, k2, k3, k4, k5⟩, fun v' F' H' rv g => ?_⟩
      exact k _ _ v' F' H' q rv (hR1.after g) (x1.trans g.gF)
  · exact hw1.elim
/-! ### any(e), e a tuple of ints -/
def wAnyT (w : WE) : WE := fun S R => w S fun d S1 => ∃ ns : List Int, d = .tup (ns.map .int) ∧ R (.bl (ns.any fun i => i != 0)) S1
def rAnyT (K : PySem.W.Frag) : List V → Hp → VK → Prop := fun vs H Q => ∃ (a : Addr) (ns : List Int), vs = [.ref a] ∧ SqT K H a (ns.map V.int) ∧ Q (.bl (ns.any fun i => i != 0)) H
theorem any_pd : ∀ ns : List Int, (ns.map PyData.int).any PyData.truthy = ns.any fun i => i != 0
  | [] => rfl
  | i :: ns => by rw [List.map_cons, List.any_cons, List.any_cons, any_pd ns]; rfl
theorem reads_ints {h : Heap} : ∀ {ns : List Int} {us : List Value}, Vals (ns.map V.int) us → ∃ as, ReadsAll h us (ns.map PyData.int) as
  | [], [], .nil => ⟨_, .nil⟩
  | i :: ns, _ :: us, .cons r t => by
    obtain ⟨tk, rfl⟩ := r
    obtain ⟨as, q⟩ := reads_ints (h := h) t
    exact ⟨_, .cons (.int i tk) q⟩
theorem plain_ints : ∀ ns : List Int, PyData.plainAll (ns.map PyData.int) = true
  | [] => rfl
  | i :: ns => by
    show (PyData.plain (.int i) && PyData.plainAll (ns.map PyData.int)) = true
    rw [plain_ints ns]; rfl
theorem cr_anyT (hc : X.calm = true) : CallR X (.builtin "any") (rAnyT X.K) := by
  intro pins s σ H vs us Q I0 r hq
  obtain ⟨a, ns, rfl, ha, q⟩ := hq
  obtain rfl := Vals.ref1 r
  obtain ⟨its, rv, p, hz⟩ := I0.tuple ha
  obtain ⟨as, hr⟩ := reads_ints (h := s.heap) rv
  refine PySem.W.any_tuple_data (vs := its.toArray) (I0.ok.hd hc) p (by simpa using hr) (plain_ints ns) (fun x hx => ?_) fun h' tk hk => ?_
  · obtain ⟨i, _, rfl⟩ := List.mem_map.mp hx
    exact trivial
  · rw [any_pd]
    exact ⟨.bl _, H, I0.kept hk, rfl, q⟩
theorem de_anyT {e : Expr} {p pos : Pos} {w : WE} (hc : X.calm = true) (hg : Gl X "any") (hm : X.mg "any" = none) (he : DE X Φ e w)
    (h1 : starEach [e] X.env = [(false, eval e X.env)] := by rfl) : DE X Φ (.Call (.Name "any" p) [e] [] pos) (wAnyT w) := fun E hE => PE.imp (pe_callB (cr_anyT hc) hg hm (by rfl) (pa_cons (he E hE) pa_nil h1) (he := h1) (hpl := by rfl)) fun σ H Q => by
  rintro ⟨S, F, R, hR, hw, k⟩
  refine ⟨S, F, _, hR, hw, fun d S1 v F1 H1 hw1 r1 hR1 x1 => ?_⟩
  obtain ⟨ns, rfl, q⟩ := hw1
  cases r1 with
  | tup ha hs =>
    have e := hs.ints
    subst e
    exact ⟨_, ns, rfl, hR1.g.ext.sqT ha, k _ _ _ F1 H1 q (.bl _) hR1 x1⟩
end
end VL

set_option Elab.async false
set_option linter.all false
set_option maxRecDepth 100000
set_option maxHeartbeats 400000
/-! VL15: dicts whose keys are ints and texts. -/
namespace VL
open PySem PySem.Spec PyProof.Rows L2
section
variable {κ : Type} [DecidableEq κ]
def look (l : List (κ × D)) (k : κ) : Option D := (l.find? fun kv => decide (kv.1 = k)).map (·.2)
def putP (l : List (κ × D)) (k : κ) (d : D) : List (κ × D) :=
  if (l.any fun kv => decide (kv.1 = k)) = true then l.map (fun kv => if kv.1 = k then (kv.1, d) else kv) else l ++ [(k, d)]
theorem look_nil {k : κ} : look [] k = none := rfl
theorem look_pos {p : κ × D} {r : List (κ × D)} {k : κ} (e : p.1 = k) : look (p :: r) k = some p.2 := by simp [look, List.find?_cons, e]
theorem look_neg {p : κ × D} {r : List (κ × D)} {k : κ} (e : ¬ p.1 = k) : look (p :: r) k = look r k := by simp [look, List.find?_cons, e]
theorem look_any (k : κ) : ∀ l : List (κ × D), (l.any fun kv => decide (kv.1 = k)) = (look l k).isSome
  | [] => rfl
  | p :: r => by
    rw [List.any_cons]
    by_cases e : p.1 = k
    · simp only [look_pos e, decide_eq_true e, Bool.true_or, Option.isSome_some]
    · rw [look_neg e, decide_eq_false e, Bool.false_or]; exact look_any k r
theorem look_map (k j : κ) (y : D) : ∀ l : List (κ × D), look (l.map fun kv => if kv.1 = k then (kv.1, y) else kv) j = (look l j).map fun x => if j = k then y else x
  | [] => rfl
  | p :: r => by
    have ih := look_map k j y r
    rw [List.map_cons]
    by_cases h : p.1 = k
    · rw [if_pos h]
      by_cases e : p.1 = j
      · rw [look_pos (p := (p.1, y)) e, look_pos e, Option.map_some, if_pos (e.symm.trans h)]
      · rw [look_neg (p := (p.1, y)) e, look_neg e, ih]
    · rw [if_neg h]
      by_cases e : p.1 = j
      · rw [look_pos (p := p) e, look_pos e, Option.map_some, if_neg (fun z => h (e.trans z))]
      · rw [look_neg (p := p) e, look_neg e, ih]
theorem look_snoc (k j : κ) (y : D) : ∀ l : List (κ × D), look l k = none → look (l ++ [(k, y)]) j = if j = k then some y else look l j
  | [], _ => by
    by_cases e : k = j
    · rw [if_pos e.symm]; exact look_pos (p := (k, y)) e
    · rw [if_neg (fun z => e z.symm)]; exact look_neg (p := (k, y)) e
  | p :: r, hn => by
    rw [List.cons_append]
    have hk : ¬ p.1 = k := fun z => by rw [look_pos z] at hn; cases hn
    rw [look_neg hk] at hn
    have ih := look_snoc k j y r hn
    by_cases e : p.1 = j
    · rw [look_pos e, look_pos e, if_neg (fun z => hk (e.trans z))]
    · rw [look_neg e, look_neg e, ih]
theorem look_put (l : List (κ × D)) (k j : κ) (y : D) : look (putP l k y) j = if j = k then some y else look l j := by
  unfold putP
  by_cases a : (l.any fun kv => decide (kv.1 = k)) = true
  · rw [if_pos a, look_map]
    rw [look_any] at a
    by_cases e : j = k
    · obtain ⟨x, hx⟩ := Option.isSome_iff_exists.mp a
      rw [if_pos e, e, hx, Option.map_some, if_pos rfl]
    · rw [if_neg e]
      cases look l j with
      | none => rfl
      | some x => rw [Option.map_some, if_neg e]
  · rw [if_neg a]
    refine look_snoc k j y l ?_
    rw [look_any] at a
    cases q : look l k with
    | none => rfl
    | some x => rw [q] at a; exact (a rfl).elim
theorem putP_new {l : List (κ × D)} {k : κ} (y : D) (h : look l k = none) : putP l k y = l ++ [(k, y)] := by
  unfold putP
  rw [look_any, h]
  exact if_neg (by decide)
/-- the table in the heap is that of the data -/
def RepT (K : PySem.W.Frag) (F : Hp) (kvs : List (κ × V)) (l : List (κ × D)) : Prop := kvs.map (·.1) = l.map (·.1) ∧ Reps K F (kvs.map (·.2)) (l.map (·.2))
variable {K : PySem.W.Frag} {F : Hp}
theorem RepT.nil : RepT K F ([] : List (κ × V)) [] := And.intro rfl .nil
theorem RepT.length {kvs : List (κ × V)} {l : List (κ × D)} (r : RepT K F kvs l) : kvs.length = l.length := by
  have := congrArg List.length r.1
  rwa [List.length_map, List.length_map] at this
theorem RepT.lk : ∀ {kvs : List (κ × V)} {l : List (κ × D)}, RepT K F kvs l → ∀ k, (∀ d, look l k = some d → ∃ v, valV kvs k = some v ∧ Rep K F v d) ∧ (look l k = none → valV kvs k = none)
  | [], [], _, k => And.intro (fun d h => by cases h) fun _ => rfl
  | [], _ :: _, r, _ => nomatch r.1
  | _ :: _, [], r, _ => nomatch r.1
  | (g, v) :: kvs, (g', x) :: l, ⟨e, r⟩, k => by
    rw [List.map_cons, List.map_cons] at e
    injection e with e1 e2
    have e1' : g = g' := e1
    subst e1'
    cases r with
    | cons r1 r2 =>
      by_cases q : g = k
      · rw [look_pos (p := (g, x)) q, valV_pos (p := (g, v)) q]
        exact ⟨fun d h => by cases h; exact ⟨v, rfl, r1⟩, fun h => nomatch h⟩
      · rw [look_neg (p := (g, x)) q, valV_neg (p := (g, v)) q]
        exact RepT.lk ⟨e2, r2⟩ k
theorem RepT.some_eq {kvs : List (κ × V)} {l : List (κ × D)} (r : RepT K F kvs l) {k : κ} : (valV kvs k).isSome = (look l k).isSome := by
  cases z : look l k with
  | none => rw [(r.lk k).2 z]; rfl
  | some d =>
    obtain ⟨u, h6, _⟩ := (r.lk k).1 d z
    rw [h6]; rfl
theorem RepT.put {kvs : List (κ × V)} {l : List (κ × D)} (r : RepT K F kvs l) (k : κ) {v : V} {d : D} (rv : Rep K F v d) : RepT K F (putK kvs k v) (putP l k d) := by
  have ea : (kvs.any fun kv => decide (kv.1 = k)) = (l.any fun kv => decide (kv.1 = k)) := by
    rw [valV_any, look_any]
    cases q : VL.look l k with
    | none => rw [(r.lk k).2 q]; rfl
    | some d =>
      obtain ⟨u, h, _⟩ := (r.lk k).1 d q
      rw [h]; rfl
  unfold putK putP
  rw [ea]
  split
  · have go : ∀ {kvs : List (κ × V)} {l : List (κ × D)}, RepT K F kvs l → RepT K F (kvs.map fun kv => if kv.1 = k then (kv.1, v) else kv) (l.map fun kv => if kv.1 = k then (kv.1, d) else kv) := by
      intro kvs
      induction kvs with
      | nil =>
        intro l r
        cases l with
        | nil => exact r
        | cons a b => exact nomatch r.1
      | cons p kvs ih =>
        intro l r
        cases l with
        | nil => exact nomatch r.1
        | cons a l =>
          obtain ⟨e, r⟩ := r
          rw [List.map_cons, List.map_cons] at e
          injection e with e1 e2
          cases r with
          | cons r1 r2 =>
            obtain ⟨h1, h2⟩ := ih ⟨e2, r2⟩
            rw [List.map_cons, List.map_cons]
            by_cases q : p.1 = k
            · rw [if_pos q, if_pos (e1.symm.trans q)]
              exact ⟨by rw [List.map_cons, List.map_cons, h1]; exact congrArg (· :: _) e1, .cons rv h2⟩
            · rw [if_neg q, if_neg (fun z => q (e1.trans z))]
              exact ⟨by rw [List.map_cons, List.map_cons, h1]; exact congrArg (· :: _) e1, .cons r1 h2⟩
    exact go r
  · exact ⟨by rw [List.map_append, List.map_append, r.1]; rfl, by rw [List.map_append, List.map_append]; exact r.2.append (.one rv)⟩
end
def keyD : D → Option Key
  | .int i => some (.inl i)
  | .str x => some (.inr x)
  | _ => none
/-- a dict as data -/
abbrev dcP (l : List (Key × D)) : D := .dct (l.map (·.1)) (l.map (·.2))
abbrev mdP (l : List (Key × D)) : Ob := .md (l.map (·.1)) (l.map (·.2))
section
variable {K : PySem.W.Frag} {E : En} {F F' H H' : Hp} {σ : L2.St} {S : Sg} {p a : Addr} {o : HO} {v : V} {d : D} {l : List (Key × D)}
theorem keyD_V {y : V} {k : Key} (r : Rep K F y d) (h : keyD d = some k) : y = kV k := by
  cases r <;> first | (cases h; rfl) | cases h
theorem Rep.dcP (r : Rep K F v (dcP l)) : ∃ a kvs, v = .ref a ∧ F a = some (.dK kvs) ∧ RepT K F kvs l := by
  cases r with
  | dct h1 h2 h3 => exact ⟨_, _, rfl, h1, h2, h3⟩
/-- a container that nobody owns changes -/
theorem Rel.over (R : Rel K E F H σ S) (nF : F p = none) (nh : S.h p = none) (nE : E.H p = none) (no : ∀ (i : Nat) (e : D), S.s[i]? = some (.o e) → σ[i]? ≠ some (some (.ref p))) : Rel K E F (upd H p o) σ S := by
  refine ⟨⟨fun b u e => ?_, R.g.gF, fun b h1 h2 h3 => TupO.upd (R.g.gN b h1 h2 h3) nF, fun b u h1 h2 h3 => ?_, fun b h1 => ?_, R.g.gO, fun a ob e => ?_⟩, R.len, R.frz, fun i d e => ?_, R.inj⟩
  · rw [upd_ne (fun z => by rw [z, nF] at e; cases e)]; exact R.g.ext _ _ e
  · rw [upd_ne (fun z => by rw [z, nE] at h1; cases h1)]; exact R.g.gH b u h1 h2 h3
  · by_cases hb : b = p
    · subst hb; rw [upd_same]; simp
    · rw [upd_ne hb]; exact R.g.gP b h1
  · obtain ⟨h1, h2⟩ := R.g.obs a ob e
    exact ⟨h1.mono (.refl _) (upd_ne fun z => by rw [z, nh] at e; cases e), h2⟩
  · obtain ⟨q, h1, h2, h3, h4, h5⟩ := R.own i d e
    exact ⟨q, h1, h2.mono (.refl _) (upd_ne fun z => no i d e (z ▸ h1)), h3, h4, h5⟩
/-- a fresh object stands aside while other things run -/
theorem Rel.aside (R : Rel K E F H σ S) (hp : H p = none) (hot : ∀ vs, o ≠ .tup vs) : Rel K ⟨F, upd H p o, S.h, owns σ S⟩ F (upd H p o) σ S ∧
    ∀ {F2 H2 σ2 S2}, Rel K ⟨F, upd H p o, S.h, owns σ S⟩ F2 H2 σ2 S2 → H2 p = some o ∧ F2 p = none ∧ S2.h p = none ∧ E.H p = none ∧ (∀ (i : Nat) (e : D), S2.s[i]? = some (.o e) → σ2[i]? ≠ some (some (.ref p))) ∧ Rel K E F2 H2 σ2 S2 := by
  obtain ⟨R1, nF, nh, nE, no⟩ := R.fresh (o := o) hp
  have now : ¬ owns σ S p := fun ⟨i, d, h1, h2⟩ => no i d h1 h2
  refine ⟨R1.enter, fun {F2 H2 σ2 S2} R2 => ⟨R2.g.gH p o upd_same nh now, (R2.g.gN p nF (by show upd H p o p ≠ none; rw [upd_same]; simp) now).elim id fun ⟨vs, z⟩ => by
    rw [show H2 p = some o from R2.g.gH p o upd_same nh now] at z
    exact (hot vs (Option.some.inj z)).elim, ?_, nE, fun i e h1 h2 => ?_, R1.leave R2⟩⟩
  · cases q : S2.h p with
    | none => rfl
    | some x =>
      rcases R2.g.gO p (by rw [q]; simp) with z | z | z
      · exact absurd nh z
      · rw [show (⟨F, upd H p o, S.h, owns σ S⟩ : En).H p = some o from upd_same] at z; cases z
      · exact absurd z now
  · obtain ⟨q, q1, q2, q3, q4, q5⟩ := R2.own i e h1
    rw [h2] at q1
    cases q1
    rcases q5 with z | z
    · rw [show (⟨F, upd H p o, S.h, owns σ S⟩ : En).H p = some o from upd_same] at z; cases z
    · exact absurd z now
end
theorem pe_ex {X : Cx} {e : Expr} {w : WE} (h : DE X Tr e w) : PE X e (fun σ H Q => ∃ E, LE X.K E w σ H Q) := ⟨fun pins s σ H Q I ⟨E, q⟩ => (h E trivial).run pins s σ H Q I q⟩
theorem u64 {n : Nat} (h : n + 64 < cLine) : n + 1 < cLine := by omega
/-! ### reads -/
def wDGet (wd wi : WE) : WE := fun S R => wd S fun x S1 => wi S1 fun y S2 => ∃ l k d, keyD y = some k ∧ (x = dcP l ∨ ∃ a, x = .obj a ∧ S2.h a = some (mdP l)) ∧ look l k = some d ∧ R d S2
/-- .. a name that owns the dict -/
def wDGetO (i : Nat) (wi : WE) : WE := fun S R => (∃ e, S.s[i]? = some (.o e)) ∧ wi S fun y S1 => ∃ l k d, keyD y = some k ∧ S1.s[i]? = some (.o (dcP l)) ∧ look l k = some d ∧ R d S1
/-- y in d -/
def wDIn (b : Bool) (wi wd : WE) : WE := fun S R => wi S fun y S1 => wd S1 fun x S2 => ∃ l k, keyD y = some k ∧ (x = dcP l ∨ ∃ a, x = .obj a ∧ S2.h a = some (mdP l)) ∧ R (.bl ((look l k).isSome == b)) S2
def wDInO (b : Bool) (wi : WE) (i : Nat) : WE := fun S R => wi S fun y S1 => ∃ l k, keyD y = some k ∧ S1.s[i]? = some (.o (dcP l)) ∧ R (.bl ((look l k).isSome == b)) S1
/-- {}, {k: v} -/
def wDNew : WE := fun S R => R (dcP []) S
def wDOne (wk wv : WE) : WE := fun S R => wk S fun x S1 => wv S1 fun d S2 => ∃ k, keyD x = some k ∧ R (dcP [(k, d)]) S2
/-- d[i] = v -/
def wDPut (wd wi wv : WE) : WS := fun D S => wv S fun d S1 => wd S1 fun x S2 => wi S2 fun y S3 => ∃ a l k, x = .obj a ∧ keyD y = some k ∧ S3.h a = some (mdP l) ∧ l.length < sizeLine ∧ D.nx (S3.ob a (mdP (putP l k d)))
def wDPutO (j : Nat) (wi wv : WE) : WS := fun D S => (∃ e, S.s[j]? = some (.o e)) ∧ wv S fun d S1 => (∃ e, S1.s[j]? = some (.o e)) ∧ wi S1 fun y S2 => ∃ l k, keyD y = some k ∧ S2.s[j]? = some (.o (dcP l)) ∧ l.length < sizeLine ∧ D.nx (S2.st j (.o (dcP (putP l k d))))
section
variable {X : Cx} {Φ : En → Prop} {W : L2.WX} {o e i value : Expr} {pos pos' p : Pos} {w wd wi wk wv : WE}
theorem ob_md {K : PySem.W.Frag} {F H : Hp} {a : Addr} {l : List (Key × D)} (h : ObAt K F H a (mdP l)) : ∃ kvs, H a = some (.dK kvs) ∧ RepT K F kvs l := let ⟨kvs, h1, h2, h3⟩ := h; ⟨kvs, h1, h2, h3⟩
theorem ow_md {K : PySem.W.Frag} {F H : Hp} {a : Addr} {l : List (Key × D)} (h : OwAt K F H a (dcP l)) : ∃ kvs, H a = some (.dK kvs) ∧ RepT K F kvs l := let ⟨kvs, h1, h2, h3⟩ := h; ⟨kvs, h1, h2, h3⟩
theorem dd_at {K : PySem.W.Frag} {E : En} {F1 F H : Hp} {σ : L2.St} {S : Sg} {x : D} {v : V} {l : List (Key × D)} (R : Rel K E F H σ S) (r : Rep K F1 v x) (e : Ext F1 F) (h : x = dcP l ∨ ∃ a, x = .obj a ∧ S.h a = some (mdP l)) : ∃ a kvs, v = .ref a ∧ H a = some (.dK kvs) ∧ RepT K F kvs l := by
  rcases h with rfl | ⟨a, rfl, h⟩
  · obtain ⟨a, kvs, h1, h2, h3⟩ := (r.mono e).dcP
    exact ⟨a, kvs, h1, R.g.ext _ _ h2, h3⟩
  · cases r
    obtain ⟨kvs, h1, h2⟩ := ob_md (R.g.obs _ _ h).1
    exact ⟨a, kvs, rfl, h1, h2⟩
theorem de_dget (hu : X.A.units + 64 < cLine) (ho : DE X Φ o wd) (hi : DE X Φ i wi) (hs : NoSl i) : DE X Φ (.Subscript o i pos) (wDGet wd wi) := fun E hE => PE.imp (pe_dget (u64 hu) (ho E hE) (hi E hE) hs) fun σ H Q => by
  rintro ⟨S, F, R, hR, hw, k⟩
  refine ⟨S, F, _, hR, hw, fun x S1 v1 F1 H1 hw1 r1 hR1 x1 => ⟨S1, F1, _, hR1, hw1, fun y S2 v2 F2 H2 hw2 r2 hR2 x2 => ?_⟩⟩
  obtain ⟨l, kk, d, h1, h2, h3, q⟩ := hw2
  obtain ⟨a, kvs, rfl, h4, h5⟩ := dd_at hR2 r1 x2 h2
  obtain ⟨u, h6, h7⟩ := (h5.lk kk).1 d h3
  rw [keyD_V r2 h1]
  refine ⟨a, u, rfl, ?_, k d S2 u F2 H2 q h7 hR2 (x1.trans x2)⟩
  rw [← h6]
  exact .k h4
theorem de_dgetO {x : Str} (j : Nat) (h : PE X (.Name x p) (tVar j)) (hu : X.A.units + 64 < cLine) (hi : DE X Φ i wi) (hs : NoSl i) : DE X Φ (.Subscript (.Name x p) i pos) (wDGetO j wi) := fun E hE => PE.imp (pe_dget (u64 hu) h (hi E hE) hs) fun σ H Q => by
  rintro ⟨S, F, R, hR, ⟨⟨e, he⟩, hw⟩, k⟩
  obtain ⟨q0, h0, _⟩ := hR.own j e he
  refine ⟨_, h0, S, F, _, hR, hw, fun y S1 v1 F1 H1 hw1 r1 hR1 x1 => ?_⟩
  obtain ⟨l, kk, d, h1, h2, h3, q⟩ := hw1
  obtain ⟨q1, g1, g2, _⟩ := hR1.own j _ h2
  rw [h0] at g1
  cases g1
  obtain ⟨kvs, h4, h5⟩ := ow_md g2
  obtain ⟨u, h6, h7⟩ := (h5.lk kk).1 d h3
  rw [keyD_V r1 h1]
  refine ⟨_, u, rfl, ?_, k d S1 u F1 H1 q h7 hR1 x1⟩
  rw [← h6]
  exact .k h4
theorem dn_dnew : DN X Φ (.Dict [] [] pos) wDNew := fun E hE => PE.imp pe_dnewK fun σ H Q => by
  rintro ⟨S, F, R, hR, hw, k⟩
  intro q hq
  obtain ⟨h1, h2, h3, h4, h5⟩ := hR.fresh (o := .dK []) hq
  exact k _ S q F _ hw ⟨⟨[], upd_same, rfl, .nil⟩, h2, h3, h4, h5⟩ h1 (.refl _)
theorem dn_done {kx vx : Expr} (hk : DE X Tr kx wk) (hv : DE X Tr vx wv) : DN X Φ (.Dict [some kx] [vx] pos) (wDOne wk wv) := fun E hE => PE.imp (pe_disp (pps_cons (pe_ex hk) (pe_ex hv) pps_nil) rfl rfl (by simp) (by simp)) fun σ H Q => by
  rintro ⟨S, F, R, hR, hw, k⟩
  intro q hq
  obtain ⟨R1, back⟩ := hR.aside (o := .dK []) hq (fun _ z => nomatch z)
  refine ⟨_, S, F, _, R1, hw, fun x S1 v1 F1 H1 hw1 r1 hR1 x1 => ⟨_, S1, F1, _, hR1, hw1, fun d S2 v2 F2 H2 hw2 r2 hR2 x2 => ?_⟩⟩
  obtain ⟨kk, h1, q2⟩ := hw2
  obtain ⟨b1, b2, b3, b4, b5, b6⟩ := back hR2
  refine ⟨b1, [(kk, v2)], by rw [keyD_V r1 h1]; rfl, by simp, ?_⟩
  exact k _ S2 q F2 _ q2 ⟨⟨_, upd_same, rfl, .one r2⟩, b2, b3, b4, b5⟩ (b6.over b2 b3 b4 b5) (x1.trans x2)
theorem din_go {E : En} {y x : Expr} (hi : PE X i (LE X.K E wi)) (b : Bool) {σ : L2.St} {H : Hp} {Q : V → Hp → Prop} (h : LE X.K E (wDIn b wi wd) σ H Q) : LE X.K E wi σ H fun y H1 => LE X.K E wd σ H1 fun x H2 => ∃ a o, x = .ref a ∧ DGet H2 a y o ∧ Q (.bl (o.isSome == b)) H2 := by
  obtain ⟨S, F, R, hR, hw, k⟩ := h
  refine ⟨S, F, _, hR, hw, fun y S1 v1 F1 H1 hw1 r1 hR1 x1 => ⟨S1, F1, _, hR1, hw1, fun x S2 v2 F2 H2 hw2 r2 hR2 x2 => ?_⟩⟩
  obtain ⟨l, kk, h1, h2, q⟩ := hw2
  obtain ⟨a, kvs, rfl, h4, h5⟩ := dd_at hR2 r2 (.refl _) h2
  rw [keyD_V r1 h1]
  refine ⟨a, _, rfl, .k h4, ?_⟩
  rw [h5.some_eq]
  exact k _ S2 _ F2 H2 q (.bl _) hR2 (x1.trans x2)
theorem eqT (b : Bool) : (b == true) = b := by cases b <;> rfl
theorem eqF (b : Bool) : (b == false) = !b := by cases b <;> rfl
theorem de_din (hu : X.A.units + 64 < cLine) (hi : DE X Φ i wi) (ho : DE X Φ o wd) (hm : behindInMarks .In o = false := by rfl) : DE X Φ (.Compare i [.In] [o] pos) (wDIn true wi wd) := fun E hE => PE.imp (pe_cmp (pc_din (u64 hu) (hi E hE) (ho E hE)) hm) fun σ H Q h => by
  have q := din_go (y := i) (x := o) (hi E hE) true h
  simp only [eqT] at q
  exact q
theorem de_dnotin (hu : X.A.units + 64 < cLine) (hi : DE X Φ i wi) (ho : DE X Φ o wd) (hm : behindInMarks .NotIn o = false := by rfl) : DE X Φ (.Compare i [.NotIn] [o] pos) (wDIn false wi wd) := fun E hE => PE.imp (pe_cmp (pc_dnotin (u64 hu) (hi E hE) (ho E hE)) hm) fun σ H Q h => by
  have q := din_go (y := i) (x := o) (hi E hE) false h
  simp only [eqF] at q
  exact q
theorem lt_bb {E : En} {w : WE} {σ : L2.St} {H : Hp} {Q : Bool → Hp → Prop} (h : LT X.K E (wBb w) σ H Q) : LE X.K E w σ H fun v H1 => ∃ b, v = .bl b ∧ Q b H1 := by
  obtain ⟨S, F, R, hR, hw, k⟩ := h
  refine ⟨S, F, _, hR, hw, fun d S1 v F1 H1 hw1 r1 hR1 x1 => ?_⟩
  split at hw1
  · cases r1
    exact ⟨_, rfl, k _ S1 F1 H1 hw1 hR1 x1⟩
  · exact hw1.elim
theorem dt_din (hu : X.A.units + 64 < cLine) (hi : DE X Φ i wi) (ho : DE X Φ o wd) (hm : behindInMarks .In o = false := by rfl) : DT X Φ (.Compare i [.In] [o] pos) (wBb (wDIn true wi wd)) := fun E hE => PT.imp (pt_cmp (pc_din (u64 hu) (hi E hE) (ho E hE)) hm) fun σ H Q h => by
  have q := din_go (y := i) (x := o) (hi E hE) true (lt_bb h)
  simp only [eqT] at q
  exact q
theorem dt_dnotin (hu : X.A.units + 64 < cLine) (hi : DE X Φ i wi) (ho : DE X Φ o wd) (hm : behindInMarks .NotIn o = false := by rfl) : DT X Φ (.Compare i [.NotIn] [o] pos) (wBb (wDIn false wi wd)) := fun E hE => PT.imp (pt_cmp (pc_dnotin (u64 hu) (hi E hE) (ho E hE)) hm) fun σ H Q h => by
  have q := din_go (y := i) (x := o) (hi E hE) false (lt_bb h)
  simp only [eqF] at q
  exact q
theorem dinO_go {E : En} {j : Nat} {v0 : Expr} (b : Bool) {σ : L2.St} {H : Hp} {Q : V → Hp → Prop} (h : LE X.K E (wDInO b wi j) σ H Q) : LE X.K E wi σ H fun y H1 => tVar j σ H1 fun x H2 => ∃ a o, x = .ref a ∧ DGet H2 a y o ∧ Q (.bl (o.isSome == b)) H2 := by
  obtain ⟨S, F, R, hR, hw, k⟩ := h
  refine ⟨S, F, _, hR, hw, fun y S1 v1 F1 H1 hw1 r1 hR1 x1 => ?_⟩
  obtain ⟨l, kk, h1, h2, q⟩ := hw1
  obtain ⟨q1, g1, g2, _⟩ := hR1.own j _ h2
  obtain ⟨kvs, h4, h5⟩ := ow_md g2
  rw [keyD_V r1 h1]
  refine ⟨_, g1, q1, _, rfl, .k h4, ?_⟩
  rw [h5.some_eq]
  exact k _ S1 _ F1 H1 q (.bl _) hR1 x1
theorem de_dinO {x : Str} (j : Nat) (h : PE X (.Name x p) (tVar j)) (hu : X.A.units + 64 < cLine) (hi : DE X Φ i wi) (hm : behindInMarks .In (.Name x p) = false := by rfl) : DE X Φ (.Compare i [.In] [.Name x p] pos) (wDInO true wi j) := fun E hE => PE.imp (pe_cmp (pc_din (u64 hu) (hi E hE) h) hm) fun σ H Q hh => by
  have q := dinO_go (v0 := i) true hh
  simp only [eqT] at q
  exact q
theorem de_dnotinO {x : Str} (j : Nat) (h : PE X (.Name x p) (tVar j)) (hu : X.A.units + 64 < cLine) (hi : DE X Φ i wi) (hm : behindInMarks .NotIn (.Name x p) = false := by rfl) : DE X Φ (.Compare i [.NotIn] [.Name x p] pos) (wDInO false wi j) := fun E hE => PE.imp (pe_cmp (pc_dnotin (u64 hu) (hi E hE) h) hm) fun σ H Q hh => by
  have q := dinO_go (v0 := i) false hh
  simp only [eqF] at q
  exact q
theorem dt_dinO {x : Str} (j : Nat) (h : PE X (.Name x p) (tVar j)) (hu : X.A.units + 64 < cLine) (hi : DE X Φ i wi) (hm : behindInMarks .In (.Name x p) = false := by rfl) : DT X Φ (.Compare i [.In] [.Name x p] pos) (wBb (wDInO true wi j)) := fun E hE => PT.imp (pt_cmp (pc_din (u64 hu) (hi E hE) h) hm) fun σ H Q hh => by
  have q := dinO_go (v0 := i) true (lt_bb hh)
  simp only [eqT] at q
  exact q
theorem dt_dnotinO {x : Str} (j : Nat) (h : PE X (.Name x p) (tVar j)) (hu : X.A.units + 64 < cLine) (hi : DE X Φ i wi) (hm : behindInMarks .NotIn (.Name x p) = false := by rfl) : DT X Φ (.Compare i [.NotIn] [.Name x p] pos) (wBb (wDInO false wi j)) := fun E hE => PT.imp (pt_cmp (pc_dnotin (u64 hu) (hi E hE) h) hm) fun σ H Q hh => by
  have q := dinO_go (v0 := i) false (lt_bb hh)
  simp only [eqF] at q
  exact q
theorem ds_dput (hu : X.A.units + 64 < cLine) (ho : DE X Tr o wd) (hi : DE X Tr i wi) (hv : DE X Tr value wv) (hs : swapsWith value (some (.Subscript o i pos')) pos.line X.env = pure false := by rfl) : DS X W (.Assign [.Subscript o i pos'] value pos) (wDPut wd wi wv) := fun E => PS.imp (ps_dput (u64 hu) (ho E trivial) (hi E trivial) (hv E trivial) hs) fun D σ H => by
  rintro ⟨S, F, R, hR, hw, k1, k2, k3, k4, k5⟩
  refine ⟨S, F, _, hR, hw, fun d S1 v1 F1 H1 hw1 r1 hR1 x1 => ⟨S1, F1, _, hR1, hw1, fun x S2 v2 F2 H2 hw2 r2 hR2 x2 => ⟨S2, F2, _, hR2, hw2, fun y S3 v3 F3 H3 hw3 r3 hR3 x3 => ?_⟩⟩⟩
  obtain ⟨a, l, kk, rfl, h1, h2, h3, q⟩ := hw3
  cases r2
  obtain ⟨kvs, g1, g2⟩ := ob_md (hR3.g.obs _ _ h2).1
  rw [keyD_V r3 h1]
  refine ⟨a, _, rfl, .k g1 (by rw [g2.length]; exact h3), k1 _ σ F3 _ q (hR3.obput (by rw [h2]; simp) ?_) ((x1.trans x2).trans x3)⟩
  obtain ⟨p1, p2⟩ := g2.put kk ((r1.mono x2).mono x3)
  exact ⟨_, upd_same, p1, p2⟩
theorem ds_dputO {x : Str} (j : Nat) (h : PE X (.Name x p) (tVar j)) (hu : X.A.units + 64 < cLine) (hi : DE X Tr i wi) (hv : DE X Tr value wv) (hs : swapsWith value (some (.Subscript (.Name x p) i pos')) pos.line X.env = pure false := by rfl) : DS X W (.Assign [.Subscript (.Name x p) i pos'] value pos) (wDPutO j wi wv) := fun E => PS.imp (ps_dput (u64 hu) h (hi E trivial) (hv E trivial) hs) fun D σ H => by
  rintro ⟨S, F, R, hR, ⟨⟨e, he⟩, hw⟩, k1, k2, k3, k4, k5⟩
  refine ⟨S, F, _, hR, hw, fun d S1 v1 F1 H1 hw1 r1 hR1 x1 => ?_⟩
  obtain ⟨⟨e1, he1⟩, hw1⟩ := hw1
  obtain ⟨q0, h0, _⟩ := hR1.own j e1 he1
  refine ⟨_, h0, S1, F1, _, hR1, hw1, fun y S2 v2 F2 H2 hw2 r2 hR2 x2 => ?_⟩
  obtain ⟨l, kk, h1, h2, h3, q⟩ := hw2
  obtain ⟨q1, g1, g2, _⟩ := hR2.own j _ h2
  rw [h0] at g1
  cases g1
  obtain ⟨kvs, h4, h5⟩ := ow_md g2
  rw [keyD_V r2 h1]
  refine ⟨_, _, rfl, .k h4 (by rw [h5.length]; exact h3), k1 _ σ F2 _ q (hR2.mut h2 h0 ?_) (x1.trans x2)⟩
  obtain ⟨p1, p2⟩ := h5.put kk (r1.mono x2)
  exact ⟨_, upd_same, p1, p2⟩
end
end VL

set_option Elab.async false
set_option linter.all false
set_option maxRecDepth 100000
set_option maxHeartbeats 400000
/-! VL16: d.update(e), list(d); dicts with tuple keys. -/
namespace VL
open PySem PySem.Spec PyProof.Rows L2
/-! ### d.update(e), both dicts of names of ours -/
def mrgP {κ : Type} [DecidableEq κ] (l m : List (κ × D)) : List (κ × D) := m.foldl (fun acc kv => putP acc kv.1 kv.2) l
theorem RepT.merge {K : PySem.W.Frag} {F : Hp} : ∀ {more : List (Key × V)} {m : List (Key × D)} {kvs : List (Key × V)} {l : List (Key × D)}, RepT K F more m → RepT K F kvs l → RepT K F (mergeK kvs more) (mrgP l m)
  | [], [], _, _, _, r => r
  | [], _ :: _, _, _, q, _ => nomatch q.1
  | _ :: _, [], _, _, q, _ => nomatch q.1
  | (g, v) :: more, (g', x) :: m, kvs, l, ⟨e, r⟩, q => by
    rw [List.map_cons, List.map_cons] at e
    injection e with e1 e2
    have e1' : g = g' := e1
    subst e1'
    cases r with
    | cons r1 r2 => exact RepT.merge (more := more) (m := m) (And.intro e2 r2) (q.put g r1)
def rUpdK : V → List V → Hp → VK → Prop := fun x xs H Q => ∃ (a b : Addr) (kvs more : List (Key × V)), x = .ref a ∧ xs = [.ref b] ∧ a ≠ b ∧ H a = some (.dK kvs) ∧ H b = some (.dK more) ∧ kvs.length + more.length ≤ sizeLine ∧ Q .non (upd H a (.dK (mergeK kvs more)))
theorem mt_updK {X : Cx} : MtR X "dict.update" rUpdK := by
  intro pins s σ H x xs v us Q I rx rs q
  obtain ⟨a, b, kvs, more, rfl, rfl, ne, ha, hb, hl, q⟩ := q
  cases rx
  obtain rfl := Vals.ref1 rs
  obtain ⟨z1, d1, vs1, r1, dd1⟩ := dk_of I.hok ha
  obtain ⟨z2, d2, vs2, r2, dd2⟩ := dk_of I.hok hb
  have l1 := r1.length
  have l2 := r2.length
  refine call_meetsIn PySem.F.slot_dict_update dd1.typeIs PySem.F.entry_dict_update (PySem.F.args_dict_update_2 _ _) (PySem.meets_dict_update (mixKind X.prog X.w) a b ne d2) ⟨vs1, vs2, dd1, dd2, by rw [← l1, ← l2]; exact hl, fun h' hmm _ hs => ?_⟩
  have hz := length_mergeK more kvs
  have he : ∃ q, h'.get? a = some q := let ⟨q, _, _, hq, _⟩ := hmm; ⟨q, hq⟩
  exact ⟨.non, _, d_write (t' := s.toks) I (by rw [ha]; exact True.intro) hs he (dk_new (by omega) d1 (r2.merge r1) hmm), rfl, q⟩
def wUpdO (i j : Nat) : WS := fun D S => ∃ l m, i ≠ j ∧ S.s[i]? = some (.o (dcP l)) ∧ S.s[j]? = some (.o (dcP m)) ∧ l.length + m.length ≤ sizeLine ∧ D.nx (S.st i (.o (dcP (mrgP l m))))
def kD : Key → D
  | .inl i => .int i
  | .inr x => .str x
theorem kD_rep {K : PySem.W.Frag} {F : Hp} : ∀ k : Key, Rep K F (kV k) (kD k)
  | .inl i => .int i
  | .inr x => .str x
/-- list(d), d a dict of a name of ours -/
def wKeysO (j : Nat) : WE := fun S R => ∃ l : List (Key × D), S.s[j]? = some (.o (dcP l)) ∧ R (.lst (l.map fun kv => kD kv.1)) S
section
variable {X : Cx} {Φ : En → Prop} {W : L2.WX} {x y : Str} {px py apos cpos pos p : Pos}
theorem ds_updO (i j : Nat) (hx : PE X (.Name x px) (tVar i)) (hy : PE X (.Name y py) (tVar j))
    (h : ∀ to te, PE X (.Name x px) to → PE X (.Name y py) te → PE X (.Call (.Attribute (.Name x px) "update" apos) [.Name y py] [] cpos) (tBM X.K "dict" rUpdK to (tCons te tNil)))
    (hs : swapsWith (.Call (.Attribute (.Name x px) "update" apos) [.Name y py] [] cpos) none pos.line X.env = pure false := by rfl) :
    DS X W (.Expr (.Call (.Attribute (.Name x px) "update" apos) [.Name y py] [] cpos) pos) (wUpdO i j) := fun E => PS.imp (ps_expr (h _ _ hx hy) hs) fun D σ H => by
  rintro ⟨S, F, R, hR, ⟨l, m, ne, hi, hj, hl, hw⟩, k1, k2, k3, k4, k5⟩
  obtain ⟨a, a1, a2, _⟩ := hR.own i _ hi
  obtain ⟨b, b1, b2, _⟩ := hR.own j _ hj
  obtain ⟨kvs, ha, ra⟩ := ow_md a2
  obtain ⟨more, hb, rb⟩ := ow_md b2
  have nab : a ≠ b := fun z => ne (hR.inj i j _ _ a hi hj a1 (z ▸ b1))
  refine ⟨_, a1, .inr (.inr (.inl ⟨rfl, .inl ⟨_, ha⟩⟩)), _, b1, a, b, kvs, more, rfl, rfl, nab, ha, hb, by rw [ra.length, rb.length]; exact hl, ?_⟩
  obtain ⟨p1, p2⟩ := rb.merge ra
  exact k1 _ _ F _ hw (hR.mut hi a1 ⟨_, upd_same, p1, p2⟩) (.refl _)
theorem dn_keysO (j : Nat) (hc : X.calm = true) (hx : PE X (.Name x px) (tVar j)) (hg : Gl X "list") (hm : X.mg "list" = none) (he : starEach [.Name x px] X.env = (false, eval (.Name x px) X.env) :: starEach [] X.env := by rfl) (hpl : (backTo pos (starEach [] X.env)).any (·.1) = false := by rfl) :
    DN X Φ (.Call (.Name "list" p) [.Name x px] [] pos) (wKeysO j) := fun E hE => PE.imp (pe_callTy (T := "list") (call_listD hc) hg hm (by decide +kernel) (pa_cons hx pa_nil he) (he := he) (hpl := hpl)) fun σ H Q => by
  rintro ⟨S, F, R, hR, ⟨l, hj, hw⟩, k⟩
  obtain ⟨b, b1, b2, _⟩ := hR.own j _ hj
  obtain ⟨kvs, hb, rb⟩ := ow_md b2
  refine ⟨_, b1, b, kvs, rfl, .inl hb, fun q hq => ?_⟩
  have rr : Reps X.K F (kvs.map fun kv => kV kv.1) (l.map fun kv => kD kv.1) := by
    have e1 : (kvs.map fun kv => kV kv.1) = (kvs.map (·.1)).map kV := by rw [List.map_map]; rfl
    have e2 : (l.map fun kv => kD kv.1) = (l.map (·.1)).map kD := by rw [List.map_map]; rfl
    rw [e1, e2, rb.1]
    generalize l.map (·.1) = ks
    induction ks with
    | nil => exact .nil
    | cons a ks ih => exact .cons (kD_rep a) ih
  obtain ⟨fr, hR'⟩ := fresh_of hR hq rr
  exact k _ S q F _ hw fr hR' (.refl _)
end
/-! ### dicts with tuple keys -/
abbrev dcuP (l : List (List Key × D)) : D := .dcu (l.map (·.1)) (l.map (·.2))
abbrev muP (l : List (List Key × D)) : Ob := .mu (l.map (·.1)) (l.map (·.2))
abbrev lkuP (u : HO) (l : List (List Key × D)) : Ob := .lku u (l.map (·.1)) (l.map (·.2))
def KeyU (y : D) (k : List Key) : Prop := y = .tup (k.map kD) ∨ y = .ktp (k.map kD)
theorem reps_keys {K : PySem.W.Frag} {F : Hp} : ∀ {k : List Key} {vs : List V}, Reps K F vs (k.map kD) → vs = k.map kV
  | [], _, .nil => rfl
  | a :: k, _, .cons r t => by
    rw [List.map_cons, reps_keys t]
    congr 1
    cases a with
    | inl i => cases r; rfl
    | inr x => cases r; rfl
theorem KeyU.at_ {K : PySem.W.Frag} {F : Hp} {v : V} {y : D} {k : List Key} (h : KeyU y k) (r : Rep K F v y) : ∃ b, v = .ref b ∧ SqT K F b (k.map kV) := by
  rcases h with rfl | rfl
  · cases r with
    | tup q s => rw [reps_keys s] at q; exact ⟨_, rfl, q⟩
  · cases r with
    | ktp q s => rw [reps_keys s] at q; exact ⟨_, rfl, .of q⟩
section
variable {X : Cx} {pins : List (Addr × Obj)} {σ : L2.St} {H : Hp} {s : Shared} {a b : Addr} {A : Around} {E : Value → Shared → Prop} {kvs : List (List Key × V)} {k : List Key}
theorem key_sq (I : Inv X pins σ H s) (h : SqT X.K H b (k.map kV)) : (tupleKind (mixKind X.prog X.w)).is s.heap k b := by
  obtain ⟨its, r, ⟨o, h1, h2, n, h3⟩, _⟩ := I.tuple h
  exact ⟨o, its.toArray, n, h1, h2, h3, by simpa using items_are r⟩
theorem u_getItem {v : V} {Q : Value → Shared → Prop} (hu : A.units + 1 < cLine) (I : Inv X pins σ H s) (e : Rd H a (.dT kvs)) (eb : SqT X.K H b (k.map kV)) (l : valV kvs k = some v) (h : ∀ w' s', Inv X pins σ H s' → RelV v w' → Q w' s') :
    wpAny (model X.prog X.w) A (getItem (.ref a) (.ref b)) Q E s := by
  obtain ⟨z, hd, xs, rel, dd⟩ := dt_rd I.hok e
  obtain ⟨w', hw, rw'⟩ := RelO.some_of (v := v) (o := (atKey xs k).map (·.2)) (by rw [← l]; exact rel.val k)
  obtain ⟨p, hp, hp2⟩ := Option.map_eq_some_iff.mp hw
  refine wpAny_getItem_heap (tupleKind_room_in1 hu) (key_sq I eb) dd hp ?_
  rw [hp2]
  exact h w' _ (I.tok _) rw'
theorem u_in {Q : Value → Shared → Prop} (hu : A.units + 1 < cLine) (I : Inv X pins σ H s) (e : Rd H a (.dT kvs)) (eb : SqT X.K H b (k.map kV)) (h : ∀ s', Inv X pins σ H s' → Q (.bool (valV kvs k).isSome) s') :
    wpAny (model X.prog X.w) A (compareOp .In (.ref b) (.ref a)) Q E s := by
  obtain ⟨z, hd, xs, rel, dd⟩ := dt_rd I.hok e
  refine wpAny_in_heap (tupleKind_room_in1 hu) (key_sq I eb) hd dd ?_
  have q := (rel.val k).isSome_eq
  rw [Option.isSome_map] at q
  rw [← q]
  exact h _ (I.tok _)
theorem u_notIn {Q : Value → Shared → Prop} (hu : A.units + 1 < cLine) (I : Inv X pins σ H s) (e : Rd H a (.dT kvs)) (eb : SqT X.K H b (k.map kV)) (h : ∀ s', Inv X pins σ H s' → Q (.bool (!(valV kvs k).isSome)) s') :
    wpAny (model X.prog X.w) A (compareOp .NotIn (.ref b) (.ref a)) Q E s := by
  obtain ⟨z, hd, xs, rel, dd⟩ := dt_rd I.hok e
  refine wpAny_notIn_heap (tupleKind_room_in1 hu) (key_sq I eb) hd dd ?_
  have q := (rel.val k).isSome_eq
  rw [Option.isSome_map] at q
  rw [← q]
  exact h _ (I.tok _)
end
def tUGet (K : PySem.W.Frag) (td ty : TE) : TE := fun σ H Q => td σ H fun x H1 => ty σ H1 fun y H2 => ∃ a b kvs k v, x = .ref a ∧ y = .ref b ∧ Rd H2 a (.dT kvs) ∧ SqT K H2 b (k.map kV) ∧ valV kvs k = some v ∧ Q v H2
def tUIn (K : PySem.W.Frag) (c : Bool) (ty td : TE) : TE := fun σ H Q => ty σ H fun y H1 => td σ H1 fun x H2 => ∃ a b kvs k, x = .ref a ∧ y = .ref b ∧ Rd H2 a (.dT kvs) ∧ SqT K H2 b (k.map kV) ∧ Q (.bl ((valV kvs k).isSome == c)) H2
section
variable {X : Cx} {o i : Expr} {td ty : TE} {pos : Pos}
theorem pe_uget (hu : X.A.units + 1 < cLine) (ho : PE X o td) (hi : PE X i ty) (hs : NoSl i) : PE X (.Subscript o i pos) (tUGet X.K td ty) := by
  refine ⟨fun pins s σ H Q I h => ?_⟩
  refine subD_of PySem.F.slot_dict_getitem.lookup hs (thn (ho.run pins s σ H _ I h) fun u s1 ⟨x, H1, I1, rx, q1⟩ => thn (hi.run pins s1 σ H1 _ I1 q1) fun iv s2 ⟨y, H2, I2, ry, a, b, kvs, k, v, ex, ey, g, gb, l, q2⟩ => ?_)
  subst ex ey
  obtain rfl : u = Value.ref a := rx
  obtain rfl : iv = Value.ref b := ry
  exact ⟨(let ⟨_, _, xs, _, dd⟩ := dt_rd I2.hok g; dd.typeIs), u_getItem hu I2 g gb l fun w' s3 I3 rw' => ⟨v, H2, I3, rw', q2⟩⟩
theorem pc_uin (hu : X.A.units + 1 < cLine) (hi : PE X i ty) (ho : PE X o td) : PC X .In i o (tUIn X.K true ty td) := by
  refine ⟨fun pins s σ H Q I h => ?_⟩
  refine thn (hi.run pins s σ H _ I h) fun iv s1 ⟨y, H1, I1, ry, q1⟩ => thn (ho.run pins s1 σ H1 _ I1 q1) fun u s2 ⟨x, H2, I2, rx, a, b, kvs, k, ex, ey, g, gb, q2⟩ => ?_
  subst ex ey
  obtain rfl : u = Value.ref a := rx
  obtain rfl : iv = Value.ref b := ry
  rw [eqT] at q2
  exact u_in hu I2 g gb fun s3 I3 => ⟨.bl _, H2, I3, rfl, q2⟩
theorem pc_unotin (hu : X.A.units + 1 < cLine) (hi : PE X i ty) (ho : PE X o td) : PC X .NotIn i o (tUIn X.K false ty td) := by
  refine ⟨fun pins s σ H Q I h => ?_⟩
  refine thn (hi.run pins s σ H _ I h) fun iv s1 ⟨y, H1, I1, ry, q1⟩ => thn (ho.run pins s1 σ H1 _ I1 q1) fun u s2 ⟨x, H2, I2, rx, a, b, kvs, k, ex, ey, g, gb, q2⟩ => ?_
  subst ex ey
  obtain rfl : u = Value.ref a := rx
  obtain rfl : iv = Value.ref b := ry
  rw [eqF] at q2
  exact u_notIn hu I2 g gb fun s3 I3 => ⟨.bl _, H2, I3, rfl, q2⟩
end
/-- the table of a dict with tuple keys, by what the value is -/
def UDict (x : D) (h : Oh) (l : List (List Key × D)) : Prop := x = dcuP l ∨ ∃ a, x = .obj a ∧ (h a = some (muP l) ∨ ∃ u, h a = some (lkuP u l))
def wUGet (wd wi : WE) : WE := fun S R => wd S fun x S1 => wi S1 fun y S2 => ∃ l k d, KeyU y k ∧ UDict x S2.h l ∧ look l k = some d ∧ R d S2
def wUGetO (j : Nat) (wi : WE) : WE := fun S R => (∃ e, S.s[j]? = some (.o e)) ∧ wi S fun y S1 => ∃ l k d, KeyU y k ∧ S1.s[j]? = some (.o (dcuP l)) ∧ look l k = some d ∧ R d S1
def wUIn (b : Bool) (wi wd : WE) : WE := fun S R => wi S fun y S1 => wd S1 fun x S2 => ∃ l k, KeyU y k ∧ UDict x S2.h l ∧ R (.bl ((look l k).isSome == b)) S2
def wUInO (b : Bool) (wi : WE) (j : Nat) : WE := fun S R => wi S fun y S1 => ∃ l k, KeyU y k ∧ S1.s[j]? = some (.o (dcuP l)) ∧ R (.bl ((look l k).isSome == b)) S1
def wUNew : WE := fun S R => R (dcuP []) S
/-- d[k] = v; k a tuple that is known to be one of ours -/
def wUPut (wd wi wv : WE) : WS := fun D S => wv S fun d S1 => wd S1 fun x S2 => wi S2 fun y S3 => ∃ a l k, x = .obj a ∧ y = .ktp (k.map kD) ∧ S3.h a = some (muP l) ∧ l.length < sizeLine ∧ D.nx (S3.ob a (muP (putP l k d)))
def wUPutO (j : Nat) (wi wv : WE) : WS := fun D S => (∃ e, S.s[j]? = some (.o e)) ∧ wv S fun d S1 => (∃ e, S1.s[j]? = some (.o e)) ∧ wi S1 fun y S2 => ∃ l k, y = .ktp (k.map kD) ∧ S2.s[j]? = some (.o (dcuP l)) ∧ l.length < sizeLine ∧ D.nx (S2.st j (.o (dcuP (putP l k d))))
/-- tuple(e), e a list: one of ours -/
def wKtp (w : WE) : WE := fun S R => w S fun d S1 => ∃ ds, d = .lst ds ∧ R (.ktp ds) S1
/-- .. as any tuple -/
def wUnk (w : WE) : WE := fun S R => w S fun d S1 => match d with
  | .ktp ds => R (.tup ds) S1
  | d => R d S1
section
variable {X : Cx} {Φ : En → Prop} {W : L2.WX} {o e i value : Expr} {pos pos' p : Pos} {w wd wi wk wv : WE}
theorem ob_mu {K : PySem.W.Frag} {F H : Hp} {a : Addr} {l : List (List Key × D)} (h : ObAt K F H a (muP l)) : ∃ kvs, H a = some (.dT kvs) ∧ RepT K F kvs l := let ⟨kvs, h1, h2, h3⟩ := h; ⟨kvs, h1, h2, h3⟩
theorem ob_lku {K : PySem.W.Frag} {F H : Hp} {a : Addr} {l : List (List Key × D)} {u : HO} (h : ObAt K F H a (lkuP u l)) : ∃ od kvs, H a = some (.frz od (.dT kvs)) ∧ RepT K F kvs l := let ⟨h0, od, kvs, h1, h2, h3⟩ := h; ⟨od, kvs, by rw [h0, h1], h2, h3⟩
theorem ow_mu {K : PySem.W.Frag} {F H : Hp} {a : Addr} {l : List (List Key × D)} (h : OwAt K F H a (dcuP l)) : ∃ kvs, H a = some (.dT kvs) ∧ RepT K F kvs l := let ⟨kvs, h1, h2, h3⟩ := h; ⟨kvs, h1, h2, h3⟩
theorem UDict.at_ {K : PySem.W.Frag} {E : En} {F1 F H : Hp} {σ : L2.St} {S : Sg} {x : D} {v : V} {l : List (List Key × D)} (R : Rel K E F H σ S) (r : Rep K F1 v x) (e : Ext F1 F) (h : UDict x S.h l) : ∃ a kvs, v = .ref a ∧ Rd H a (.dT kvs) ∧ RepT K F kvs l := by
  rcases h with rfl | ⟨a, rfl, h | ⟨u, h⟩⟩
  · cases r with
    | dcu h1 h2 h3 => exact ⟨_, _, rfl, .inl (R.g.ext _ _ (e _ _ h1)), h2, h3.mono e⟩
  · cases r
    obtain ⟨kvs, h1, h2⟩ := ob_mu (R.g.obs _ _ h).1
    exact ⟨a, kvs, rfl, .inl h1, h2⟩
  · cases r
    obtain ⟨od, kvs, h1, h2⟩ := ob_lku (R.g.obs _ _ h).1
    exact ⟨a, kvs, rfl, .inr ⟨od, h1⟩, h2⟩
theorem de_uget (hu : X.A.units + 64 < cLine) (ho : DE X Φ o wd) (hi : DE X Φ i wi) (hs : NoSl i) : DE X Φ (.Subscript o i pos) (wUGet wd wi) := fun E hE => PE.imp (pe_uget (u64 hu) (ho E hE) (hi E hE) hs) fun σ H Q => by
  rintro ⟨S, F, R, hR, hw, k⟩
  refine ⟨S, F, _, hR, hw, fun x S1 v1 F1 H1 hw1 r1 hR1 x1 => ⟨S1, F1, _, hR1, hw1, fun y S2 v2 F2 H2 hw2 r2 hR2 x2 => ?_⟩⟩
  obtain ⟨l, kk, d, h1, h2, h3, q⟩ := hw2
  obtain ⟨a, kvs, rfl, h4, h5⟩ := h2.at_ hR2 r1 x2
  obtain ⟨b, rfl, sb⟩ := h1.at_ r2
  obtain ⟨u, h6, h7⟩ := (h5.lk kk).1 d h3
  exact ⟨a, b, kvs, kk, u, rfl, rfl, h4, hR2.g.ext.sqT sb, h6, k d S2 u F2 H2 q h7 hR2 (x1.trans x2)⟩
theorem de_ugetO {x : Str} (j : Nat) (h : PE X (.Name x p) (tVar j)) (hu : X.A.units + 64 < cLine) (hi : DE X Φ i wi) (hs : NoSl i) : DE X Φ (.Subscript (.Name x p) i pos) (wUGetO j wi) := fun E hE => PE.imp (pe_uget (u64 hu) h (hi E hE) hs) fun σ H Q => by
  rintro ⟨S, F, R, hR, ⟨⟨e, he⟩, hw⟩, k⟩
  obtain ⟨q0, h0, _⟩ := hR.own j e he
  refine ⟨_, h0, S, F, _, hR, hw, fun y S1 v1 F1 H1 hw1 r1 hR1 x1 => ?_⟩
  obtain ⟨l, kk, d, h1, h2, h3, q⟩ := hw1
  obtain ⟨q1, g1, g2, _⟩ := hR1.own j _ h2
  rw [h0] at g1
  cases g1
  obtain ⟨kvs, h4, h5⟩ := ow_mu g2
  obtain ⟨b, rfl, sb⟩ := h1.at_ r1
  obtain ⟨u, h6, h7⟩ := (h5.lk kk).1 d h3
  exact ⟨_, b, kvs, kk, u, rfl, rfl, .inl h4, hR1.g.ext.sqT sb, h6, k d S1 u F1 H1 q h7 hR1 x1⟩
theorem uin_go {E : En} (b : Bool) {σ : L2.St} {H : Hp} {Q : V → Hp → Prop} (h : LE X.K E (wUIn b wi wd) σ H Q) : tUIn X.K b (LE X.K E wi) (LE X.K E wd) σ H Q := by
  obtain ⟨S, F, R, hR, hw, k⟩ := h
  refine ⟨S, F, _, hR, hw, fun y S1 v1 F1 H1 hw1 r1 hR1 x1 => ⟨S1, F1, _, hR1, hw1, fun x S2 v2 F2 H2 hw2 r2 hR2 x2 => ?_⟩⟩
  obtain ⟨l, kk, h1, h2, q⟩ := hw2
  obtain ⟨a, kvs, rfl, h4, h5⟩ := h2.at_ hR2 r2 (.refl _)
  obtain ⟨c, rfl, sb⟩ := h1.at_ r1
  refine ⟨a, c, kvs, kk, rfl, rfl, h4, hR2.g.ext.sqT (x2.sqT sb), ?_⟩
  rw [h5.some_eq]
  exact k _ S2 _ F2 H2 q (.bl _) hR2 (x1.trans x2)
theorem uinO_go {E : En} (j : Nat) (b : Bool) {σ : L2.St} {H : Hp} {Q : V → Hp → Prop} (h : LE X.K E (wUInO b wi j) σ H Q) : tUIn X.K b (LE X.K E wi) (tVar j) σ H Q := by
  obtain ⟨S, F, R, hR, hw, k⟩ := h
  refine ⟨S, F, _, hR, hw, fun y S1 v1 F1 H1 hw1 r1 hR1 x1 => ?_⟩
  obtain ⟨l, kk, h1, h2, q⟩ := hw1
  obtain ⟨q1, g1, g2, _⟩ := hR1.own j _ h2
  obtain ⟨kvs, h4, h5⟩ := ow_mu g2
  obtain ⟨c, rfl, sb⟩ := h1.at_ r1
  refine ⟨_, g1, q1, c, kvs, kk, rfl, rfl, .inl h4, hR1.g.ext.sqT sb, ?_⟩
  rw [h5.some_eq]
  exact k _ S1 _ F1 H1 q (.bl _) hR1 x1
theorem de_uin (hu : X.A.units + 64 < cLine) (hi : DE X Φ i wi) (ho : DE X Φ o wd) (hm : behindInMarks .In o = false := by rfl) : DE X Φ (.Compare i [.In] [o] pos) (wUIn true wi wd) := fun E hE => PE.imp (pe_cmp (pc_uin (u64 hu) (hi E hE) (ho E hE)) hm) fun σ H Q h => uin_go true h
theorem de_unotin (hu : X.A.units + 64 < cLine) (hi : DE X Φ i wi) (ho : DE X Φ o wd) (hm : behindInMarks .NotIn o = false := by rfl) : DE X Φ (.Compare i [.NotIn] [o] pos) (wUIn false wi wd) := fun E hE => PE.imp (pe_cmp (pc_unotin (u64 hu) (hi E hE) (ho E hE)) hm) fun σ H Q h => uin_go false h
theorem dt_uin (hu : X.A.units + 64 < cLine) (hi : DE X Φ i wi) (ho : DE X Φ o wd) (hm : behindInMarks .In o = false := by rfl) : DT X Φ (.Compare i [.In] [o] pos) (wBb (wUIn true wi wd)) := fun E hE => PT.imp (pt_cmp (pc_uin (u64 hu) (hi E hE) (ho E hE)) hm) fun σ H Q h => uin_go true (lt_bb h)
theorem dt_unotin (hu : X.A.units + 64 < cLine) (hi : DE X Φ i wi) (ho : DE X Φ o wd) (hm : behindInMarks .NotIn o = false := by rfl) : DT X Φ (.Compare i [.NotIn] [o] pos) (wBb (wUIn false wi wd)) := fun E hE => PT.imp (pt_cmp (pc_unotin (u64 hu) (hi E hE) (ho E hE)) hm) fun σ H Q h => uin_go false (lt_bb h)
theorem dt_uinO {x : Str} (j : Nat) (h : PE X (.Name x p) (tVar j)) (hu : X.A.units + 64 < cLine) (hi : DE X Φ i wi) (hm : behindInMarks .In (.Name x p) = false := by rfl) : DT X Φ (.Compare i [.In] [.Name x p] pos) (wBb (wUInO true wi j)) := fun E hE => PT.imp (pt_cmp (pc_uin (u64 hu) (hi E hE) h) hm) fun σ H Q hh => uinO_go j true (lt_bb hh)
theorem dt_unotinO {x : Str} (j : Nat) (h : PE X (.Name x p) (tVar j)) (hu : X.A.units + 64 < cLine) (hi : DE X Φ i wi) (hm : behindInMarks .NotIn (.Name x p) = false := by rfl) : DT X Φ (.Compare i [.NotIn] [.Name x p] pos) (wBb (wUInO false wi j)) := fun E hE => PT.imp (pt_cmp (pc_unotin (u64 hu) (hi E hE) h) hm) fun σ H Q hh => uinO_go j false (lt_bb hh)
theorem dn_unew : DN X Φ (.Dict [] [] pos) wUNew := fun E hE => PE.imp pe_dnewT fun σ H Q => by
  rintro ⟨S, F, R, hR, hw, k⟩
  intro q hq
  obtain ⟨h1, h2, h3, h4, h5⟩ := hR.fresh (o := .dT []) hq
  exact k _ S q F _ hw ⟨⟨[], upd_same, rfl, .nil⟩, h2, h3, h4, h5⟩ h1 (.refl _)
theorem ds_uput (hu : X.A.units + 64 < cLine) (ho : DE X Tr o wd) (hi : DE X Tr i wi) (hv : DE X Tr value wv) (hs : swapsWith value (some (.Subscript o i pos')) pos.line X.env = pure false := by rfl) : DS X W (.Assign [.Subscript o i pos'] value pos) (wUPut wd wi wv) := fun E => PS.imp (ps_dput (u64 hu) (ho E trivial) (hi E trivial) (hv E trivial) hs) fun D σ H => by
  rintro ⟨S, F, R, hR, hw, k1, k2, k3, k4, k5⟩
  refine ⟨S, F, _, hR, hw, fun d S1 v1 F1 H1 hw1 r1 hR1 x1 => ⟨S1, F1, _, hR1, hw1, fun x S2 v2 F2 H2 hw2 r2 hR2 x2 => ⟨S2, F2, _, hR2, hw2, fun y S3 v3 F3 H3 hw3 r3 hR3 x3 => ?_⟩⟩⟩
  obtain ⟨a, l, kk, rfl, rfl, h2, h3, q⟩ := hw3
  cases r2
  obtain ⟨kvs, g1, g2⟩ := ob_mu (hR3.g.obs _ _ h2).1
  cases r3 with
  | ktp fb sb =>
    rw [reps_keys sb] at fb
    refine ⟨a, _, rfl, .t g1 (hR3.g.ext _ _ fb) (by rw [g2.length]; exact h3), k1 _ σ F3 _ q (hR3.obput (by rw [h2]; simp) ?_) ((x1.trans x2).trans x3)⟩
    obtain ⟨p1, p2⟩ := g2.put kk ((r1.mono x2).mono x3)
    exact ⟨_, upd_same, p1, p2⟩
theorem ds_uputO {x : Str} (j : Nat) (h : PE X (.Name x p) (tVar j)) (hu : X.A.units + 64 < cLine) (hi : DE X Tr i wi) (hv : DE X Tr value wv) (hs : swapsWith value (some (.Subscript (.Name x p) i pos')) pos.line X.env = pure false := by rfl) : DS X W (.Assign [.Subscript (.Name x p) i pos'] value pos) (wUPutO j wi wv) := fun E => PS.imp (ps_dput (u64 hu) h (hi E trivial) (hv E trivial) hs) fun D σ H => by
  rintro ⟨S, F, R, hR, ⟨⟨e, he⟩, hw⟩, k1, k2, k3, k4, k5⟩
  refine ⟨S, F, _, hR, hw, fun d S1 v1 F1 H1 hw1 r1 hR1 x1 => ?_⟩
  obtain ⟨⟨e1, he1⟩, hw1⟩ := hw1
  obtain ⟨q0, h0, _⟩ := hR1.own j e1 he1
  refine ⟨_, h0, S1, F1, _, hR1, hw1, fun y S2 v2 F2 H2 hw2 r2 hR2 x2 => ?_⟩
  obtain ⟨l, kk, rfl, h2, h3, q⟩ := hw2
  obtain ⟨q1, g1, g2, _⟩ := hR2.own j _ h2
  rw [h0] at g1
  cases g1
  obtain ⟨kvs, h4, h5⟩ := ow_mu g2
  cases r2 with
  | ktp fb sb =>
    rw [reps_keys sb] at fb
    refine ⟨_, _, rfl, .t h4 (hR2.g.ext _ _ fb) (by rw [h5.length]; exact h3), k1 _ σ F2 _ q (hR2.mut h2 h0 ?_) (x1.trans x2)⟩
    obtain ⟨p1, p2⟩ := h5.put kk (r1.mono x2)
    exact ⟨_, upd_same, p1, p2⟩
theorem de_unk (h : DE X Φ e w) : DE X Φ e (wUnk w) := fun E hE => PE.imp (h E hE) fun σ H Q => by
  rintro ⟨S, F, R, hR, hw, k⟩
  refine ⟨S, F, _, hR, hw, fun d S1 v F1 H1 hw1 r1 hR1 x1 => ?_⟩
  split at hw1
  · cases r1 with
    | ktp fb sb => exact k _ S1 _ F1 H1 hw1 (.tup (.of fb) sb) hR1 x1
  · exact k _ S1 _ F1 H1 hw1 r1 hR1 x1
end
section
variable {K : PySem.W.Frag} {E : En} {F H : Hp} {σ : L2.St} {S : Sg} {q : Addr} {vs : List V}
/-- a tuple is frozen, whoever made it -/
theorem Rel.addTup (R : Rel K E F H σ S) (hF : F q = none) (hq : H q = some (.tup vs)) : Rel K E (upd F q (.tup vs)) H σ S := by
  have x : Ext F (upd F q (.tup vs)) := .new hF
  refine ⟨⟨fun b u e => ?_, R.g.gF.trans x, fun b h1 h2 h3 => ?_, R.g.gH, R.g.gP, R.g.gO, fun a ob e => ?_⟩, R.len, fun i d e => ?_, fun i d e => ?_, R.inj⟩
  · by_cases hb : b = q
    · subst hb; rw [upd_same] at e; cases e; exact hq
    · rw [upd_ne hb] at e; exact R.g.ext _ _ e
  · by_cases hb : b = q
    · subst hb; exact .inr ⟨vs, hq⟩
    · rw [upd_ne hb]; exact R.g.gN b h1 h2 h3
  · obtain ⟨h1, h2⟩ := R.g.obs a ob e
    have na : a ≠ q := fun z => TupO.ob h1 ⟨vs, by rw [z]; exact hq⟩
    exact ⟨h1.mono x rfl, by rw [upd_ne na]; exact h2⟩
  · obtain ⟨v, h1, h2⟩ := R.frz i d e
    exact ⟨v, h1, h2.mono x⟩
  · obtain ⟨p, h1, h2, h3, h4, h5⟩ := R.own i d e
    have np : p ≠ q := fun z => TupO.ow h2 ⟨vs, by rw [z]; exact hq⟩
    exact ⟨p, h1, h2.mono x rfl, by rw [upd_ne np]; exact h3, h4, h5⟩
theorem Rel.tupAt (R : Rel K E F H σ S) (hq : H q = some (.tup vs)) : ∃ F', Rel K E F' H σ S ∧ Ext F F' ∧ F' q = some (.tup vs) := by
  cases e : F q with
  | none => exact ⟨_, R.addTup e hq, .new e, upd_same⟩
  | some o =>
    have := R.g.ext _ _ e
    rw [hq] at this
    cases this
    exact ⟨F, R, .refl _, e⟩
end
theorem reps_ofkeys {K : PySem.W.Frag} {F : Hp} : ∀ k : List Key, Reps K F (k.map kV) (k.map kD)
  | [] => .nil
  | a :: k => .cons (kD_rep a) (reps_ofkeys k)
/-- the dict is locked while the loop runs -/
def unl (a : Addr) (u : HO) (l : List (List Key × D)) (D : We) : We :=
  { nx := fun S => S.h a = some (lkuP u l) ∧ D.nx (S.ob a (muP l)), rt := fun d S => S.h a = some (lkuP u l) ∧ D.rt d (S.ob a (muP l)), bk := fun S => S.h a = some (lkuP u l) ∧ D.bk (S.ob a (muP l)), ct := fun S => S.h a = some (lkuP u l) ∧ D.ct (S.ob a (muP l)) }
def wForUL (a : Addr) (u : HO) (l : List (List Key × D)) (g : WG) (tb : WS) (T : We) : List (List Key) → Sg → Prop
  | [], S => S.h a = some (lkuP u l) ∧ T.nx S
  | k :: ks, S => S.h a = some (lkuP u l) ∧ g (.ktp (k.map kD)) S fun S1 => tb { T with nx := wForUL a u l g tb T ks, ct := wForUL a u l g tb T ks, bk := T.nx } S1
def wForU (j : Nat) (g : WG) (tb : WS) : WS := fun D S => ∃ a l, S.s[j]? = some (.f (.obj a)) ∧ S.h a = some (muP l) ∧ ∀ u, wForUL a u l g tb (unl a u l D) (l.map (·.1)) (S.ob a (lkuP u l))
section
variable {X : Cx} {Φ : En → Prop} {W : L2.WX} {e : Expr} {w : WE} {pos p : Pos}
theorem ds_forU {x : Str} {g : WG} {tg : Expr} {body : List Stmt} {tb : WS} (j : Nat) (h : PE X (.Name x p) (tVar j)) (hp : PassesOwn (model X.prog X.w) X.A X.env X.xe) (hc : X.calm = true) (hg : DG X Tr tg g) (hb : DSs X W body tb)
    (hs : ∀ y, foldedSetIterable (.Name x p) X.env y = pure y := by intro _; rfl) : DS X W (.For tg (.Name x p) body [] pos) (wForU j g tb) := fun E => PS.imp (ps_lock (ps_for hp hc (pi_keys h) (hg E trivial) (hb E) hs)) fun D σ H => by
  rintro ⟨S, F, R, hR, ⟨a, l, hj, ha, hw⟩, k1, k2, k3, k4, k5⟩
  obtain ⟨v0, h0, r0⟩ := hR.frz j _ hj
  cases r0
  obtain ⟨kvs, g1, g2⟩ := ob_mu (hR.g.obs _ _ ha).1
  refine ⟨a, .dT kvs, g1, True.intro, fun od => ?_⟩
  have len : kvs.length = l.length := g2.length
  replace hw := hw (.frz od (.dT kvs))
  have hR0 : Rel X.K E F (upd H a (.frz od (.dT kvs))) σ (S.ob a (lkuP (.frz od (.dT kvs)) l)) := hR.obput (by rw [ha]; simp) ⟨upd_same, od, kvs, rfl, g2.1, g2.2⟩
  have back : ∀ {S' F' H' σ'}, Rel X.K E F' H' σ' S' → Ext F F' → S'.h a = some (lkuP (.frz od (.dT kvs)) l) → H' a = some (.frz od (.dT kvs)) ∧ Rel X.K E F' (upd H' a (.dT kvs)) σ' (S'.ob a (muP l)) := fun R' x' h' => ⟨(R'.g.obs _ _ h').1.1, R'.obput (by rw [h']; simp) ⟨kvs, upd_same, g2.1, g2.2.mono x'⟩⟩
  refine ⟨_, h0, a, od, rfl, .inr ⟨kvs, upd_same, ?_⟩⟩
  obtain ⟨ks, hks⟩ : ∃ ks, ks = l.map (·.1) := ⟨_, rfl⟩
  have g21 : kvs.map (·.1) = ks := by rw [hks]; exact g2.1
  rw [← hks] at hw
  have lk : ks.length = kvs.length := by rw [hks, List.length_map, len]
  refine ⟨fun i m σ H => m + i = kvs.length ∧ ∃ F2 S2, Rel X.K E F2 H σ S2 ∧ Ext F F2 ∧ wForUL a (.frz od (.dT kvs)) l g tb (unl a (.frz od (.dT kvs)) l R) (ks.drop i) S2, ⟨kvs.length, rfl, F, _, hR0, .refl _, hw⟩, fun i m σ2 H2 hW => ?_⟩
  obtain ⟨hm, F2, S2, hR2, x2, hw2⟩ := hW
  by_cases hi : i < kvs.length
  · have hi' : i < ks.length := by omega
    rw [List.drop_eq_getElem_cons hi'] at hw2
    obtain ⟨ha2, hw2⟩ := hw2
    obtain ⟨q1, _⟩ := back hR2 x2 ha2
    refine .inr ⟨⟨q1, hi⟩, fun σ' H' => ∃ F3 S3, Rel X.K E F3 H' σ' S3 ∧ Ext F F3 ∧ wForUL a (.frz od (.dT kvs)) l g tb (unl a (.frz od (.dT kvs)) l R) (ks.drop (i + 1)) S3, fun σ' H' hN => ⟨m - 1, by omega, by omega, hN⟩, fun x H3 hy => ?_⟩
    obtain ⟨rfl, k, v, q, e1, rfl, e3⟩ := hy
    have ek : ks[i]'hi' = k := by
      have z : (kvs.map (·.1))[i]? = some k := by rw [List.getElem?_map, e1]; rfl
      rw [g21, List.getElem?_eq_getElem hi'] at z
      exact Option.some.inj z
    obtain ⟨F3, hR3, x3, f3⟩ := hR2.tupAt e3
    rw [ek] at hw2
    refine ⟨S2, F3, _, _, hR3, .ktp f3 (reps_ofkeys k), hw2, fun S4 σ4 F4 H4 hw4 hR4 x4 => ?_⟩
    have x14 : Ext F F4 := (x2.trans x3).trans x4
    refine ⟨S4, F4, _, hR4, hw4, fun S' σ' F' H' q r x => ⟨F', S', r, x14.trans x, q⟩, fun S' σ' F' H' q r x => ?_, fun S' σ' F' H' q r x => ⟨F', S', r, x14.trans x, q⟩, fun d S' v σ' F' H' q rv r' x => ?_, fun c fs S' cls dd σ' F' H' q _ _ => q.elim⟩
    · obtain ⟨z1, z2⟩ := back r (x14.trans x) q.1
      exact ⟨z1, k1 _ σ' F' _ q.2 z2 (x14.trans x)⟩
    · obtain ⟨z1, z2⟩ := back r' (x14.trans x) q.1
      exact ⟨z1, k4 d _ v σ' F' _ q.2 rv z2 (x14.trans x)⟩
  · rw [List.drop_eq_nil_of_le (by omega)] at hw2
    obtain ⟨ha2, hw2⟩ := hw2
    obtain ⟨q1, q2⟩ := back hR2 x2 ha2
    exact .inl ⟨⟨q1, by omega⟩, q1, k1 _ σ2 F2 _ hw2.2 q2 x2⟩
theorem call_tupK (X : Cx) : CallR X (.type "tuple") (fun xs H Q => ∃ p ys, xs = [.ref p] ∧ SqL X.K H p ys ∧ ∀ l, H l = none → Q (.ref l) (upd H l (.tup ys))) := CallR.any fun xs H Q => by
  rintro ⟨p, ys, e, h, k⟩
  exact ⟨_, call_tuple_of, p, ys, e, .inl ⟨h, k⟩⟩
theorem de_ktp (hg : Gl X "tuple") (hm : X.mg "tuple" = none) (he : DE X Φ e w) (h1 : starEach [e] X.env = [(false, eval e X.env)] := by rfl) : DE X Φ (.Call (.Name "tuple" p) [e] [] pos) (wKtp w) := fun E hE => PE.imp (pe_callTy (T := "tuple") (call_tupK X) hg hm (by decide +kernel) (pa_cons (he E hE) pa_nil h1) (he := h1) (hpl := by rfl)) fun σ H Q => by
  rintro ⟨S, F, R, hR, hw, k⟩
  refine ⟨S, F, _, hR, hw, fun d S1 v F1 H1 hw1 r1 hR1 x1 => ?_⟩
  obtain ⟨ds, rfl, q⟩ := hw1
  cases r1 with
  | lst ha hs =>
    rename_i a vs
    refine ⟨_, _, rfl, .of (hR1.g.ext _ _ ha), fun t ht => ?_⟩
    have al := Al.one (o := .tup vs) hR1.g.ext ht
    exact k _ S1 _ _ _ q (.ktp upd_same (hs.mono al.xF)) (hR1.al al) (x1.trans al.xF)
end
/-! ### len(d), d a dict with tuple keys -/
section
variable {X : Cx} {pins : List (Addr × Obj)} {σ : L2.St} {H : Hp} {s : Shared} {a : Addr} {A : Around} {E : Value → Shared → Prop} {kvs : List (List Key × V)}
theorem u_len {Q : Value → Shared → Prop} (I : Inv X pins σ H s) (e : Rd H a (.dT kvs)) (h : ∀ t s', Inv X pins σ H s' → Q (.int kvs.length t) s') : wpAny (model X.prog X.w) A (call (.builtin "len") [.ref a]) Q E s := by
  obtain ⟨z, hd, xs, rel, o, es, ep, h1, h2, h3, h4, h5⟩ := dt_rd I.hok e
  have hm : s.heap.DictRaw a es ep := ⟨o, h1, h2, h3⟩
  have hn : es.size = kvs.length := by
    have l1 : kvs.length = xs.length := Paired.length rel
    rw [← Array.length_toList, h4, List.length_map, l1]
  have hz : ((es.size : Nat) : Int) < 2 ^ 63 := by rw [hn]; rw [sizeLine_eq] at z; omega
  refine Calls.call_function_entry kind_len plain_len entry_len (args_len1 _) ?_
  unfold Builtin.«len»
  refine wpAny_bind (m := oneArg "len" _) (wpAny_pure ?_)
  refine wpAny_bind (m := callSpecial? (.ref a) (Str.ofString "__len__")) (wpAny_callSpecial?_slot (name := Str.ofString "__len__") hm.typeIs PySem.F.slot_dict_len (call_len_raw hd hm ?_))
  refine wpAny_bind (wpAny_holding (wpAny_pure (wpAny_bind (wpAny_letGo ?_))))
  show wpAny _ _ (if ((es.size : Nat) : Int) < 0 then _ else _) _ _ _
  rw [if_neg (by omega)]
  show wpAny _ _ (if ((es.size : Nat) : Int) ≥ 2 ^ 63 then _ else _) _ _ _
  rw [if_neg (by omega)]
  rw [hn]
  exact wpAny_bind (wpAny_mkInt (wpAny_pure ⟨_, rfl, h _ _ (I.tok _)⟩))
theorem cr_ulen : CallR X (.builtin "len") (fun vs H Q => ∃ (a : Addr) (kvs : List (List Key × V)), vs = [.ref a] ∧ Rd H a (.dT kvs) ∧ Q (.int kvs.length) H) := by
  intro pins s σ H vs us Q I r hq
  obtain ⟨a, kvs, rfl, ha, q⟩ := hq
  obtain rfl := Vals.ref1 r
  exact u_len I ha fun t s' I' => ⟨.int _, H, I', ⟨t, rfl⟩, q⟩
def wULen (w : WE) : WE := fun S R => w S fun x S1 => ∃ l, UDict x S1.h l ∧ R (.int l.length) S1
theorem de_ulen {Φ : En → Prop} {e : Expr} {p pos : Pos} {w : WE} (hg : Gl X "len") (hm : X.mg "len" = none) (he : DE X Φ e w) (h1 : starEach [e] X.env = [(false, eval e X.env)] := by rfl) : DE X Φ (.Call (.Name "len" p) [e] [] pos) (wULen w) := fun E hE => PE.imp (pe_callB cr_ulen hg hm (by decide +kernel) (pa_cons (he E hE) pa_nil h1) (he := h1) (hpl := by rfl)) fun σ H Q => by
  rintro ⟨S, F, R, hR, hw, k⟩
  refine ⟨S, F, _, hR, hw, fun x S1 v F1 H1 hw1 r1 hR1 x1 => ?_⟩
  obtain ⟨l, h2, q⟩ := hw1
  obtain ⟨a, kvs, rfl, h4, h5⟩ := h2.at_ hR1 r1 (.refl _)
  exact ⟨a, kvs, rfl, h4, k _ S1 _ F1 H1 (by rw [h5.length]; exact q) (.int _) hR1 x1⟩
end
end VL

set_option Elab.async false
set_option linter.all false
set_option maxRecDepth 100000
set_option maxHeartbeats 4000000
/-! VL17: a comprehension whose step may raise. -/
namespace VL
open PySem PySem.Spec PyProof.Rows L2
/-! ### the frames that are looked at are those of the def -/
theorem note_of {x : Value} {e f : Env} (h : e.frame = f.frame) : noteFrame x e = noteFrame x f := by
  unfold noteFrame PySem.frameOf
  rw [h]
/-- what a comprehension's block ends in; an exception passes on over the def's frame -/
def BlkEnd (Mo : Model) (Ar : Around) (Ex : Value → Shared → Prop) (Qv : Value → Shared → Prop) (w : Value) (ce : Env) (r : Result) (t : Shared) : Prop :=
  match r with
  | .ok _ => ∃ m, t.heap.Ns ce.locals m ∧ ∀ g, Heap.SameBut ce.locals t.heap g → Qv w { t with heap := g }
  | .error x => ∃ m, t.heap.Ns ce.locals m ∧ ∀ g, Heap.SameBut ce.locals t.heap g → ∀ f : Env, f.frame = ce.frame → wpAny Mo Ar (passOn "comprehension.variables-let-go" x f : Sem Value) (fun _ _ => False) Ex { t with heap := g }
theorem comp_rule {Mo : Model} {Ar : Around} {Ex : Value → Shared → Prop} {t : Shared} {en : Env} {ex : Expr} {sc : Scope} {ps : Pos} {mk fst : Sem Value} {gn : Comprehension} {rs : List Comprehension} {cs : List (Str × Addr)} {Qv : Value → Shared → Prop}
    (h1 : clausesOf ex = gn :: rs) (h2 : ∀ x, foldedSetIterable gn.iter en x = pure x) (h3 : closureFor sc en = pure cs)
    (h4 : sc.kind = .function) (h5 : ∀ y ∈ sc.names, y.2 = .local → sc.names.lookup y.1 = some .local)
    (hb : wpAny Mo Ar fst (fun x t1 => wpAny Mo Ar (pyIter x) (fun i t2 => wpAny Mo Ar mk (fun w t3 =>
      wpAny Mo Ar (newFunctionEnv sc en.globals cs [] en.qual none .none (some en)) (fun ce t4 =>
        codeAny Mo Ar (.compStart ex 0 i w { ce with scope := relabel sc en }) (BlkEnd Mo Ar Ex Qv w { ce with scope := relabel sc en }) t4) Ex t3) Ex t2) Ex t1) Ex t) :
    wpAny Mo Ar (comprehension ex sc en ps mk false fst none) Qv Ex t := by
  unfold comprehension
  rw [h3, h1]
  refine wpAny_bind (wpAny_mono hb (fun x t1 q1 => ?_) fun _ _ z => z)
  refine wpAny_bind (wpAny_standAt (wpAny_bind (wpAny_of_eq (h2 x) (wpAny_bind (wpAny_holding (wpAny_mono q1 (fun i t2 q2 => ?_) fun _ _ z => z))))))
  refine wpAny_standIf (wpAny_bind (wpAny_mono q2 (fun w t3 q3 => ?_) fun _ _ z => z))
  refine wpAny_bind (wpAny_pure (wpAny_bind (wpAny_mono q3 (fun ce t4 q4 => ?_) fun _ _ z => z)))
  dsimp only
  have own : ∀ y ∈ (sc.names.filter fun y => (y.2 == .local || y.2 == .cell) && y.1 != (".0" : Str)).reverse, y.2 = .local → Env.kindOf { ce with scope := relabel sc en } y.1 = some .local := fun y hy hl =>
    lookup_relabel_local (h5 y (List.mem_filter.mp (List.mem_reverse.mp hy)).1 hl)
  refine wpAny_holding (wpAny_bind (wpAny_attempt (wpAny_holding (wpAny_run (codeAny_mono q4 fun r t5 hr => ?_)))))
  cases r with
  | ok f =>
    obtain ⟨m, k1, k2⟩ := hr
    refine wpAny_bind (wpAny_holding ?_)
    exact wpAny_comp_letGo (cenv := { ce with scope := relabel sc en }) h4 _ t5 m own k1 fun g m' _ hg => wpAny_pure (k2 g hg)
  | error x =>
    obtain ⟨m, k1, k2⟩ := hr
    refine wpAny_bind (wpAny_holding ?_)
    exact wpAny_comp_letGo (cenv := { ce with scope := relabel sc en }) h4 _ t5 m own k1 fun g m' _ hg => wpAny_mono (k2 g hg _ rfl) (fun _ _ z => z.elim) fun _ _ z => z
/-! ### an exception that comes out of a call within the block -/
/-- what a call lets out is taken -/
def TakesF (X : Cx) (W : L2.WX) : Prop := ∀ (pins : List (Addr × Obj)) (σ : L2.St) (H : Hp) (s : Shared) (E : XK) (u : Value) (s' : Shared), Inv X pins σ H s → (∀ cls d H', E cls d H' → W cls d σ H') → CX X.prog X.w X.stack H s E u s' → X.xe u s'
/-- a block's context, with a wish about exceptions -/
abbrev blkX (X : Cx) (s : Shared) (H : Hp) (scope : Scope) (ce : Env) (fp : List Addr) (xe : Value → Shared → Prop) : Cx := { X.blk s H scope ce fp with xe := xe }
theorem ok_xe {X : Cx} {xe : Value → Shared → Prop} (o : X.Ok) : Cx.Ok { X with xe := xe } := by
  obtain ⟨a1, a2, a3, a4, a5, a6, a7, a8, a9, b1, b2, b3, b4, b5, b6, b7, b8, b9⟩ := o
  exact ⟨a1, a2, a3, a4, a5, a6, a7, a8, a9, b1, b2, b3, b4, b5, b6, b7, b8, b9⟩
theorem inv_xe {X : Cx} {xe : Value → Shared → Prop} {pins : List (Addr × Obj)} {σ : L2.St} {H : Hp} {s : Shared} (I : Inv X pins σ H s) : Inv { X with xe := xe } pins σ H s := by
  obtain ⟨a1, a2, a3, a4, a5, a6, a7, a8, a9, b1, b2⟩ := I
  exact ⟨ok_xe a1, a2, a3, a4, a5, a6, a7, a8, a9, b1, b2⟩
theorem inv_blk {X : Cx} {s0 : Shared} {H0 : Hp} {scope : Scope} {ce : Env} {fp : List Addr} {xe : Value → Shared → Prop} {pins : List (Addr × Obj)} {σ : L2.St} {H : Hp} {s : Shared} (I : Inv (blkX X s0 H0 scope ce fp xe) pins σ H s) : Inv (X.blk s0 H0 scope ce fp) pins σ H s := by
  obtain ⟨⟨c1, c2, c3, c4, c5, c6, c7, c8, c9, d1, d2, d3, d4, d5, d6, d7, d8, d9⟩, a2, a3, a4, a5, a6, a7, a8, a9, b1, b2⟩ := I
  exact ⟨⟨c1, c2, c3, c4, c5, c6, c7, c8, c9, d1, d2, d3, d4, d5, d6, d7, d8, d9⟩, a2, a3, a4, a5, a6, a7, a8, a9, b1, b2⟩
/-- in the air of X: it flies -/
theorem fly_of {X : Cx} {pins : List (Addr × Obj)} {σ : L2.St} {H : Hp} {s s' : Shared} {E : XK} {u : Value} (I : Inv X pins σ H s) (c : CX X.prog X.w X.stack H s E u s') :
    ∃ (a : Addr) (B : Heap) (sI : Shared) (pins' : List (Addr × Obj)) (σ' : L2.St) (H' : Hp) (cls : Value) (d : Option Addr), u = .ref a ∧ Inv X pins' σ' H' sI ∧ (∀ b o, sI.heap.get? b = some o → b ∉ frs X.stack → B.get? b = some o) ∧ sI.heap.UpToSlots s'.heap ∧
      HandSPX.FlyingZ B X.stack a (Zc cls d) s'.heap ∧ H' a = none ∧ s'.os = sI.os ∧ AllBare s'.gens ∧ E cls d H' := by
  obtain ⟨a, B, sI, pins', σ', H', cls, d, e, I', nb, up, sky, na, os, ag, w⟩ := XE.of_call (W := fun cls d _ H' => E cls d H') I (fun _ _ _ h => h) c
  obtain ⟨a0, B0, H0, cls0, d0, e0, fl, _⟩ := c
  rw [e] at e0
  cases e0
  refine ⟨a, B, sI, pins', σ', H', cls, d, e, I', nb, up, ?_, na, os, ag, w⟩
  obtain ⟨_, _, _, oe, vs, T, oT, ts, he, hz, hd, h1, hnT, hTe, hT, hdT, h3⟩ := fl
  rcases sky with ⟨_, _, _, oe', vs', he', _, hd', h1'⟩ | z | ⟨_, _, _, oe', vs', T', oT', ts', he', _, hd', h1', _, _, hT', hdT', h3'⟩
  · rw [he] at he'; cases he'
    rw [hd] at hd'; cases hd'
    rw [h1] at h1'; cases h1'
  · exact z
  · rw [he] at he'; cases he'
    rw [hd] at hd'; cases hd'
    rw [h1] at h1'; cases h1'
    rw [hT] at hT'; cases hT'
    rw [hdT] at hdT'; cases hdT'
    rw [h3] at h3'; cases h3'
/-- the ground without the block's names -/
theorem held_less {B h g : Heap} {l : List Env} {a C : Addr} {Z : Obj → Prop} {fl : Value} {m : Str → Option Value} (st : B.StaysIn h) (fr : h.FunFrames B l) (tz : HandSPX.TracedZ h B a Z fl) (hC : h.Ns C m) (hl : C ∉ frs l) (sb : Heap.SameBut C h g) :
    (PySem.W.hideAll B [C]).StaysIn g ∧ g.FunFrames (PySem.W.hideAll B [C]) l ∧ HandSPX.TracedZ g (PySem.W.hideAll B [C]) a Z fl := by
  have less : ∀ b o, (PySem.W.hideAll B [C]).get? b = some o → B.get? b = some o ∧ b ≠ C := fun b o e => by
    refine ⟨PySem.W.of_hideAll _ e, fun z => ?_⟩
    rw [PySem.W.hideAll_none [C] (by rw [z]; exact List.mem_cons_self)] at e
    cases e
  obtain ⟨oC, es, ep, eC, dC, _⟩ := hC
  obtain ⟨oe, vs, T, oT, ts, he, hz, hd, h1, hnT, hTe, hT, hdT, h3⟩ := tz
  have na : a ≠ C := fun z => by
    rw [z, eC] at he; cases he
    rw [dC] at hd; cases hd
  have nT : T ≠ C := fun z => by
    rw [z, eC] at hT; cases hT
    rw [dC] at hdT; cases hdT
  have none_of : ∀ b, B.get? b = none → (PySem.W.hideAll B [C]).get? b = none := fun b e => by
    cases q : (PySem.W.hideAll B [C]).get? b with
    | none => rfl
    | some o => rw [(less b o q).1] at e; cases e
  refine ⟨fun b o e => ?_, ?_, oe, vs, T, oT, ts, (sb.2 a na).trans he, hz, hd, h1, none_of T hnT, hTe, (sb.2 T nT).trans hT, hdT, h3⟩
  · obtain ⟨e1, e2⟩ := less b o e
    exact (sb.2 b e2).trans (st b o e1)
  · have go : ∀ l : List Env, h.FunFrames B l → C ∉ frs l → g.FunFrames (PySem.W.hideAll B [C]) l := by
      intro l
      induction l with
      | nil => intro _ _; trivial
      | cons en r ih =>
        rintro ⟨k1, ⟨L, o, k2, k3, k4, k5⟩, k6⟩ hn
        have nL : L ≠ C := fun z => hn (List.mem_filterMap.mpr ⟨en, List.mem_cons_self, z ▸ k2⟩)
        refine ⟨k1, ⟨L, o, k2, none_of L k3, (sb.2 L nL).trans k4, k5⟩, ih k6 fun z => hn ?_⟩
        obtain ⟨e', h', q'⟩ := List.mem_filterMap.mp z
        exact List.mem_filterMap.mpr ⟨e', List.mem_cons_of_mem _ h', q'⟩
    exact go l fr hl
/-- it leaves the block, and is in the air of the def -/
theorem blk_out {X : Cx} {s0 : Shared} {H0 : Hp} {scope : Scope} {cl : List (Str × Addr)} {C : Addr} {fp : List Addr} {xe : Value → Shared → Prop} {W : L2.WX} {pins p0 : List (Addr × Obj)} {σ σ1 : L2.St} {H1 : Hp} {s1 s2 : Shared} {E : XK} {u w : Value} {Qv : Value → Shared → Prop}
    (hs : X.stack = X.env :: X.outer) (hf : X.env.frame = some X.env.locals) (tk : Takes X W) (I0 : Inv X pins σ H0 s0) (hC : C = s0.heap.objs.size)
    (hfp : ∀ b ∈ fp, FpOk X pins H0 b)
    (J : Inv (blkX X s0 H0 scope (compEnvC scope cl C X.env) fp xe) p0 σ1 H1 s1) (hE : ∀ cls d H', E cls d H' → W cls d σ H')
    (c : CX X.prog X.w X.stack H1 s1 E u s2) :
    notedBy (model X.prog X.w) X.A (compEnvC scope cl C X.env) (fun e t => BlkEnd (model X.prog X.w) X.A X.xe Qv w (compEnvC scope cl C X.env) (.error e) t) u s2 := by
  obtain ⟨a, B, sI, p1, σI, H2, cls, d, rfl, II, nb, up, fl, na, os, ag, w1⟩ := fly_of J c
  have II := inv_blk II
  have hst : X.stack = X.env :: X.outer := hs
  have nC : H2 C = none := II.free
  obtain ⟨mC, NC, _⟩ := II.loc
  have NC : sI.heap.Ns C mC := NC
  have I7 : Inv X pins σ H2 sI := I0.call' (ch := fp) II.os II.base II.hok II.bare fun b hb => ⟨(hfp b hb).2.2.2.1, (hfp b hb).2.1, (hfp b hb).2.2.2.2.1, (hfp b hb).2.2.2.2.2⟩
  have fC : FpOk X pins H2 C := I0.fpOk (Nat.le_of_eq hC.symm) nC
  have Cst : C ∉ frs X.stack := fun hm => by
    rw [hs] at hm
    rcases List.mem_cons.mp (show C ∈ X.env.locals :: frs X.outer from by unfold frs at hm ⊢; rw [List.filterMap_cons, hf] at hm; exact hm) with z | z
    · exact fC.2.1 z
    · exact fC.2.2.1 z
  have gone : ∀ b o, (PySem.W.hideAll sI.heap [C]).get? b = some o → sI.heap.get? b = some o ∧ b ≠ C := fun b o e => by
    refine ⟨PySem.W.of_hideAll _ e, fun z => ?_⟩
    rw [PySem.W.hideAll_none [C] (by rw [z]; exact List.mem_cons_self)] at e
    cases e
  have I8 : Inv X pins σ H2 { sI with heap := PySem.W.hideAll sI.heap [C], toks := sI.toks } :=
    I7.turned (t' := sI.toks) (fun b o hb e => PySem.W.hideAll_get [C] e (by simpa using hb)) fC.1 fC.2.1 fC.2.2.2.1 fC.2.2.2.2.1 fC.2.2.2.2.2
  unfold notedBy
  rw [note_of (f := X.env) (show (compEnvC scope cl C X.env).frame = X.env.frame from rfl)]
  have hfr : X.A.frames = some (X.env :: X.outer) := by rw [I0.ok.frames, hs]
  rw [hs] at fl
  refine HandSPX.looks_onZ Zc.steady hfr hf fl fun h3 hh up3 => ?_
  obtain ⟨z1, z2, z3, z4⟩ := hh
  have NC3 : h3.Ns C mC := up3.ns (up.ns NC)
  refine ⟨mC, NC3, fun g sb f hff => ?_⟩
  obtain ⟨y1, y2, y3⟩ := held_less z1 z3 z4 NC3 (by rw [← hs]; exact Cst) sb
  have hff : f.frame = some X.env.locals := hff.trans hf
  obtain ⟨oe, vs, T, oT, ts, he, hz, hd, h1, _⟩ := id y3
  unfold PySem.passOn
  refine wpAny_bind (wpAny_field he hd h1 ?_)
  rw [if_neg (show ¬ ((Value.ref T == Value.none) = true) from by simp)]
  have fin : wpAny (model X.prog X.w) X.A (setFlight (.ref a) f.frame) (fun _ t4 => wpAny (model X.prog X.w) X.A (throw (.ref a) : Sem Value) (fun _ _ => False) X.xe t4) X.xe { s2 with heap := g } := by
    refine HandSPX.setFlight_anyZ (s := { s2 with heap := g }) y1 y2 y3 fun h5 k1 k2 k3 k4 => wpAny_throw (tk _ _ ?_)
    refine ⟨a, PySem.W.hideAll B [C], { sI with heap := PySem.W.hideAll sI.heap [C], toks := sI.toks }, pins, σ, H2, cls, d, rfl, I8, fun b o e hb => ?_, fun b o e hn => ?_, .inr (.inr ?_), na, os, ag, hE _ _ _ w1⟩
    · obtain ⟨e1, e2⟩ := gone b o e
      exact PySem.W.hideAll_get [C] (nb b o e1 hb) (by simpa using e2)
    · obtain ⟨e1, e2⟩ := gone b o e
      obtain ⟨sl, q⟩ := (up.trans up3) b o e1 hn
      obtain ⟨sl2, q2⟩ := k4 b _ ((sb.2 b e2).trans q) hn
      exact ⟨sl2, q2⟩
    · rw [hs]
      refine ⟨k1, ?_, k2, by rw [hff] at k3; exact k3⟩
      cases q : (PySem.W.hideAll B [C]).get? a with
      | none => rfl
      | some o => rw [PySem.W.of_hideAll _ q] at z2; cases z2
  first
    | exact wpAny_bind (wpAny_pure (wpAny_bind fin))
    | exact wpAny_bind fin

section
variable {X : Cx} {pins : List (Addr × Obj)} {σ : L2.St} {H : Hp} {Q : VK} {elt tg iter : Expr} {ifs : List Expr} {scope : Scope} {own : List (Str × Nat)} {pos pos' : Pos} {wi : TI} {g : TG} {tt : TT} {te : L2.WX → TE} {W : L2.WX}
/-- the comprehension, its step may raise -/
theorem pe_lcX (calm : X.calm = true) (nd : X.N.Nodup) (hs0 : X.stack = X.env :: X.outer) (hf0 : X.env.frame = some X.env.locals) (tk : Takes X W) (pi : PI X tg iter wi) (ok : BlkOk X.N X.env.scope scope own)
    (pg : ∀ (s : Shared) (H : Hp) (C : Addr) (cl : List (Str × Addr)) (fp : List Addr), PG (X.blk s H scope (compEnvC scope cl C X.env) fp) tg g) (pt : ∀ (s : Shared) (H : Hp) (C : Addr) (cl : List (Str × Addr)) (fp : List Addr), PTs (X.blk s H scope (compEnvC scope cl C X.env) fp) ifs tt)
    (pe : ∀ (s : Shared) (H : Hp) (C : Addr) (cl : List (Str × Addr)) (fp : List Addr) (xe : Value → Shared → Prop) (W' : L2.WX), TakesF (blkX X s H scope (compEnvC scope cl C X.env) fp xe) W' → PE (blkX X s H scope (compEnvC scope cl C X.env) fp xe) elt (te W'))
    (fs : ∀ x, foldedSetIterable iter X.env x = pure x := by intro _; rfl) :
    PE X (.ListComp elt [⟨tg, iter, ifs, 0⟩] scope pos) (fun σ H Q => tLc wi g tt (te fun c d _ H' => W c d σ H') (own.map (·.2)) σ H Q) := by
  refine ⟨fun pins s σ H Q I tl => ?_⟩
  rw [eval_ListComp]
  have caps : ∀ y ∈ scope.names, y.2 = .free → ∃ c, X.env.cells.lookup y.1 = some c := fun y hy e => I.ok.has _ (ok.free y hy e)
  refine comp_rule rfl fs (closure_ok caps) ok.kind (fun y hy e => (ok.uniq y hy).trans (by rw [e])) ?_
  refine thn (pi.run pins s σ H _ I tl) fun xv s1 hx => thn hx fun itv s2 h2 => ?_
  obtain ⟨it, fp, tn, J, Hi, eit, Ii, Tn, sti, fpi, rest⟩ := h2
  subst eit
  refine wpAny_newObj_type (newEnv_comp ?_) (by show (0 : Nat) ≤ sizeLine; decide)
  generalize eD : s2.heap.objs.size = D
  have freeD : Hi D = none := Ii.hok.fresh (Nat.le_of_eq eD)
  obtain ⟨Wv, ⟨m0, w0⟩, turn⟩ := rest D freeD
  generalize es3 : ({ s2 with heap := s2.heap.push { cls := .type "list", data := .seq ([] : List Value).toArray } } : Shared) = s3
  have hp3 : s3.heap = s2.heap.push { cls := .type "list", data := .seq ([] : List Value).toArray } := by rw [← es3]
  have Il : Inv X pins σ (upd Hi D (.lst [])) s3 := by
    rw [← es3]
    refine Ii.laid (t' := s2.toks) (fun b o q => Heap.get?_push_of_some _ q) (Nat.le_of_eq eD) ⟨Nat.zero_le _, [], 0, .nil, ?_⟩
    rw [← eD]
    exact Heap.get?_push_size _ rfl
  have fpl : ∀ b ∈ fp, FpOk X pins (upd Hi D (.lst [])) b ∧ b < s3.heap.objs.size := fun b hb => by
    obtain ⟨o, q, _⟩ := Tn.obj _ _ sti b hb
    have lt := Heap.lt_size q
    have ne : b ≠ D := fun z => by rw [z, ← eD] at lt; exact Nat.lt_irrefl _ lt
    refine ⟨⟨(upd_ne ne).trans (fpi b hb).1, (fpi b hb).2⟩, ?_⟩
    rw [hp3, Heap.size_push]
    exact Nat.lt_succ_of_lt lt
  have stl : tn 0 s3.heap := Tn.keep _ _ _ sti fun b _ o q => by rw [hp3]; exact Heap.get?_push_of_some _ q
  have Ib := block_start Il ok nd fpl
  have pgB := pg s3 (upd Hi D (.lst [])) s3.heap.objs.size (cellsFrom (s3.heap.objs.size + 1) scope.names (cloFrom X.env.cells scope.names [])) fp
  have ptB := pt s3 (upd Hi D (.lst [])) s3.heap.objs.size (cellsFrom (s3.heap.objs.size + 1) scope.names (cloFrom X.env.cells scope.names [])) fp
  have peB := pe s3 (upd Hi D (.lst [])) s3.heap.objs.size (cellsFrom (s3.heap.objs.size + 1) scope.names (cloFrom X.env.cells scope.names [])) fp
    (notedBy (model X.prog X.w) X.A (compEnvC scope (cellsFrom (s3.heap.objs.size + 1) scope.names (cloFrom X.env.cells scope.names [])) s3.heap.objs.size X.env) (fun e t => BlkEnd (model X.prog X.w) X.A X.xe (EP X pins σ Q) (.ref D) (compEnvC scope (cellsFrom (s3.heap.objs.size + 1) scope.names (cloFrom X.env.cells scope.names [])) s3.heap.objs.size X.env) (.error e) t))
    (fun c d _ H' => W c d σ H')
    (fun p1 σ1 H1 s1 E u s2 J1 hE c => blk_out (pins := pins) (σ := σ) hs0 hf0 tk Il rfl (fun b hb => (fpl b hb).1) J1 hE c)
  show codeAny _ _ (.compStart (.ListComp elt [⟨tg, iter, ifs, 0⟩] scope pos) 0 (.ref it) (.ref D) (compEnvC scope (cellsFrom (s3.heap.objs.size + 1) scope.names (cloFrom X.env.cells scope.names [])) s3.heap.objs.size X.env))
    (BlkEnd (model X.prog X.w) X.A X.xe (EP X pins σ Q) (.ref D) (compEnvC scope (cellsFrom (s3.heap.objs.size + 1) scope.names (cloFrom X.env.cells scope.names [])) s3.heap.objs.size X.env)) { s3 with heap := pushCells (s3.heap.push { cls := .type "dict", data := .dict #[] }) scope.names }
  have nofp : ∀ b ∈ fp, (upd Hi D (.lst [])) b = none := fun b hb => (fpl b hb).1.1
  generalize ece : compEnvC scope (cellsFrom (s3.heap.objs.size + 1) scope.names (cloFrom X.env.cells scope.names [])) s3.heap.objs.size X.env = ce at Ib pgB ptB peB ⊢
  have lC : ce.locals = s3.heap.objs.size := by subst ece; rfl
  generalize eH3 : upd Hi D (.lst []) = H3 at Il Ib pgB ptB peB w0 nofp fpl
  generalize es4 : ({ s3 with heap := pushCells (s3.heap.push { cls := .type "dict", data := .dict #[] }) scope.names } : Shared) = s4 at Ib ⊢
  have st4 : tn 0 s4.heap := Tn.keep _ _ _ stl fun b _ o q => by rw [← es4]; exact pushCells_keeps _ _ _ _ (Heap.get?_push_of_some _ q)
  have still : ∀ {τ : L2.St} {K' : Hp} {r' : Shared}, Inv (X.blk s3 H3 scope ce fp) [] τ K' r' → (∀ b ∈ fp, K' b = none) → ∀ b ∈ fp, FpOk (X.blk s3 H3 scope ce fp) [] K' b := fun {τ K' r'} Iz nz b hb =>
    ⟨nz b hb, (Iz.ok.exf b hb).1, Iz.ok.exfs b hb, .inl hb, fun x c q => (Iz.ok.exf b hb).2 x c q, fun p hp => absurd (show p ∈ ([] : List (Addr × Obj)) ++ [] from hp) (by simp)⟩
  have loop : codeAny (model X.prog X.w) X.A (.compLoop (.ListComp elt [⟨tg, iter, ifs, 0⟩] scope pos) 0 (.ref it) (.ref D) ce) (BlkEnd (model X.prog X.w) X.A X.xe (EP X pins σ Q) (.ref D) ce) s4 := by
    refine compLoop_any (fun n t => ∃ i K', Inv (X.blk s3 H3 scope ce fp) [] (L2.wipe σ (own.map (·.2))) K' t ∧ tn i t.heap ∧ (∀ b ∈ fp, K' b = none) ∧ Wv i n K') ?_ m0 ⟨0, H3, Ib, st4, nofp, w0⟩
    rintro n s5 ⟨i, H5, I5, st5, n5, w5⟩
    rcases turn i n H5 w5 with ⟨stop, fin⟩ | ⟨go, Nx, hNx, step⟩
    · refine thnF (Tn.done (X.blk s3 H3 scope ce fp) rfl rfl rfl calm i [] s5 _ H5 (fun _ _ => False) I5 (still I5 n5) st5 stop) fun r s6 hr => ?_
      obtain ⟨er, I6⟩ := hr
      subst er
      have back : Inv X pins σ H5 s6 := Il.call' (ch := fp) I6.os I6.base I6.hok I6.bare fun b hb => ⟨(fpl b hb).1.2.2.2.1, (fpl b hb).1.2.1, (fpl b hb).1.2.2.2.2.1, (fpl b hb).1.2.2.2.2.2⟩
      have noC : H5 s3.heap.objs.size = none := by
        have z : H5 ce.locals = none := I6.free
        rwa [lC] at z
      obtain ⟨m, nsC, _⟩ := I6.loc
      obtain ⟨f0, f1, f2, f3, f4, f5⟩ := Il.fpOk (Nat.le_refl _) noC
      refine ⟨m, nsC, fun hg sb => ⟨.ref D, H5, ?_, rfl, fin⟩⟩
      rw [lC] at sb
      exact back.turned (t' := s6.toks) (fun b o hb q => (sb.2 b hb).trans q) f0 f1 f3 f4 f5
    · refine thnF (Tn.item (X.blk s3 H3 scope ce fp) rfl rfl rfl calm i [] s5 _ H5 (fun _ _ => False) I5 (still I5 n5) st5 go) fun r s6 hr => ?_
      obtain ⟨u, er, h6⟩ := hr
      subst er
      refine thnF h6 fun _ s7 h7 => ?_
      obtain ⟨x, H7, I7, r7, y7, st7, n7⟩ := h7
      have I7p := I7.pinned (still I7 n7) (Tn.obj _ _ st7)
      refine thnF (pgB.run _ s7 _ H7 x u _ I7p r7 (step x H7 y7)) fun _ s8 h8 => ?_
      obtain ⟨σ8, H8, I8, hw8, q8⟩ := h8
      refine thnF (ptB.run _ s8 σ8 H8 _ I8 q8) fun b s9 h9 => ?_
      obtain ⟨H9, I9, q9⟩ := h9
      have next : ∀ {t : Shared} {K' : Hp}, Inv (X.blk s3 H3 scope ce fp) ([] ++ pinsAt fp s7.heap) σ8 K' t → Nx K' → ∃ m, m < n ∧ ∃ i K', Inv (X.blk s3 H3 scope ce fp) [] (L2.wipe σ (own.map (·.2))) K' t ∧ tn i t.heap ∧ (∀ b ∈ fp, K' b = none) ∧ Wv i m K' := fun {t K'} It nx => by
        obtain ⟨m', lt, w'⟩ := hNx K' nx
        have held : ∀ b ∈ fp, ∀ o, s7.heap.get? b = some o → t.heap.get? b = some o ∧ K' b = none := fun b hb o q =>
          let z := It.pin (b, o) (List.mem_append_right _ (List.mem_append_right _ (mem_pinsAt hb q)))
          ⟨z.1, z.2.1⟩
        refine ⟨m', lt, i + 1, K', (It.unpinned (pins := [])).weak (by rw [← hw8, L2.wipe_length]) (fun j v q => ?_), Tn.keep _ _ _ st7 fun b hb o q => (held b hb o q).1, fun b hb => ?_, w'⟩
        · rw [← hw8] at q
          exact (L2.wipe_some q).1
        · obtain ⟨o, q, _⟩ := Tn.obj _ _ st7 b hb
          exact (held b hb o q).2
      cases b with
      | false =>
        simp only [Bool.false_eq_true, if_false] at q9 ⊢
        exact next I9 q9
      | true =>
        simp only [if_true] at q9 ⊢
        refine thn (peB.run _ s9 σ8 H9 _ (inv_xe I9) q9) fun z s10 h10 => ?_
        obtain ⟨yv, H10, I10, r10, acc, hD10, hz10, nx⟩ := h10
        exact app_ok (X := X.blk s3 H3 scope ce fp) (inv_blk I10) hD10 hz10 r10 fun s11 I11 => next I11 nx
  exact codeAny_compStart_list loop (Tn.self X.A 0 _ _ _ st4 loop)
end

/-! ### over plain data -/
section
variable {X : Cx} {Φ : En → Prop} {k n : Nat} {f : Addr} {fd : FuncData} {ps : List Str} {spc : Spc} {x : Str} {p pos : Pos} {e : Expr} {es : List Expr} {ws : WA} {W : L2.WX} {xx : Str → List (Str × D) → Sg → Prop}
/-- a call that may raise, within a block -/
theorem de_callF (F : FnOk X.prog X.w X.K X.mg X.base (L2.CX X.prog X.w) k f fd ps (spOfX X.K n spc)) (tk : TakesF X W) (hx : ∀ E, Φ E → Px X.K W xx E) (hr : Room k X.A) (hg : Gl X x) (hm : X.mg x = some (.ref f)) (hk : PySem.W.keepIn X.K (.ref f) = true) (hb : Binds X.K fd ps []) (ha : DA X Φ (e :: es) n ws)
    (hdb : (x == ("__debug__" : Str)) = false := by decide) (he : starEach (e :: es) X.env = (false, eval e X.env) :: starEach es X.env := by rfl) (hpl : (backTo pos (starEach es X.env)).any (·.1) = false := by rfl) :
    DE X Φ (.Call (.Name x p) (e :: es) [] pos) (wCallX spc ws xx) := fun E hE => PE.imp (pe_callS F hr hg hm hk hb (fun σ => fun pins H s e' s' I c => tk pins σ H s (L2.WE W σ) e' s' I (fun _ _ _ h => h) c) (ha E hE) hdb he hpl) fun σ H Q => by
  rintro ⟨S, F, R, hR, hw, k⟩
  refine ⟨S, F, _, hR, hw, fun ds S1 vs F1 H1 hw1 l1 r1 hR1 x1 => ?_⟩
  exact ⟨F1, ds, S1.h, _, _, l1, hR1.g.ext, r1, hR1.g.obs, hw1, fun r h' v F' H' hr rv g => k r _ v F' H' hr rv (hR1.after g) (x1.trans g.gF), fun c fs h' F' H' cls dd hy ax g => hx E hE c fs _ cls dd σ F' H' hy ax (hR1.after g)⟩
end
def noOwnA (s : List Sl) : Bool := s.all fun v => match v with
  | .o _ => false
  | _ => true
theorem noOwnA_get {s : List Sl} (h : noOwnA s = true) {i : Nat} {d : D} : s[i]? ≠ some (.o d) := fun e => by
  have := List.all_eq_true.mp h _ (List.mem_of_getElem? e)
  cases this
theorem noOwnA_vs {s : List Sl} (h : noOwnA s = true) (vs : List Nat) : noOwn s vs = true := by
  refine List.all_eq_true.mpr fun v _ => ?_
  cases e : s[v]? with
  | none => rfl
  | some x => cases x with
    | o d => exact absurd e (noOwnA_get h)
    | f d => rfl
    | u => rfl
/-- a comprehension whose step may raise -/
def wLcX (wi : WA) (g : WG) (tt : WT) (te : (Str → List (Str × D) → Sg → Prop) → WE) (vs : List Nat) (xx : Str → List (Str × D) → Sg → Prop) : WE := fun S R => wi S fun ds S1 => noOwnA S1.s = true ∧ ds.length ≤ 1000000 ∧
  wLcL g tt (te fun c fs S3 => xx c fs ⟨S1.s, S3.h⟩) vs S1.s (fun acc h => R (.lst acc) ⟨S1.s, h⟩) ds S1.h []
section
variable {X : Cx} {K : PySem.W.Frag} {E : En} {F F' F2 H H' H2 : Hp} {σ σ' : L2.St} {S : Sg} {vs : List Nat}
/-- behind a block that an exception leaves -/
theorem Rel.backX {S3 : Sg} {E' : En} (R : Rel K E F H σ S) (no : noOwnA S.s = true) (xF : Ext F F') (hE : E'.h = S.h) (ho : ∀ q, ¬ E'.ow q) (hF : E'.F = F2) (hH : E'.H = H2) (R3 : Rel K E' F' H' σ' S3) (gr : Gr K E F2 H2 S.h) : Rel K E F' H' σ ⟨S.s, S3.h⟩ := by
  obtain ⟨EF, EH, Eh, Eo⟩ := E'
  cases hF; cases hH; cases hE
  refine ⟨Gr.then gr (fun p hp => absurd hp (ho p)) R3.g, R.len, fun i d h => ?_, fun i d h => absurd h (noOwnA_get no), fun i j d e p h1 _ _ _ => absurd h1 (noOwnA_get no)⟩
  obtain ⟨v, h1, h2⟩ := R.frz i d h
  exact ⟨v, h1, h2.mono xF⟩
def LEXx (K : PySem.W.Frag) (W : L2.WX) (te : (Str → List (Str × D) → Sg → Prop) → WE) : TE := fun σ H Q => ∃ E xx, Px K W xx E ∧ LE K E (te xx) σ H Q
variable {p : Addr} {o : HO} {d : D} {v : V} {i : Nat}
theorem lcx_read {wi : WA} {gt : TG} {g : WG} {tt : WT} {te : (Str → List (Str × D) → Sg → Prop) → WE} {xx : Str → List (Str × D) → Sg → Prop} {W : L2.WX} {Q : VK} (ht : TgN K gt g vs) (hx : Px K W xx E) (hq : LN K E (wLcX wi g tt te vs xx) σ H Q) : tLc (LI K E wi) gt (LTx K tt) (LEXx K (fun c d _ H' => W c d σ H') te) vs σ H Q := by
  obtain ⟨S, F, R, hR, hw, k⟩ := hq
  refine ⟨S, F, _, hR, hw, fun ds S1 J F1 H1 hw1 fd hR1 x1 D0 hD => ?_⟩
  obtain ⟨noA, hl, hw1⟩ := hw1
  have no := noOwnA_vs noA vs
  obtain ⟨f0, hR1'⟩ := fresh_of hR1 hD (K := K) (E := E) (F := F1) (vs := []) (ds := []) .nil
  refine ⟨fun i m H => m + i = ds.length ∧ ∃ F2 h2 acc, Rel K E F2 H σ ⟨S1.s, h2⟩ ∧ Ext F1 F2 ∧ Fresh K E F2 H σ ⟨S1.s, h2⟩ D0 (.lst acc) ∧ acc.length ≤ i ∧ wLcL g tt (te fun c fs S3 => xx c fs ⟨S1.s, S3.h⟩) vs S1.s (fun acc h => R (.lst acc) ⟨S1.s, h⟩) (ds.drop i) h2 acc,
    ⟨ds.length, rfl, F1, S1.h, [], hR1', .refl _, f0, Nat.le_refl _, hw1⟩, fun i m H2 hW => ?_⟩
  obtain ⟨hm, F2, h2, acc, hR2, x2, f2, la, hw2⟩ := hW
  obtain ⟨go, stop⟩ := fd F2 H2 x2 hR2.g.ext
  by_cases hi : i < ds.length
  · have hd : ds[i]? = some ds[i] := List.getElem?_eq_getElem hi
    obtain ⟨g1, g2⟩ := go i _ hd
    rw [List.drop_eq_getElem_cons hi] at hw2
    refine .inr ⟨g1, fun H' => ∃ F3 h3 acc', Rel K E F3 H' σ ⟨S1.s, h3⟩ ∧ Ext F1 F3 ∧ Fresh K E F3 H' σ ⟨S1.s, h3⟩ D0 (.lst acc') ∧ acc'.length ≤ i + 1 ∧ wLcL g tt (te fun c fs S3 => xx c fs ⟨S1.s, S3.h⟩) vs S1.s (fun acc h => R (.lst acc) ⟨S1.s, h⟩) (ds.drop (i + 1)) h3 acc', fun H' hN => ⟨m - 1, by omega, by omega, hN⟩, fun x H3 hy => ?_⟩
    obtain ⟨F3, al, rx⟩ := g2 x H3 hy
    have hR3 := hR2.al al
    have hRw := (hR3.wipe vs).enter
    refine ht _ x (L2.wipe σ vs) _ F3 H3 _ _ _ hRw rx hw2 fun σ4 S4 hR4 hσ4 hw4 => ?_
    have hσ4' : L2.wipe σ4 vs = L2.wipe σ vs := hσ4.trans (wipe_wipe fun _ h => h)
    refine ⟨hσ4', _, S4, F3, _, hR4, hw4, fun b S5 F5 H5 hw5 hR5 x5 => ?_⟩
    have nown : ¬ owns (L2.wipe σ vs) ⟨wipeS S1.s vs, h2⟩ D0 := fun ⟨j, e, q1, q2⟩ => by
      have hj : j ∉ vs := fun z => by cases wipeS_in z q1
      have q1' : (wipeS S1.s vs)[j]? = some (.o e) := q1
      rw [wipeS_get hj] at q1'
      rw [wipe_get hj] at q2
      exact f2.no j e q1' q2
    have hD3 : ∃ u, H3 D0 = some u := Option.ne_none_iff_exists'.mp (by rw [al.xH.ne f2.at_.there]; exact f2.at_.there)
    obtain ⟨u, hu⟩ := hD3
    have fin : ∀ F6 H6 S6, Rel K ⟨F3, H3, h2, owns (L2.wipe σ vs) ⟨wipeS S1.s vs, h2⟩⟩ F6 H6 σ4 S6 → Ext F3 F6 → wipeS S6.s vs = wipeS S1.s vs → Rel K E F6 H6 σ ⟨S1.s, S6.h⟩ ∧ Fresh K E F6 H6 σ ⟨S1.s, S6.h⟩ D0 (.lst acc) := fun F6 H6 S6 hR6 x6 hs6 => by
      have hR7 := hR3.back (S3 := S6) no hs6 hσ4' x6 hR6 hR3.g
      have e6 : H6 D0 = some u := hR6.g.gH D0 u hu f2.nh nown
      have n3 : F3 D0 = none := (al.new D0 f2.nF f2.at_.there).elim id fun z => (TupO.ow f2.at_ z).elim
      have n6 : F6 D0 = none := (hR6.g.gN D0 n3 (by show H3 D0 ≠ none; rw [hu]; simp) nown).elim id fun z => (TupO.ow f2.at_ (by rw [e6, ← hu, al.xH.ne f2.at_.there] at z; exact z)).elim
      have h6 : S6.h D0 = none := by
        cases q : S6.h D0 with
        | none => rfl
        | some y =>
          rcases hR6.g.gO D0 (by rw [q]; simp) with z | z | z
          · exact absurd f2.nh z
          · have z' : H3 D0 = none := z
            rw [hu] at z'; cases z'
          · exact absurd z nown
      exact ⟨hR7, f2.at_.mono (al.xF.trans x6) (by rw [e6, ← hu]; exact al.xH.ne f2.at_.there), n6, h6, f2.nE, f2.no⟩
    cases b with
    | true =>
      refine L2.iteT ?_
      have px : Px K (fun c d _ H' => W c d σ H') (fun c fs S3 => xx c fs ⟨S1.s, S3.h⟩) ⟨F3, H3, h2, owns (L2.wipe σ vs) ⟨wipeS S1.s vs, h2⟩⟩ := fun c fs S' cls dd σ' F' H' q ax rr =>
        hx c fs ⟨S1.s, S'.h⟩ cls dd σ F' H' q ax (Rel.backX (S := ⟨S1.s, h2⟩) (E' := ⟨F3, H3, h2, owns (L2.wipe σ vs) ⟨wipeS S1.s vs, h2⟩⟩) (F := F3) (H := H3) (F2 := F3) (H2 := H3) hR3 noA rr.g.gF rfl (fun q ⟨j, e, q1, _⟩ => by
          have q1' : (wipeS S1.s vs)[j]? = some (.o e) := q1
          have hj : j ∉ vs := fun z => by cases wipeS_in z q1'
          rw [wipeS_get hj] at q1'
          exact noOwnA_get noA q1') rfl rfl rr hR3.g)
      refine ⟨_, _, px, S5, F5, _, hR5, br_t hw5, fun d S6 y F6 H6 hw6 r6 hR6 x6 => ?_⟩
      obtain ⟨hs6, hw6⟩ := hw6
      obtain ⟨hR7, f7⟩ := fin F6 H6 S6 hR6 (x5.trans x6) hs6
      obtain ⟨avs, ea, ra⟩ := f7.at_
      refine ⟨avs, ea, ?_, ?_⟩
      · have := ra.length
        have hz : (1000000 : Nat) < sizeLine := by decide
        omega
      · obtain ⟨hR8, f8⟩ := hR7.mutN (o := .lst (avs ++ [y])) (e := .lst (acc ++ [d])) f7 ⟨_, upd_same, ra.append (.one r6)⟩
        exact ⟨F6, S6.h, _, hR8, ((x2.trans al.xF).trans x5).trans x6, f8, by rw [List.length_append]; exact Nat.succ_le_succ la, hw6⟩
    | false =>
      refine L2.iteF ?_
      obtain ⟨hs6, hw6⟩ := br_f hw5
      obtain ⟨hR7, f7⟩ := fin F5 H5 S5 hR5 x5 hs6
      exact ⟨F5, S5.h, acc, hR7, (x2.trans al.xF).trans x5, f7, Nat.le_succ_of_le la, hw6⟩
  · refine .inl ⟨stop i (by omega), ?_⟩
    rw [List.drop_eq_nil_of_le (by omega)] at hw2
    exact k _ _ D0 F2 H2 hw2 f2 hR2 (x1.trans x2)
theorem dn_lcX {X : Cx} {W : L2.WX} {xx : Str → List (Str × D) → Sg → Prop} {gt : TG} {elt tg iter : Expr} {ifs : List Expr} {scope : Scope} {own : List (Str × Nat)} {pos : Pos} {wi : WA} {g : WG} {tt : WT} {te : (Str → List (Str × D) → Sg → Prop) → WE} (hc : X.calm = true) (hs0 : X.stack = X.env :: X.outer) (hf0 : X.env.frame = some X.env.locals) (tk : Takes X W) (hN : X.N.Nodup)
    (hi : DI X (Px X.K W xx) tg iter wi) (ok : BlkOk X.N X.env.scope scope own) (hT : TgN X.K gt g (own.map (·.2)))
    (hg : ∀ (s : Shared) (H : Hp) (C : Addr) (cl : List (Str × Addr)) (fp : List Addr), PG (X.blk s H scope (compEnvC scope cl C X.env) fp) tg gt) (ht : ∀ (s : Shared) (H : Hp) (C : Addr) (cl : List (Str × Addr)) (fp : List Addr), PTs (X.blk s H scope (compEnvC scope cl C X.env) fp) ifs (LTx X.K tt))
    (he : ∀ (s : Shared) (H : Hp) (C : Addr) (cl : List (Str × Addr)) (fp : List Addr) (xe : Value → Shared → Prop) (W' : L2.WX), TakesF (blkX X s H scope (compEnvC scope cl C X.env) fp xe) W' → ∀ xx', DE (blkX X s H scope (compEnvC scope cl C X.env) fp xe) (Px X.K W' xx') elt (te xx')) (hs : ∀ x, foldedSetIterable iter X.env x = pure x := by intro _; rfl) :
    DN X (Px X.K W xx) (.ListComp elt [⟨tg, iter, ifs, 0⟩] scope pos) (wLcX wi g tt te (own.map (·.2)) xx) := fun E hE =>
  PE.imp (pe_lcX (te := fun W' => LEXx X.K W' te) hc hN hs0 hf0 tk (hi E hE) ok hg ht (fun s H C cl fp xe W' tkF => ⟨fun pins s1 σ1 H1 Q1 I1 q1 => by
    obtain ⟨E1, xx1, px1, q1⟩ := q1
    exact (he s H C cl fp xe W' tkF xx1 E1 px1).run pins s1 σ1 H1 Q1 I1 q1⟩) hs) fun σ H Q q => lcx_read hT hE q
end
end VL

set_option Elab.async false
set_option linter.all false
set_option maxRecDepth 100000
set_option maxHeartbeats 4000000
/-! VL18: texts: split, str(int), int(text); a dict of the module's top with text keys. -/
namespace VL
open PySem PySem.Spec PyProof.Rows L2
theorem reps_strs {K : PySem.W.Frag} {F : Hp} : ∀ ys : List Str, Reps K F (ys.map V.str) (ys.map D.str)
  | [] => .nil
  | y :: ys => .cons (.str y) (reps_strs ys)
/-- s.split(t) -/
def wSplit (w we : WE) : WE := fun S R => w S fun d S1 => match d with
  | .str a => we S1 fun e S2 => match e with
    | .str b => (b.length == 0) = false ∧ a.length + 2 ≤ sizeLine ∧ R (.lst ((Txt.split a b).map D.str)) S2
    | _ => False
  | _ => False
def bStr : OC
  | [.int i], R => i.natAbs.log2 < 1920 ∧ R (.str (toString i))
  | _, _ => False
def bIntS : OC
  | [.str a], R => ∃ n, PySem.intText? a = some n ∧ a.length ≤ 640 ∧ R (.int n)
  | _, _ => False
section
variable {X : Cx} {Φ : En → Prop} {o e : Expr} {wo we : WE} {apos pos : Pos}
theorem de_split (ho : DE X Φ o wo) (he : DE X Φ e we) (hs : starEach [e] X.env = [(false, eval e X.env)] := by rfl) (hbase : attributeBase o "split" X.env (eval o X.env) = eval o X.env := by rfl) (hline : (apos.endLine == pos.line) = true := by rfl) :
    DE X Φ (.Call (.Attribute o "split" apos) [e] [] pos) (wSplit wo we) := fun E hE => PE.imp (pe_split (ho E hE) (he E hE) hs hbase hline) fun σ H Q => by
  rintro ⟨S, F, R, hR, hw, k⟩
  refine ⟨S, F, _, hR, hw, fun d S1 v F1 H1 hw1 r1 hR1 x1 => ?_⟩
  split at hw1
  · cases r1
    refine ⟨⟨_, rfl⟩, S1, F1, _, hR1, hw1, fun e S2 u F2 H2 hw2 r2 hR2 x2 => ?_⟩
    split at hw2
    · cases r2
      refine ⟨_, _, rfl, rfl, hw2.1, hw2.2.1, fun p hp => ?_⟩
      rename_i a _ b
      have al := Al.one (o := .lst ((Txt.split a b).map V.str)) hR2.g.ext hp
      exact k _ S2 _ _ _ hw2.2.2 (.lst upd_same (reps_strs _)) (hR2.al al) ((x1.trans x2).trans al.xF)
    · exact hw2.elim
  · exact hw1.elim
theorem cv_str : CallV X (.type "str") bStr := CallR.any fun xs H Q => by
  rintro ⟨F, ds, R, hx, r, hg, k⟩
  refine ⟨_, call_str_int, ?_⟩
  unfold bStr at hg
  split at hg
  · obtain ⟨v, rfl, q⟩ := r.one_of
    cases q
    exact ⟨_, rfl, hg.1, k _ _ F H hg.2 (.str _) (.refl hx)⟩
  · exact hg.elim
theorem cv_intS : CallV X (.type "int") bIntS := CallR.any fun xs H Q => by
  rintro ⟨F, ds, R, hx, r, hg, k⟩
  refine ⟨_, call_int_str, ?_⟩
  unfold bIntS at hg
  split at hg
  · obtain ⟨v, rfl, q⟩ := r.one_of
    cases q
    obtain ⟨n, h1, h2, h3⟩ := hg
    exact ⟨_, n, rfl, h1, h2, k _ _ F H h3 (.int _) (.refl hx)⟩
  · exact hg.elim
end
/-! ### a table of the top -/
def lookS (tab : List (Str × D)) (z : Str) : Option D := tab.lookup z
structure CTab (K : PySem.W.Frag) (w : World) (mg : Str → Option Value) (x : Str) (tab : List (Str × D)) : Prop where
  ex : ∃ d es n, KDict K w d es n ∧ mg x = some (.ref d) ∧ ∀ z e, lookS tab z = some e → ∃ u v, PySem.W.nsIn K d z = some (some u) ∧ RelV v u ∧ ∀ F, Rep K F v e
def wTab (tab : List (Str × D)) (we : WE) : WE := fun S R => we S fun d S1 => match d with
  | .str z => ∃ e, lookS tab z = some e ∧ R e S1
  | _ => False

section
variable {X : Cx} {Φ : En → Prop} {e : Expr} {we : WE} {x : Str} {p pos : Pos}
theorem ix_tab {d : Addr} {es : Array DictEntry} {n : Nat} (D : KDict X.K X.w d es n) : IxR X (fun x y H Q => ∃ (z : Str) (u0 : Value) (v0 : V), x = .ref d ∧ y = .str z ∧ PySem.W.nsIn X.K d z = some (some u0) ∧ RelV v0 u0 ∧ Q v0 H) := by
  intro value slice pins s σ H x y v u Q I rx ry h hs
  have ty : ∀ z : Unit, True := fun _ => trivial
  obtain ⟨z, u0, v0, rfl, rfl, e, r, q⟩ := h
  have tI := kd_type D I
  have run := op_item_kd D pins s σ H (.ref d) (.str z) v u Q I rx ry ⟨z, u0, v0, rfl, rfl, e, r, q⟩
  cases rx
  obtain ⟨t, rfl⟩ := ry
  exact tail_any tI PySem.F.slot_dict_getitem.lookup run hs
theorem CTab.de {tab : List (Str × D)} (c : CTab X.K X.w X.mg x tab) (hg : Gl X x) (he : DE X Φ e we) (hs : PlainIx e) (hd : (x == ("__debug__" : Str)) = false := by decide) : DE X Φ (.Subscript (.Name x p) e pos) (wTab tab we) := fun E hE => by
  obtain ⟨d, es, n, KD, hm, hl⟩ := c.ex
  refine PE.imp (pe_ix (ix_tab KD) (pe_glob (v := .ref d) hg hm rfl hd) (he E hE) hs) fun σ H Q => ?_
  rintro ⟨S, F, R, hR, hw, k⟩
  refine ⟨S, F, _, hR, hw, fun y S1 v1 F1 H1 hw1 r1 hR1 x1 => ?_⟩
  split at hw1
  · cases r1
    obtain ⟨e1, h1, h2⟩ := hw1
    obtain ⟨u, v, h3, h4, h5⟩ := hl _ _ h1
    exact ⟨_, u, v, rfl, rfl, h3, h4, k _ S1 _ F1 H1 h2 (h5 F1) hR1 x1⟩
  · exact hw1.elim
end

theorem tab_cons {k : Str} {d : D} {r : List (Str × D)} {P : Str → D → Prop} (h0 : P k d) (hr : ∀ z e, lookS r z = some e → P z e) : ∀ z e, lookS ((k, d) :: r) z = some e → P z e := fun z e h => by
  unfold lookS at h
  rw [List.lookup_cons] at h
  by_cases q : (z == k) = true
  · rw [q] at h
    cases h
    rw [eq_of_beq q]
    exact h0
  · have q : (z == k) = false := by simpa using q
    rw [q] at h
    exact hr z e h
theorem tab_nil {P : Str → D → Prop} : ∀ z e, lookS [] z = some e → P z e := fun z e h => by cases h
theorem rv_ref {p : Addr} : RelV (V.ref p) (Value.ref p) := rfl
end VL

set_option Elab.async false
set_option linter.all false
set_option maxRecDepth 100000
set_option maxHeartbeats 4000000
/-! VL19: known lists read by operations, given to calls, changed; two fresh lists at once; `or` over texts; sorted texts; extend. -/
namespace VL
open PySem PySem.Spec PyProof.Rows L2
/-! ### a known list, as it stands -/
def SnapD (h : Oh) (d d' : D) : Prop := d' = d ∨ ∃ a ds, d = .obj a ∧ h a = some (.ml ds) ∧ d' = .lst ds
theorem SnapD.of {h : Oh} {d : D} : SnapD h d d := .inl rfl
theorem SnapD.ob {h : Oh} {a : Addr} {ds : List D} (q : h a = some (.ml ds)) : SnapD h (.obj a) (.lst ds) := .inr ⟨a, ds, rfl, q, rfl⟩
theorem Rel.snap {K : PySem.W.Frag} {E : En} {F H : Hp} {σ : L2.St} {S : Sg} {v : V} {d d' : D} (R : Rel K E F H σ S) (r : Rep K F v d) (s : SnapD S.h d d') : Rep K H v d' := by
  rcases s with rfl | ⟨a, ds, rfl, q, rfl⟩
  · exact r.mono R.g.ext
  · cases r
    obtain ⟨vs, h1, h2⟩ := (R.g.obs _ _ q).1
    exact .lst h1 (h2.mono R.g.ext)
theorem flat_rep {K : PySem.W.Frag} {F G : Hp} {v : V} {d : D} (r : Rep K F v d) (f : flat d = true) : Rep K G v d := by
  cases r <;> first | exact .non | exact .bl _ | exact .int _ | exact .str _ | cases f
theorem Al.back {F H F' H' : Hp} (x : Ext F H) (a : Al H H F' H') : Al F H F H' := ⟨.refl _, a.xH, fun b h _ => .inl h, x.trans a.xH⟩
/-- an operation whose operands may be known lists; a plain value comes out -/
def wOpM (g : O2) (wa wb : WE) : WE := fun S R => wa S fun x S1 => wb S1 fun y S2 => ∃ x' y', SnapD S2.h x x' ∧ SnapD S2.h y y' ∧ g x' y' fun z => flat z = true ∧ R z S2
def wLenM (w : WE) : WE := fun S R => w S fun x S1 => ∃ a ds, x = .obj a ∧ S1.h a = some (.ml ds) ∧ R (.int ds.length) S1
def wBM (w : WE) : WT := fun S R => w S fun x S1 => ∃ a ds, x = .obj a ∧ S1.h a = some (.ml ds) ∧ R (!ds.isEmpty) S1
/-- a fresh list that becomes a known one, as an argument -/
def wMut (w : WE) : WE := fun S R => w S fun d S1 => ∀ q, S1.h q = none → R (.obj q) (S1.ob q (obOf d))
section
variable {X : Cx} {Φ : En → Prop} {a b e : Expr} {wa wb w : WE} {pos p : Pos}
theorem de_cmpM {op : CmpOp} {g : O2} (ho : OpV X (compareOp op) g) (ha : DE X Φ a wa) (hb : DE X Φ b wb) (hm : behindInMarks op b = false) : DE X Φ (.Compare a [op] [b] pos) (wOpM g wa wb) := fun E hE => PE.imp (pe_cmpR ho (ha E hE) (hb E hE) hm) fun σ H Q => by
  rintro ⟨S, F, R, hR, hw, k⟩
  refine ⟨S, F, _, hR, hw, fun x S1 v1 F1 H1 hw1 r1 hR1 x1 => ?_⟩
  refine ⟨S1, F1, _, hR1, hw1, fun y S2 v2 F2 H2 hw2 r2 hR2 x2 => ?_⟩
  obtain ⟨x', y', s1, s2, hg⟩ := hw2
  refine ⟨H2, x', y', _, .refl _, hR2.snap (r1.mono x2) s1, hR2.snap r2 s2, hg, fun z v F' H' hz rz al => ?_⟩
  have al' := Al.back hR2.g.ext al
  exact k z S2 v F2 H' hz.2 (flat_rep rz hz.1) (hR2.al al') (x1.trans x2)
theorem dt_cmpM {op : CmpOp} {g : O2} (ho : OpV X (compareOp op) g) (ha : DE X Φ a wa) (hb : DE X Φ b wb) (hm : behindInMarks op b = false) : DT X Φ (.Compare a [op] [b] pos) (wBb (wOpM g wa wb)) := fun E hE => PT.imp (pt_cmpR ho (ha E hE) (hb E hE) hm) fun σ H Q => by
  rintro ⟨S, F, R, hR, hw, k⟩
  refine ⟨S, F, _, hR, hw, fun x S1 v1 F1 H1 hw1 r1 hR1 x1 => ?_⟩
  refine ⟨S1, F1, _, hR1, hw1, fun y S2 v2 F2 H2 hw2 r2 hR2 x2 => ?_⟩
  obtain ⟨x', y', s1, s2, hg⟩ := hw2
  refine ⟨H2, x', y', _, .refl _, hR2.snap (r1.mono x2) s1, hR2.snap r2 s2, hg, fun z v F' H' hz rz al => ?_⟩
  have al' := Al.back hR2.g.ext al
  obtain ⟨_, hz⟩ := hz
  cases rz with
  | bl b => exact ⟨b, rfl, k b S2 F2 H' hz (hR2.al al') (x1.trans x2)⟩
  | _ => exact hz.elim
theorem de_lenM {x : Str} (hg : Gl X x) (hm : X.mg x = none) (hv : bootBuiltins x = some (.builtin "len")) (ha : DE X Φ a wa) (hn : x ≠ "__name__" := by decide) (hdb : (x == ("__debug__" : Str)) = false := by decide)
    (he : starEach [a] X.env = (false, eval a X.env) :: starEach [] X.env := by rfl) (hpl : (backTo pos (starEach [] X.env)).any (·.1) = false := by rfl) : DE X Φ (.Call (.Name x p) [a] [] pos) (wLenM wa) := fun E hE => PE.imp (pe_callB call_len hg hm hv (pa_cons (ha E hE) pa_nil he) hn hdb he hpl) fun σ H Q => by
  rintro ⟨S, F, R, hR, hw, k⟩
  refine ⟨S, F, _, hR, hw, fun d S1 v F1 H1 hw1 r1 hR1 x1 => ?_⟩
  obtain ⟨q, ds, rfl, hq, hw1⟩ := hw1
  cases r1
  obtain ⟨vs, h1, h2⟩ := (hR1.g.obs _ _ hq).1
  refine ⟨_, _, rfl, .inl ⟨vs, .of h1, rfl⟩, ?_⟩
  rw [h2.length]
  exact k _ S1 _ F1 H1 hw1 (.int _) hR1 x1
theorem dt_truM (ha : DE X Φ a wa) (he : ∀ whole, isTrue a X.env whole = (do let v ← whole; standAt a.pos; holding [v] (truthy v)) := by intro _; rfl) : DT X Φ a (wBM wa) := fun E hE => PT.imp (pt_truth (ha E hE) he) fun σ H Q => by
  rintro ⟨S, F, R, hR, hw, k⟩
  refine ⟨S, F, _, hR, hw, fun d S1 v F1 H1 hw1 r1 hR1 x1 => ?_⟩
  obtain ⟨q, ds, rfl, hq, hw1⟩ := hw1
  have r2 := hR1.snap r1 (.ob hq)
  obtain ⟨b, h1, h2⟩ := r2.tru (R := fun b => b = !ds.isEmpty) (.refl _) rfl
  subst h2
  exact ⟨_, h1, k _ S1 F1 H1 hw1 hR1 x1⟩
theorem de_mut (he : DN X Φ e w) : DE X Φ e (wMut w) := fun E hE => PE.imp (he E hE) fun σ H Q => by
  rintro ⟨S, F, R, hR, hw, k⟩
  refine ⟨S, F, _, hR, hw, fun d S1 q F1 H1 hw1 f hR1 x1 => ?_⟩
  have ha : ObAt X.K F1 H1 q (obOf d) := by
    have z := f.at_
    cases d <;> first | exact z | exact z.elim
  exact k (.obj q) _ _ F1 H1 (hw1 q f.nh) (.obj q) (hR1.obnew f ha) x1
end
/-! ### append, remove -/
def wAppM (wo w : WE) : WS := fun T S => wo S fun x S1 => ∃ a, x = .obj a ∧ (∃ ds, S1.h a = some (.ml ds)) ∧ w S1 fun d S2 => ∃ ds, S2.h a = some (.ml ds) ∧ ds.length < 1000000 ∧ T.nx (S2.ob a (.ml (ds ++ [d])))
/-- o.remove(t), o a known list of texts -/
def wRemM (wo w : WE) : WS := fun T S => wo S fun x S1 => ∃ a, x = .obj a ∧ (∃ ds, S1.h a = some (.ml ds)) ∧ w S1 fun d S2 => ∃ (ss : List Str) (s : Str) (j : Nat), d = .str s ∧ S2.h a = some (.ml (ss.map D.str)) ∧ ss[j]? = some s ∧ (∀ m : Nat, m < j → ss[m]? ≠ some s) ∧
  T.nx (S2.ob a (.ml ((ss.eraseIdx j).map D.str)))
def eqs (k : Str) (v : Value) : Bool := match v with
  | .str n _ => n == k
  | _ => false
theorem eqs_at {k : Str} {t : Tok} {A : Around} {s : Shared} : ∀ {us : List Value} {ns : List Str}, StrsAre us ns → ∀ y ∈ us, SeqAt.EqAt A s y (.str k t) (eqs k y)
  | _, _, .nil => fun y hy => by cases hy
  | _, _, .cons n t' h => fun y hy => by
    rcases List.mem_cons.mp hy with rfl | hy
    · exact SeqAt.EqAt.str_str n t' k t
    · exact eqs_at h y hy
theorem strs_get : ∀ {us : List Value} {ns : List Str}, StrsAre us ns → us.length = ns.length ∧ ∀ (j : Nat) (n : Str), ns[j]? = some n → ∃ t, us[j]? = some (Value.str n t)
  | _, _, .nil => ⟨rfl, fun j n h => by simp at h⟩
  | _, _, .cons n t h => by
    obtain ⟨h1, h2⟩ := strs_get h
    refine ⟨by rw [List.length_cons, List.length_cons, h1], fun j m hj => ?_⟩
    cases j with
    | zero =>
      cases hj
      exact ⟨t, rfl⟩
    | succ j => exact h2 j m hj
theorem erase_map {α β : Type} (f : α → β) : ∀ (l : List α) (j : Nat), (l.map f).eraseIdx j = (l.eraseIdx j).map f
  | [], j => by simp
  | a :: r, 0 => by simp
  | a :: r, j + 1 => by
    have ih := erase_map f r j
    simp [ih]
theorem Vals.eraseI {xs : List V} {us : List Value} (r : Vals xs us) (j : Nat) : Vals (xs.eraseIdx j) (us.eraseIdx j) := r.eraseIdx j
section
variable {X : Cx}
def rRemS : V → List V → Hp → VK → Prop := fun x xs H Q => ∃ (l : Addr) (ns : List Str) (k : Str) (j : Nat), x = .ref l ∧ xs = [.str k] ∧ H l = some (.lst (ns.map V.str)) ∧ ns[j]? = some k ∧ (∀ m : Nat, m < j → ns[m]? ≠ some k) ∧ Q .non (upd H l (.lst ((ns.eraseIdx j).map V.str)))
theorem mt_removeS : MtM X "list.remove" rRemS := by
  intro pins s σ H x xs v us Q I rx rxs h
  obtain ⟨l, ns, k, j, rfl, rfl, hH, hj, hno, q⟩ := h
  cases rx
  obtain ⟨u, rfl, ru⟩ := rxs.one
  obtain ⟨t, rfl⟩ := ru
  obtain ⟨z, its, n, r, hl, e⟩ := I.lstM hH
  have hi := L2.Vals.strs r
  obtain ⟨hlen, hget⟩ := strs_get hi
  rw [List.length_map] at hl z
  have hjn : j < ns.length := (List.getElem?_eq_some_iff.mp hj).1
  have hjl : j < its.toArray.size := by rw [List.size_toArray]; omega
  refine call_meets PySem.F.slot_list_remove ⟨_, e, rfl⟩ PySem.F.entry_list_remove (PySem.F.args_list_remove_2 _ _)
    (SeqAt.list_removeAt l its.toArray n none #[] (.str k t) (eqs k) j hjl ?_ ?_ (by rw [List.size_toArray]; omega)) ⟨e, (fun y hy => eqs_at hi y (by simpa using hy)), ?_⟩
  · obtain ⟨tj, hjt⟩ := hget j k hj
    obtain ⟨h1, h2⟩ := List.getElem?_eq_some_iff.mp hjt
    have e1 : its.toArray[j] = .str k tj := by simpa using h2
    rw [e1]
    exact beq_self_eq_true k
  · intro m hm hmj
    have hmn : m < ns.length := by omega
    obtain ⟨tm, hmt⟩ := hget m _ (List.getElem?_eq_getElem hmn)
    obtain ⟨h1, h2⟩ := List.getElem?_eq_some_iff.mp hmt
    have e1 : its.toArray[m] = .str ns[m] tm := by simpa using h2
    rw [e1]
    refine beq_eq_false_iff_ne.mpr fun e2 => hno m hmj ?_
    rw [List.getElem?_eq_getElem hmn, e2]
  · have rr := r.eraseIdx j
    rw [erase_map] at rr
    refine ⟨.non, _, I.lset (its' := its.eraseIdx j) (t' := s.toks) hH e ?_ rr ?_, rfl, q⟩
    · show its.toArray.eraseIdxIfInBounds j = (its.eraseIdx j).toArray
      rw [List.eraseIdxIfInBounds_toArray]
    · rw [List.length_map, List.length_eraseIdx_of_lt hjn]
      omega
end
section
variable {X : Cx} {W : L2.WX} {o e : Expr} {wo w : WE} {apos cpos pos : Pos}
theorem ds_appM (ho : DE X Tr o wo) (he : DE X Tr e w)
    (h : ∀ to t, PE X o to → PE X e t → PE X (.Call (.Attribute o "append" apos) [e] [] cpos) (tBM X.K "list" rAppend to (tCons t tNil)))
    (hs : swapsWith (.Call (.Attribute o "append" apos) [e] [] cpos) none pos.line X.env = pure false := by rfl) : DS X W (.Expr (.Call (.Attribute o "append" apos) [e] [] cpos) pos) (wAppM wo w) := fun E => PS.imp (ps_expr (h _ _ (ho E trivial) (he E trivial)) hs) fun D σ H => by
  rintro ⟨S, F, R, hR, hw, k1, k2, k3, k4, k5⟩
  refine ⟨S, F, _, hR, hw, fun x S1 v F1 H1 hw1 r1 hR1 x1 => ?_⟩
  obtain ⟨a, rfl, ⟨ds0, hq0⟩, hw1⟩ := hw1
  cases r1
  obtain ⟨vs0, q0, _⟩ := (hR1.g.obs _ _ hq0).1
  refine ⟨.inl ⟨rfl, _, .of q0⟩, ?_⟩
  refine ⟨S1, F1, _, hR1, hw1, fun d S2 u F2 H2 hw2 r2 hR2 x2 => ?_⟩
  obtain ⟨ds, hq, hl, hn⟩ := hw2
  obtain ⟨vs, q, s⟩ := (hR2.g.obs _ _ hq).1
  refine ⟨a, vs, u, rfl, rfl, q, ?_, ?_⟩
  · have hz : (1000000 : Nat) < sizeLine := by decide
    rw [s.length]
    omega
  · exact k1 _ σ F2 _ hn (hR2.obput (by rw [hq]; simp) ⟨_, upd_same, s.append (.one r2)⟩) (x1.trans x2)
theorem ds_remM (ho : DE X Tr o wo) (he : DE X Tr e w)
    (h : ∀ to t, PE X o to → PE X e t → PE X (.Call (.Attribute o "remove" apos) [e] [] cpos) (tBM X.K "list" rRemS to (tCons t tNil)))
    (hs : swapsWith (.Call (.Attribute o "remove" apos) [e] [] cpos) none pos.line X.env = pure false := by rfl) : DS X W (.Expr (.Call (.Attribute o "remove" apos) [e] [] cpos) pos) (wRemM wo w) := fun E => PS.imp (ps_expr (h _ _ (ho E trivial) (he E trivial)) hs) fun D σ H => by
  rintro ⟨S, F, R, hR, hw, k1, k2, k3, k4, k5⟩
  refine ⟨S, F, _, hR, hw, fun x S1 v F1 H1 hw1 r1 hR1 x1 => ?_⟩
  obtain ⟨a, rfl, ⟨ds0, hq0⟩, hw1⟩ := hw1
  cases r1
  obtain ⟨vs0, q0, _⟩ := (hR1.g.obs _ _ hq0).1
  refine ⟨.inl ⟨rfl, _, .of q0⟩, ?_⟩
  refine ⟨S1, F1, _, hR1, hw1, fun d S2 u F2 H2 hw2 r2 hR2 x2 => ?_⟩
  obtain ⟨ss, t, j, rfl, hq, hj, hno, hn⟩ := hw2
  obtain ⟨vs, q, s⟩ := (hR2.g.obs _ _ hq).1
  have e1 := s.strs
  subst e1
  cases r2
  refine ⟨a, ss, t, j, rfl, rfl, q, hj, hno, ?_⟩
  exact k1 _ σ F2 _ hn (hR2.obput (by rw [hq]; simp) ⟨_, upd_same, reps_strs _⟩) (x1.trans x2)
end
/-! ### x = y = two fresh empty lists at once -/
def wParE (i j : Nat) : WS := fun T S => T.nx ((S.st i (.o (.lst []))).st j (.o (.lst [])))
/-! ### or, over texts -/
def wOrS (wa wb : WE) : WE := fun S R => wa S fun x S1 => ∃ a : Str, x = .str a ∧ a.length ≤ sizeLine ∧ Br ((a.length : Int) != 0) (R (.str a) S1) (wb S1 R)
section
variable {X : Cx} {Φ : En → Prop} {W : L2.WX} {a b e : Expr} {rest : List Expr} {wa wb w : WE} {pos p : Pos}
theorem de_orS (ha : DE X Φ a wa) (hb : DE X Φ (.BoolOp .Or [b] pos) wb) : DE X Φ (.BoolOp .Or [a, b] pos) (wOrS wa wb) := fun E hE => PE.imp (pe_orT (ha E hE) (hb E hE)) fun σ H Q => by
  rintro ⟨S, F, R, hR, hw, k⟩
  refine ⟨S, F, _, hR, hw, fun x S1 v F1 H1 hw1 r1 hR1 x1 => ?_⟩
  obtain ⟨s, rfl, hl, hw1⟩ := hw1
  cases r1
  refine ⟨_, ⟨hl, rfl⟩, ?_⟩
  cases q : ((s.length : Int) != 0) with
  | true =>
    rw [q] at hw1
    refine L2.iteT ?_
    exact k _ S1 _ F1 H1 (br_t hw1) (.str _) hR1 x1
  | false =>
    rw [q] at hw1
    refine L2.iteF ?_
    exact ⟨S1, F1, _, hR1, br_f hw1, fun d S' v F' H' hd rd hR' x' => k d S' v F' H' hd rd hR' (x1.trans x')⟩
end
/-! ### sorted texts -/
def bSortS : OC
  | [.lst ds], R => ∃ xs : List Str, ds = xs.map D.str ∧ xs.length < 64 ∧ ∀ ys : List Str, ys.Perm xs → sortedS ys = true → R (.lst (ys.map D.str))
  | _, _ => False
section
variable {X : Cx} {Φ : En → Prop} {W : L2.WX} {e o : Expr} {w : WE} {pos p apos cpos : Pos}
theorem cv_sortS : CallV X (.builtin "sorted") bSortS := CallR.any fun xs H Q => by
  rintro ⟨F, ds, R, hx, r, hg, k⟩
  refine ⟨_, cr_sortedS, ?_⟩
  unfold bSortS at hg
  split at hg
  · obtain ⟨v, rfl, q⟩ := r.one_of
    obtain ⟨ys, rfl, h64, hR⟩ := hg
    cases q with
    | lst h s =>
      have e1 := s.strs
      subst e1
      refine ⟨_, ys, rfl, .of (hx _ _ h), h64, fun zs p hp hs hn => ?_⟩
      have al := Al.one (o := .lst (zs.map V.str)) hx hn
      exact k _ _ _ _ (hR zs hp hs) (.lst upd_same (reps_strs _)) al
  · exact hg.elim
/-- x.extend(e), x owns its list -/
def wExt (l : Nat) (w : WE) : WS := fun T S => (∃ ds, S.s[l]? = some (.o (.lst ds))) ∧ w S fun d S1 => ∃ ds es, d = .lst es ∧ S1.s[l]? = some (.o (.lst ds)) ∧ ds.length + es.length ≤ 1000000 ∧ T.nx (S1.st l (.o (.lst (ds ++ es))))
theorem ds_ext {x : Str} {px : Pos} (l : Nat) (hx : PE X (.Name x px) (tVar l)) (he : DE X Tr e w)
    (h : ∀ to t, PE X (.Name x px) to → PE X e t → PE X (.Call (.Attribute (.Name x px) "extend" apos) [e] [] cpos) (tBM X.K "list" rExtend to (tCons t tNil)))
    (hs : swapsWith (.Call (.Attribute (.Name x px) "extend" apos) [e] [] cpos) none pos.line X.env = pure false := by rfl) : DS X W (.Expr (.Call (.Attribute (.Name x px) "extend" apos) [e] [] cpos) pos) (wExt l w) := fun E => PS.imp (ps_expr (h _ _ hx (he E trivial)) hs) fun D σ H => by
  rintro ⟨S, F, R, hR, ⟨⟨ds0, he0⟩, hw⟩, k1, k2, k3, k4, k5⟩
  obtain ⟨p, h0, ⟨vs0, q0, _⟩, _⟩ := hR.own l _ he0
  refine ⟨_, h0, .inl ⟨rfl, _, .of q0⟩, ?_⟩
  refine ⟨S, F, _, hR, hw, fun d S1 v F1 H1 hw1 r1 hR1 x1 => ?_⟩
  obtain ⟨ds, es, rfl, g1, g2, g3⟩ := hw1
  obtain ⟨p', h0', ⟨vs, q, s⟩, _⟩ := hR1.own l _ g1
  rw [h0] at h0'
  cases h0'
  cases r1 with
  | lst hb sb =>
    refine ⟨p, _, vs, _, rfl, rfl, q, hR1.g.ext _ _ hb, ?_, ?_⟩
    · have hz : (1000000 : Nat) < sizeLine := by decide
      rw [s.length, sb.length]
      omega
    · exact k1 _ _ F1 _ g3 (hR1.mut g1 h0 ⟨_, upd_same, s.append sb⟩) x1
end
section
variable {X : Cx} {Φ : En → Prop} {W : L2.WX} {a b : Expr} {w : WE} {pos : Pos}
theorem ds_parE {x y : Str} {px py pt : Pos} {kt k2 : Nat} {pt2 p1 p2 : Pos} (i j : Nat) (hij : i ≠ j) (h : ∀ ta, PA X [.List [] p1, .List [] p2] ta → PS X (.Assign [.Tuple [.Name x px, .Name y py] kt pt] (.Tuple [.List [] p1, .List [] p2] k2 pt2) pos) (tPar i j ta)) :
    DS X W (.Assign [.Tuple [.Name x px, .Name y py] kt pt] (.Tuple [.List [] p1, .List [] p2] k2 pt2) pos) (wParE i j) := fun E => PS.imp (h _ (pa_cons (pe_lst pa_nil) (pa_cons (pe_lst pa_nil) pa_nil))) fun D σ H => by
  rintro ⟨S, F, R, hR, hw, k1, k2, k3, k4, k5⟩
  refine ⟨Nat.zero_le _, fun p hp => ⟨Nat.zero_le _, fun q hq => ⟨.ref p, .ref q, rfl, ?_⟩⟩⟩
  obtain ⟨f1, hR1⟩ := fresh_of hR hp (ds := []) .nil
  obtain ⟨f2, hR2⟩ := fresh_of hR1 hq (ds := []) .nil
  have npq : p ≠ q := fun z => by
    rw [z, upd_same] at hq
    cases hq
  have f1' : Fresh X.K E F (upd (upd H p (.lst [])) q (.lst [])) σ S p (.lst []) := ⟨⟨[], (upd_ne npq).trans upd_same, .nil⟩, f1.nF, f1.nh, f1.nE, f1.no⟩
  have hR3 := hR2.setO (i := i) f1'
  have f2' : Fresh X.K E F (upd (upd H p (.lst [])) q (.lst [])) (σ.set i (some (.ref p))) (S.st i (.o (.lst []))) q (.lst []) := ⟨f2.at_, f2.nF, f2.nh, f2.nE, fun l d e => by
    rcases set_get e with ⟨rfl, _, _⟩ | ⟨n, e'⟩
    · intro z
      by_cases hl : l < σ.length
      · rw [List.getElem?_set_self hl] at z
        cases z
        exact npq rfl
      · rw [List.getElem?_eq_none (by rw [List.length_set]; omega)] at z
        cases z
    · rw [List.getElem?_set_ne (Ne.symm n)]
      exact f2.no l d e'⟩
  exact k1 _ _ F _ hw (hR3.setO (i := j) f2') (.refl _)
end
/-! ### a comprehension over a known list, which stays as it is -/
def wLcOL (a : Addr) (ds : List D) (g : WG) (tt : WT) (te : WE) (vs : List Nat) (s0 : List Sl) (R : List D → Oh → Prop) : List D → Oh → List D → Prop
  | [], h, acc => h a = some (.ml ds) ∧ R acc h
  | x :: xs, h, acc => h a = some (.ml ds) ∧ g x ⟨wipeS s0 vs, h⟩ fun S1 => tt S1 fun b S2 => Br b
      (te S2 fun d S3 => wipeS S3.s vs = wipeS s0 vs ∧ wLcOL a ds g tt te vs s0 R xs S3.h (acc ++ [d])) (wipeS S2.s vs = wipeS s0 vs ∧ wLcOL a ds g tt te vs s0 R xs S2.h acc)
def wLcO (w : WE) (g : WG) (tt : WT) (te : WE) (vs : List Nat) : WE := fun S R => w S fun d S1 => ∃ a ds, d = .obj a ∧ S1.h a = some (.ml ds) ∧ noOwn S1.s vs = true ∧ ds.length ≤ 1000000 ∧ wLcOL a ds g tt te vs S1.s (fun acc h => R (.lst acc) ⟨S1.s, h⟩) ds S1.h []
section
variable {X : Cx} {Φ : En → Prop} {K : PySem.W.Frag} {E : En} {F F' F2 H H' H2 : Hp} {σ σ' : L2.St} {S : Sg} {p : Addr} {o : HO} {d : D} {v : V} {i : Nat} {vs : List Nat}
theorem lcO_read {w : WE} {gt : TG} {g : WG} {tt : WT} {te : WE} {Q : VK} (ht : TgN K gt g vs) (hq : LN K E (wLcO w g tt te vs) σ H Q) : tLc (iList K (LE K E w)) gt (LTx K tt) (LEx K te) vs σ H Q := by
  obtain ⟨S, F, R, hR, hw, k⟩ := hq
  refine ⟨S, F, _, hR, hw, fun d0 S1 v0 F1 H1 hw1 r0 hR1 x1 => ?_⟩
  obtain ⟨ao, ds, rfl, hao, no, hl, hw1⟩ := hw1
  cases r0
  obtain ⟨vs1, q1, _⟩ := (hR1.g.obs _ _ hao).1
  refine ⟨ao, rfl, ⟨vs1, .of q1⟩, fun D0 hD => ?_⟩
  obtain ⟨f0, hR1'⟩ := fresh_of hR1 hD (K := K) (E := E) (F := F1) (vs := []) (ds := []) .nil
  refine ⟨fun i m H => m + i = ds.length ∧ ∃ F2 h2 acc, Rel K E F2 H σ ⟨S1.s, h2⟩ ∧ Ext F1 F2 ∧ Fresh K E F2 H σ ⟨S1.s, h2⟩ D0 (.lst acc) ∧ acc.length ≤ i ∧ wLcOL ao ds g tt te vs S1.s (fun acc h => R (.lst acc) ⟨S1.s, h⟩) (ds.drop i) h2 acc,
    ⟨ds.length, rfl, F1, S1.h, [], hR1', .refl _, f0, Nat.le_refl _, hw1⟩, fun i m H2 hW => ?_⟩
  obtain ⟨hm, F2, h2, acc, hR2, x2, f2, la, hw2⟩ := hW
  by_cases hi : i < ds.length
  · have hd : ds[i]? = some ds[i] := List.getElem?_eq_getElem hi
    rw [List.drop_eq_getElem_cons hi] at hw2
    obtain ⟨ha2, hw2⟩ := hw2
    obtain ⟨us, qu, su⟩ := (hR2.g.obs _ _ ha2).1
    obtain ⟨uv, u1, u2⟩ := su.get hd
    have hqu : SqL K H2 ao us := .of qu
    refine .inr ⟨⟨us, uv, hqu, u1⟩, fun H' => ∃ F2 h3 acc', Rel K E F2 H' σ ⟨S1.s, h3⟩ ∧ Ext F1 F2 ∧ Fresh K E F2 H' σ ⟨S1.s, h3⟩ D0 (.lst acc') ∧ acc'.length ≤ i + 1 ∧ wLcOL ao ds g tt te vs S1.s (fun acc h => R (.lst acc) ⟨S1.s, h⟩) (ds.drop (i + 1)) h3 acc', fun H' hN => ⟨m - 1, by omega, by omega, hN⟩, fun x H3 hy => ?_⟩
    obtain ⟨rfl, hy⟩ := hy
    have ex : x = uv := Option.some.inj ((hy _ hqu).symm.trans u1)
    subst ex
    have rx := u2
    have al : Al F2 H3 F2 H3 := .refl hR2.g.ext
    have hR3 := hR2
    have hRw := (hR3.wipe vs).enter
    refine ht _ x (L2.wipe σ vs) _ F2 H3 _ _ _ hRw rx hw2 fun σ4 S4 hR4 hσ4 hw4 => ?_
    have hσ4' : L2.wipe σ4 vs = L2.wipe σ vs := hσ4.trans (wipe_wipe fun _ h => h)
    refine ⟨hσ4', _, S4, F2, _, hR4, hw4, fun b S5 F5 H5 hw5 hR5 x5 => ?_⟩
    have nown : ¬ owns (L2.wipe σ vs) ⟨wipeS S1.s vs, h2⟩ D0 := fun ⟨j, e, q1, q2⟩ => by
      have hj : j ∉ vs := fun z => by cases wipeS_in z q1
      have q1' : (wipeS S1.s vs)[j]? = some (.o e) := q1
      rw [wipeS_get hj] at q1'
      rw [wipe_get hj] at q2
      exact f2.no j e q1' q2
    have hD3 : ∃ u, H3 D0 = some u := Option.ne_none_iff_exists'.mp (by rw [al.xH.ne f2.at_.there]; exact f2.at_.there)
    obtain ⟨u, hu⟩ := hD3
    have fin : ∀ F6 H6 S6, Rel K ⟨F2, H3, h2, owns (L2.wipe σ vs) ⟨wipeS S1.s vs, h2⟩⟩ F6 H6 σ4 S6 → Ext F2 F6 → wipeS S6.s vs = wipeS S1.s vs → Rel K E F6 H6 σ ⟨S1.s, S6.h⟩ ∧ Fresh K E F6 H6 σ ⟨S1.s, S6.h⟩ D0 (.lst acc) := fun F6 H6 S6 hR6 x6 hs6 => by
      have hR7 := hR3.back (S3 := S6) no hs6 hσ4' x6 hR6 hR3.g
      have e6 : H6 D0 = some u := hR6.g.gH D0 u hu f2.nh nown
      have n3 : F2 D0 = none := (al.new D0 f2.nF f2.at_.there).elim id fun z => (TupO.ow f2.at_ z).elim
      have n6 : F6 D0 = none := (hR6.g.gN D0 n3 (by show H3 D0 ≠ none; rw [hu]; simp) nown).elim id fun z => (TupO.ow f2.at_ (by rw [e6, ← hu] at z; exact z)).elim
      have h6 : S6.h D0 = none := by
        cases q : S6.h D0 with
        | none => rfl
        | some y =>
          rcases hR6.g.gO D0 (by rw [q]; simp) with z | z | z
          · exact absurd f2.nh z
          · have z' : H3 D0 = none := z
            rw [hu] at z'; cases z'
          · exact absurd z nown
      exact ⟨hR7, f2.at_.mono (al.xF.trans x6) (by rw [e6, ← hu]), n6, h6, f2.nE, f2.no⟩
    cases b with
    | true =>
      refine L2.iteT ?_
      refine ⟨_, S5, F5, _, hR5, br_t hw5, fun d S6 y F6 H6 hw6 r6 hR6 x6 => ?_⟩
      obtain ⟨hs6, hw6⟩ := hw6
      obtain ⟨hR7, f7⟩ := fin F6 H6 S6 hR6 (x5.trans x6) hs6
      obtain ⟨avs, ea, ra⟩ := f7.at_
      refine ⟨avs, ea, ?_, ?_⟩
      · have := ra.length
        have hz : (1000000 : Nat) < sizeLine := by decide
        omega
      · obtain ⟨hR8, f8⟩ := hR7.mutN (o := .lst (avs ++ [y])) (e := .lst (acc ++ [d])) f7 ⟨_, upd_same, ra.append (.one r6)⟩
        exact ⟨F6, S6.h, _, hR8, ((x2.trans al.xF).trans x5).trans x6, f8, by rw [List.length_append]; exact Nat.succ_le_succ la, hw6⟩
    | false =>
      refine L2.iteF ?_
      obtain ⟨hs6, hw6⟩ := br_f hw5
      obtain ⟨hR7, f7⟩ := fin F5 H5 S5 hR5 x5 hs6
      exact ⟨F5, S5.h, acc, hR7, (x2.trans al.xF).trans x5, f7, Nat.le_succ_of_le la, hw6⟩
  · rw [List.drop_eq_nil_of_le (by omega)] at hw2
    obtain ⟨ha2, hw2⟩ := hw2
    obtain ⟨us, qu, su⟩ := (hR2.g.obs _ _ ha2).1
    refine .inl ⟨⟨us, .of qu, by rw [su.length]; omega⟩, ?_⟩
    exact k _ _ D0 F2 H2 hw2 f2 hR2 (x1.trans x2)
theorem dn_lcO {gt : TG} {elt tg iter : Expr} {ifs : List Expr} {scope : Scope} {own : List (Str × Nat)} {pos : Pos} {w : WE} {g : WG} {tt : WT} {te : WE} (hc : X.calm = true) (hN : X.N.Nodup) (hi : DE X Φ iter w) (ok : BlkOk X.N X.env.scope scope own)
    (hT : TgN X.K gt g (own.map (·.2)))
    (hg : ∀ (s : Shared) (H : Hp) (C : Addr) (cl : List (Str × Addr)) (fp : List Addr), PG (X.blk s H scope (compEnvC scope cl C X.env) fp) tg gt) (ht : ∀ (s : Shared) (H : Hp) (C : Addr) (cl : List (Str × Addr)) (fp : List Addr), PTs (X.blk s H scope (compEnvC scope cl C X.env) fp) ifs (LTx X.K tt))
    (he : ∀ (s : Shared) (H : Hp) (C : Addr) (cl : List (Str × Addr)) (fp : List Addr), DE (X.blk s H scope (compEnvC scope cl C X.env) fp) Tr elt te) (hs : ∀ x, foldedSetIterable iter X.env x = pure x := by intro _; rfl) :
    DN X Φ (.ListComp elt [⟨tg, iter, ifs, 0⟩] scope pos) (wLcO w g tt te (own.map (·.2))) := fun E hE => PE.imp (pe_lc hc hN (pi_list (hi E hE)) ok hg ht (fun s H C cl fp => pe_x (he s H C cl fp)) hs) fun σ H Q => lcO_read hT
end
/-! ### a walk over a list or a tuple; a def that calls itself -/
def wItV (i : Nat) : WA := fun S R => match S.s[i]? with
  | some (.f (.lst ds)) => R ds S
  | some (.f (.tup ds)) => R ds S
  | _ => False
section
variable {X : Cx} {Φ : En → Prop} {tg e : Expr} {p : Pos} {x : Str}
theorem pi_or {t u : TI} (h1 : PI X tg e t) (h2 : PI X tg e u) : PI X tg e (fun σ H R => t σ H R ∨ u σ H R) := ⟨fun pins s σ H R I h => h.elim (h1.run pins s σ H R I) (h2.run pins s σ H R I)⟩
theorem di_seq (i : Nat) (h : PE X (.Name x p) (tVar i)) : DI X Φ tg (.Name x p) (wItV i) := fun E hE => PI.imp (pi_or (di_list (de_var i h) E hE) (di_tup (de_var i h) E hE)) fun σ H Q => by
  rintro ⟨S, F, R, hR, hw, k⟩
  unfold wItV at hw
  split at hw
  · rename_i ds q
    refine .inl ⟨S, F, R, hR, ?_, k⟩
    show wItL (wVar i) S R
    unfold wItL wVar
    rw [q]
    exact hw
  · rename_i ds q
    refine .inr ⟨S, F, R, hR, ?_, k⟩
    show wItT (wVar i) S R
    unfold wItT wVar
    rw [q]
    exact hw
  · exact hw.elim
theorem fn_none {P : Program} {w : World} {K : PySem.W.Frag} {mg : Str → Option Value} {base : Heap} {CX : CXT} {k n : Nat} {f : Addr} {fd : FuncData} {ps : List Str} : FnOk P w K mg base CX k f fd ps (spOf K n fun _ _ _ _ => False) :=
  ⟨fun vs H Q E h => by
    obtain ⟨_, _, _, _, _, _, _, _, z, _⟩ := h
    exact z.elim, fun A outer s H args us vs Q E _ _ _ _ h => by
    obtain ⟨_, _, _, _, _, _, _, _, z, _⟩ := h
    exact z.elim⟩
end
theorem le_rec {j l n : Nat} (h : Nat.ble j l = true) : j ≤ Nat.add l n := Nat.le_trans (Nat.le_of_ble_eq_true h) (Nat.le_add_right l n)
end VL

set_option Elab.async false
set_option linter.all false
set_option maxRecDepth 100000
set_option maxHeartbeats 400000
/-! VL20: a range held in a name, displays of dicts, d.get(k, x), list(d), `in` a table of the top. -/
namespace VL
open PySem PySem.Spec PyProof.Rows L2
/-- a def known under a second name -/
structure DefAs (K : PySem.W.Frag) (mg : Str → Option Value) (g x : Str) (st : Stmt) (ps : List Str) (f : Addr) (fd : FuncData) : Prop where
  fn : Fun K x x st f fd
  bd : Binds K fd ps []
  gl : mg g = some (.ref f)
/-! ### ranges as values -/
def wRngV (w : WE) : WE := fun S R => w S fun d S1 => ∃ n : Nat, d = .int n ∧ n < 2 ^ 62 ∧ R (.rng n) S1
def wItR (w : WE) : WA := fun S R => w S fun d S1 => match d with
  | .rng n => R ((List.range n).map fun k => .int (k : Nat)) S1
  | _ => False
def iRngV (te : TE) : TI := fun σ H R => te σ H fun x H1 => ∃ (a : Addr) (n : Nat), x = .ref a ∧ H1 a = some (.rng 0 n) ∧ n < 2 ^ 62 ∧ R (Itr 0 n) H1
section
variable {X : Cx} {Φ : En → Prop} {tg e o i f l : Expr} {te : TE} {p pos : Pos} {w wd wi wf : WE}
theorem cr_range1 : CallR X (.type "range") (fun vs H Q => ∃ j : Nat, vs = [V.int j] ∧ ∀ p, H p = none → Q (.ref p) (upd H p (.rng 0 j))) := by
  intro pins s σ H vs us Q I r h
  obtain ⟨j, rfl, q⟩ := h
  cases r with
  | cons ri rr =>
    cases rr
    obtain ⟨t, rfl⟩ := ri
    refine call_range_1 ⟨.ref s.heap.objs.size, upd H s.heap.objs.size (.rng 0 j), I.laid (t' := s.toks + 1 + 1) (fun b o e => Heap.get?_push_of_some _ e) (Nat.le_refl _) ?_, rfl, q _ (I.hok.fresh (Nat.le_refl _))⟩
    exact ⟨_, t, _, Heap.get?_push_size _ rfl⟩
theorem de_rng (hg : Gl X "range") (hm : X.mg "range" = none) (he : DE X Φ e w) (h1 : starEach [e] X.env = [(false, eval e X.env)] := by rfl) : DE X Φ (.Call (.Name "range" p) [e] [] pos) (wRngV w) := fun E hE => PE.imp (pe_callTy (T := "range") cr_range1 hg hm (by decide +kernel) (pa_cons (he E hE) pa_nil h1) (he := h1) (hpl := by rfl)) fun σ H Q => by
  rintro ⟨S, F, R, hR, hw, k⟩
  refine ⟨S, F, _, hR, hw, fun d S1 v F1 H1 hw1 r1 hR1 x1 => ?_⟩
  obtain ⟨n, rfl, hn, q⟩ := hw1
  cases r1
  refine ⟨n, rfl, fun t ht => ?_⟩
  have al := Al.one (o := .rng 0 n) hR1.g.ext ht
  exact k _ S1 _ _ _ q (.rng upd_same hn) (hR1.al al) (x1.trans al.xF)
theorem pi_rngV (hl : PE X l te) : PI X tg l (iRngV te) := by
  refine ⟨fun pins s σ H R I h => ?_⟩
  refine thn (hl.run pins s σ H _ I h) fun v s1 ⟨x, H1, I1, r1, q1⟩ => ?_
  obtain ⟨a, n, e, hq, hn, q⟩ := q1
  subst e
  cases r1
  obtain ⟨t, u, v, ho⟩ := I1.hok _ _ hq
  refine wpAny_pyIter_range ho (small_one (by omega) (by omega) (by omega) (by omega)) ?_
  refine ⟨s1.heap.objs.size, [s1.heap.objs.size], _, _, H1, rfl, I1.kept (t' := s1.toks) fun b o e => Heap.get?_push_of_some _ e, turn_range _ 0 n, ?_, fun b hb => ?_, q⟩
  · have e1 : (0 : Int) + ((0 : Nat) : Int) * 1 = 0 := by simp
    have e2 : ((n : Nat) : Int) - ((0 : Nat) : Int) = Builtin.Range.rangeSize 0 n 1 := by rw [rangeSize_one]; split <;> omega
    show IsRangeIter _ _ ((0 : Int) + ((0 : Nat) : Int) * 1) (((n : Nat) : Int) - ((0 : Nat) : Int)) 1
    rw [e1, e2]
    exact Heap.get?_push_size _ rfl
  · have e : b = s1.heap.objs.size := by simpa using hb
    subst e
    exact I1.fpOk (Nat.le_refl _) (I1.hok.fresh (Nat.le_refl _))
theorem di_rngV (h : DE X Φ e w) : DI X Φ tg e (wItR w) := fun E hE => PI.imp (pi_rngV (h E hE)) fun σ H Q => by
  rintro ⟨S, F, R, hR, hw, k⟩
  refine ⟨S, F, _, hR, hw, fun d S1 v F1 H1 hw1 r1 hR1 x1 => ?_⟩
  cases r1 with
  | rng hf hn =>
    rename_i a n
    refine ⟨a, n, rfl, hR1.g.ext _ _ hf, hn, k _ S1 _ F1 H1 hw1 ?_ hR1 x1⟩
    have h := feeds_rng (K := X.K) (F := F1) (lo := 0) (n := n)
    simp only [Int.zero_add] at h
    exact h
  | _ => exact hw1.elim
end
/-! ### displays -/
def wDPs : List (WE × WE) → Sg → (List (Key × D) → Sg → Prop) → Prop
  | [], S, R => R [] S
  | (wk, wv) :: r, S, R => wk S fun x S1 => wv S1 fun d S2 => ∃ k, keyD x = some k ∧ wDPs r S2 fun kvs S3 => R ((k, d) :: kvs) S3
def wDLit (ws : List (WE × WE)) : WE := fun S R => wDPs ws S fun kvs S1 => kvs.length ≤ 15 ∧ (kvs.map (·.1)).Nodup ∧ R (dcP kvs) S1
def tX (K : PySem.W.Frag) (w : WE) : TE := fun σ H Q => ∃ E, LE K E w σ H Q
def DPs (X : Cx) (pos : Pos) (keys : List (Option Expr)) (values : List Expr) (ws : List (WE × WE)) : Prop := PPs X pos keys values (ws.map fun p => (tX X.K p.1, tX X.K p.2))
theorem dps_nil {X : Cx} {pos : Pos} : DPs X pos [] [] [] := pps_nil
theorem dps_cons {X : Cx} {pos : Pos} {k v : Expr} {ks : List (Option Expr)} {vs : List Expr} {wk wv : WE} {ws : List (WE × WE)} (hk : DE X Tr k wk) (hv : DE X Tr v wv) (hr : DPs X pos ks vs ws) : DPs X pos (some k :: ks) (v :: vs) ((wk, wv) :: ws) := pps_cons (pe_ex hk) (pe_ex hv) hr
theorem read_pairs {K : PySem.W.Frag} {E : En} {σ0 : L2.St} : ∀ (ws : List (WE × WE)) {σ : L2.St} {S : Sg} {F H : Hp} {R : List (Key × D) → Sg → Prop} {Q : List (V × V) → Hp → Prop}, Rel K E F H σ S → wDPs ws S R →
    (∀ kvs S' F' H' kv', R kvs S' → RepT K F' kv' kvs → Rel K E F' H' σ S' → Ext F F' → Q (kv'.map fun kv : Key × V => (kV kv.1, kv.2)) H') → tPairs (ws.map fun p => (tX K p.1, tX K p.2)) σ H Q
  | [], σ, S, F, H, R, Q, hR, hw, k => k [] S F H [] hw .nil hR (.refl _)
  | (wk, wv) :: r, σ, S, F, H, R, Q, hR, hw, k => by
    refine ⟨_, S, F, _, hR, hw, fun x S1 v1 F1 H1 hw1 r1 hR1 x1 => ⟨_, S1, F1, _, hR1, hw1, fun d S2 v2 F2 H2 hw2 r2 hR2 x2 => ?_⟩⟩
    obtain ⟨kk, h1, q⟩ := hw2
    rw [keyD_V r1 h1]
    refine read_pairs (σ0 := σ0) r hR2 q fun kvs S3 F3 H3 kv' hw3 rt hR3 x3 => ?_
    exact k _ S3 F3 H3 ((kk, v2) :: kv') hw3 ⟨by rw [List.map_cons, List.map_cons, rt.1], .cons (r2.mono x3) rt.2⟩ hR3 ((x1.trans x2).trans x3)
theorem putK_new {kvs : List (Key × V)} {k : Key} (y : V) (h : k ∉ kvs.map (·.1)) : putK kvs k y = kvs ++ [(k, y)] := by
  unfold putK
  rw [if_neg]
  intro z
  obtain ⟨p, hp, e⟩ := List.any_eq_true.mp z
  exact h (List.mem_map.mpr ⟨p, hp, by simpa using e⟩)
theorem mergeK_new : ∀ (more kvs : List (Key × V)), ((kvs ++ more).map (·.1)).Nodup → mergeK kvs more = kvs ++ more
  | [], kvs, _ => by rw [List.append_nil]; rfl
  | p :: r, kvs, h => by
    have hn : p.1 ∉ kvs.map (·.1) := fun z => by
      rw [List.map_append, List.map_cons, List.nodup_append] at h
      exact h.2.2 _ z _ (List.mem_cons_self ..) rfl
    show mergeK (putK kvs p.1 p.2) r = _
    rw [putK_new p.2 hn]
    have e : kvs ++ p :: r = (kvs ++ [p]) ++ r := by rw [List.append_assoc]; rfl
    rw [e] at h ⊢
    exact mergeK_new r _ h
section
variable {X : Cx} {Φ : En → Prop} {e o i f l : Expr} {p pos apos cpos : Pos} {w wd wi wf : WE} {x : Str}
theorem dn_dlit {keys : List (Option Expr)} {values : List Expr} {ws : List (WE × WE)} (h : DPs X pos keys values ws) (hall : keys.all (·.isSome) = true := by rfl) (hl : keys.length = values.length := by rfl) (h0 : keys ≠ [] := by simp) (h15 : keys.length ≤ 15 := by decide) :
    DN X Φ (.Dict keys values pos) (wDLit ws) := fun E hE => PE.imp (pe_disp h hall hl h0 h15) fun σ H Q => by
  rintro ⟨S, F, R, hR, hw, k⟩
  intro q hq
  obtain ⟨R1, back⟩ := hR.aside (o := .dK []) hq (fun _ z => nomatch z)
  refine read_pairs (σ0 := σ) ws R1 hw fun kvs S1 F1 H1 kv' hw1 rt hR1 x1 => ?_
  obtain ⟨b1, b2, b3, b4, b5, b6⟩ := back hR1
  obtain ⟨g1, g2, g3⟩ := hw1
  refine ⟨b1, kv', rfl, by rw [rt.length]; exact g1, ?_⟩
  rw [mergeK_new kv' [] (by rw [List.nil_append, rt.1]; exact g2), List.nil_append]
  exact k _ S1 q F1 _ g3 ⟨⟨_, upd_same, rt.1, rt.2⟩, b2, b3, b4, b5⟩ (b6.over b2 b3 b4 b5) x1
/-- d.get(k, x) -/
def wDGetD (wd wi wf : WE) : WE := fun S R => wd S fun x S1 => (∃ l : List (Key × D), x = dcP l ∨ ∃ a, x = .obj a ∧ S1.h a = some (mdP l)) ∧ wi S1 fun y S2 => wf S2 fun z S3 => ∃ l k, keyD y = some k ∧ (x = dcP l ∨ ∃ a, x = .obj a ∧ S3.h a = some (mdP l)) ∧ R ((look l k).getD z) S3
theorem de_dgetD (hu : X.A.units + 64 < cLine) (ho : DE X Φ o wd) (hi : DE X Φ i wi) (hf : DE X Φ f wf) (m : M2 X o "get" apos i f cpos) : DE X Φ (.Call (.Attribute o "get" apos) [i, f] [] cpos) (wDGetD wd wi wf) := fun E hE => PE.imp (pe_dget2 (u64 hu) (ho E hE) (hi E hE) (hf E hE) m) fun σ H Q => by
  rintro ⟨S, F, R, hR, hw, k⟩
  refine ⟨S, F, _, hR, hw, fun x S1 v1 F1 H1 hw1 r1 hR1 x1 => ?_⟩
  obtain ⟨⟨l0, h0⟩, hw1⟩ := hw1
  obtain ⟨a, kvs0, rfl, g4, g5⟩ := dd_at hR1 r1 (.refl _) h0
  refine ⟨a, rfl, .inl ⟨_, .of g4⟩, S1, F1, _, hR1, hw1, fun y S2 v2 F2 H2 hw2 r2 hR2 x2 => ⟨S2, F2, _, hR2, hw2, fun z S3 v3 F3 H3 hw3 r3 hR3 x3 => ?_⟩⟩
  obtain ⟨l, kk, h1, h2, q⟩ := hw3
  obtain ⟨a', kvs, e, h4, h5⟩ := dd_at hR3 r1 (x2.trans x3) h2
  cases e
  rw [keyD_V r2 h1]
  refine ⟨_, .k h4, ?_⟩
  obtain ⟨l1, l2⟩ := h5.lk kk
  cases hl : look l kk with
  | none =>
    rw [hl] at q
    rw [l2 hl]
    exact k _ S3 _ F3 H3 q r3 hR3 ((x1.trans x2).trans x3)
  | some d =>
    rw [hl] at q
    obtain ⟨u, h6, h7⟩ := l1 d hl
    rw [h6]
    exact k _ S3 _ F3 H3 q h7 hR3 ((x1.trans x2).trans x3)
/-- list(d), d a known dict -/
def wKeys (w : WE) : WE := fun S R => w S fun x S1 => ∃ (a : Addr) (l : List (Key × D)), x = .obj a ∧ S1.h a = some (mdP l) ∧ R (.lst (l.map fun kv => kD kv.1)) S1
theorem dn_keys (hc : X.calm = true) (ho : DE X Φ o wd) (hg : Gl X "list") (hm : X.mg "list" = none) (he : starEach [o] X.env = [(false, eval o X.env)] := by rfl) (hpl : (backTo pos (starEach [] X.env)).any (·.1) = false := by rfl) :
    DN X Φ (.Call (.Name "list" p) [o] [] pos) (wKeys wd) := fun E hE => PE.imp (pe_callTy (T := "list") (call_listD hc) hg hm (by decide +kernel) (pa_cons (ho E hE) pa_nil he) (he := he) (hpl := hpl)) fun σ H Q => by
  rintro ⟨S, F, R, hR, hw, k⟩
  refine ⟨S, F, _, hR, hw, fun x S1 v1 F1 H1 hw1 r1 hR1 x1 => ?_⟩
  obtain ⟨a, l, rfl, hj, hw2⟩ := hw1
  cases r1
  obtain ⟨kvs, hb, rb⟩ := ob_md (hR1.g.obs _ _ hj).1
  refine ⟨a, kvs, rfl, .inl hb, fun q hq => ?_⟩
  have rr : Reps X.K F1 (kvs.map fun kv => kV kv.1) (l.map fun kv => kD kv.1) := by
    have e1 : (kvs.map fun kv => kV kv.1) = (kvs.map (·.1)).map kV := by rw [List.map_map]; rfl
    have e2 : (l.map fun kv => kD kv.1) = (l.map (·.1)).map kD := by rw [List.map_map]; rfl
    rw [e1, e2, rb.1]
    generalize l.map (·.1) = ks
    induction ks with
    | nil => exact .nil
    | cons a ks ih => exact .cons (kD_rep a) ih
  obtain ⟨fr, hR'⟩ := fresh_of hR1 hq rr
  exact k _ S1 q F1 _ hw2 fr hR' x1
/-- k in a table of the top, where it is there -/
def wTabIn (b : Bool) (tab : List (Str × D)) (we : WE) : WE := fun S R => we S fun d S1 => match d with
  | .str z => (∃ e, lookS tab z = some e) ∧ R (.bl b) S1
  | _ => False
theorem CTab.tin {tab : List (Str × D)} (c : CTab X.K X.w X.mg x tab) (hg : Gl X x) (he : DE X Φ e w) (hm : behindInMarks .In (.Name x p) = false := by rfl) (hd : (x == ("__debug__" : Str)) = false := by decide) : DT X Φ (.Compare e [.In] [.Name x p] pos) (wBb (wTabIn true tab w)) := fun E hE => by
  obtain ⟨d, es, n, KD, hmg, hl⟩ := c.ex
  refine PT.imp (pt_cmpR (op_in_kd KD) (he E hE) (pe_glob (v := .ref d) hg hmg rfl hd) hm) fun σ H Q => ?_
  rintro ⟨S, F, R, hR, hw, k⟩
  refine ⟨S, F, _, hR, hw, fun y S1 v1 F1 H1 hw1 r1 hR1 x1 => ?_⟩
  split at hw1
  · cases r1
    obtain ⟨⟨e1, h1⟩, h2⟩ := hw1
    obtain ⟨u, v, h3, h4, h5⟩ := hl _ _ h1
    exact ⟨_, _, rfl, rfl, h3, _, rfl, k _ S1 F1 H1 h2 hR1 x1⟩
  · exact hw1.elim
theorem CTab.tnotin {tab : List (Str × D)} (c : CTab X.K X.w X.mg x tab) (hg : Gl X x) (he : DE X Φ e w) (hm : behindInMarks .NotIn (.Name x p) = false := by rfl) (hd : (x == ("__debug__" : Str)) = false := by decide) : DT X Φ (.Compare e [.NotIn] [.Name x p] pos) (wBb (wTabIn false tab w)) := fun E hE => by
  obtain ⟨d, es, n, KD, hmg, hl⟩ := c.ex
  refine PT.imp (pt_cmpR (op_notIn_kd KD) (he E hE) (pe_glob (v := .ref d) hg hmg rfl hd) hm) fun σ H Q => ?_
  rintro ⟨S, F, R, hR, hw, k⟩
  refine ⟨S, F, _, hR, hw, fun y S1 v1 F1 H1 hw1 r1 hR1 x1 => ?_⟩
  split at hw1
  · cases r1
    obtain ⟨⟨e1, h1⟩, h2⟩ := hw1
    obtain ⟨u, v, h3, h4, h5⟩ := hl _ _ h1
    exact ⟨_, _, rfl, rfl, h3, _, rfl, k _ S1 F1 H1 h2 hR1 x1⟩
  · exact hw1.elim
end
end VL

set_option Elab.async false
set_option linter.all false
set_option maxRecDepth 100000
set_option maxHeartbeats 4000000
/-! VT: the tape, and what all laws share -/
namespace VL
open PySem PySem.Spec L2
/-- a tape: the script's numbers, the next place, what is left of a great number, the state of the drawing -/
def Tp (h : Oh) (a : Addr) : Prop := ∃ (ns : List Int) (i r s : Int), h a = some (.ml [.lst (ns.map .int), .int i, .int r, .int s]) ∧ ns.length ≤ 63 ∧ 0 ≤ i ∧ 0 ≤ r ∧ 0 ≤ s ∧ s < 2147483647
/-- nothing but the tape has changed -/
def But (a : Addr) (h h' : Oh) : Prop := ∀ b, b ≠ a → h' b = h b
theorem But.refl (a : Addr) (h : Oh) : But a h h := fun _ _ => rfl
theorem But.trans {a : Addr} {h h1 h2 : Oh} (x : But a h h1) (y : But a h1 h2) : But a h h2 := fun b n => (y b n).trans (x b n)
theorem But.put (a : Addr) (h : Oh) (o : Ob) : But a h (h.put a o) := fun b n => Oh.put_ne n
@[irreducible] def sp_next : Spc := fun ds h R _ => ∃ a m, ds = [.obj a, .int m] ∧ Tp h a ∧ 0 < m ∧ m < 2 ^ 60 ∧ ∀ v h', 0 ≤ v → v < m → Tp h' a → But a h h' → R (.int v) h'
theorem sp_next_out {ds : List D} {h : Oh} {R : D → Oh → Prop} {E : XC} (q : sp_next ds h R E) : ∃ a m, ds = [.obj a, .int m] ∧ Tp h a ∧ 0 < m ∧ m < 2 ^ 60 ∧ ∀ v h', 0 ≤ v → v < m → Tp h' a → But a h h' → R (.int v) h' := by
  unfold sp_next at q
  exact q
theorem draw {h : Oh} {a : Addr} {m : Int} {R : D → Oh → Prop} {E : XC} (hT : Tp h a) (h1 : 0 < m) (h2 : m < 2 ^ 60) (k : ∀ v h', 0 ≤ v → v < m → Tp h' a → But a h h' → R (.int v) h') : sp_next [.obj a, .int m] h R E := by
  unfold sp_next
  exact ⟨a, m, rfl, hT, h1, h2, k⟩
/-- law: the script goes in, True comes out -/
def sp_true : Spc := fun ds h R _ => ∃ ns : List Int, ds = [.scr ns] ∧ ns.length ≤ 63 ∧ ∀ h', R (.bl true) h'
theorem atI_map {α β : Type} {f : α → β} {xs : List α} {i : Int} (h0 : 0 ≤ i) (h : i < xs.length) : ∃ x, xs[i.toNat]? = some x ∧ atI (xs.map f) i = some (f x) := by
  have hi : i.toNat < xs.length := by omega
  refine ⟨xs[i.toNat], List.getElem?_eq_getElem hi, ?_⟩
  unfold atI ixN
  rw [if_pos h0, if_pos (by rw [List.length_map]; exact h)]
  show (xs.map f)[i.toNat]? = _
  rw [List.getElem?_map, List.getElem?_eq_getElem hi]
  rfl
theorem cdiv {i j : Int} (h : 0 < j) (h2 : j < 2 ^ 60) : CDivW i j := wide_div h (b := 60) (by omega) (by decide) (by decide)
theorem cdiv2 {i : Int} : CDivW i 2 := cdiv (by decide) (by decide)
theorem cmul {i j : Int} (a b : Nat) (ha : i.natAbs < 2 ^ a) (hb : j.natAbs < 2 ^ b) (h : a + b ≤ 134217728) : CMulX i j := mulx_ok ha hb h
theorem forc {g : WG} {tb : WS} {T : We} {x : D} {xs : List D} {S : Sg} (h : g x S fun S1 => tb { T with nx := wForL g tb T xs, ct := wForL g tb T xs, bk := T.nx } S1) : wForL g tb T (x :: xs) S := h
theorem forv {i : Nat} {tb : WS} {T : We} {x : D} {xs : List D} {S : Sg} (h : tb { T with nx := wForL (gVar i) tb T xs, ct := wForL (gVar i) tb T xs, bk := T.nx } (S.st i (.f x))) : wForL (gVar i) tb T (x :: xs) S := h
open PyProof.Rows
def w_next_6 : WS :=
  (wRet (wOp opMod (wCB bInt (wCons (wOp opDiv (wOp opMod (wOp opMul (wIx (wVar 0) (wC (.int 3))) (wC (.int 16807))) (wC (.int 2147483647))) (wC (.int 7))) wNil)) (wVar 1)))
def w_next_5 : WS :=
  (wSeq (wAsg (wOp opMod (wCB bInt (wCons (wOp opAdd (wOp opAdd (wOp opMul (wIx (wVar 0) (wC (.int 3))) (wC (.int 48271))) (wOp opMul (wVar 3) (wC (.int 69621)))) (wC (.int 11))) wNil)) (wC (.int 2147483647))) (gIxM (wVar 0) (wC (.int 3))))
  w_next_6)
def w_next_4 : WS :=
  (wSeq (wIfS (wBb (wOp opGe (wVar 3) (wOp opPow (wC (.int 10)) (wC (.int 18))))) (wSeq (wAsg (wOp opDiv (wVar 3) (wVar 1)) (gIxM (wVar 0) (wC (.int 2))))
  (wRet (wOp opMod (wCB bInt (wCons (wVar 3) wNil)) (wVar 1)))) wNext)
  w_next_5)
def w_next_3 : WS :=
  (wSeq (wIfS (wBb (wOp opLt (wIx (wVar 0) (wC (.int 1))) (wCB bLen (wCons (wIx (wVar 0) (wC (.int 0))) wNil)))) (wSeq (wAsg (wCB bAbs (wCons (wIx (wIx (wVar 0) (wC (.int 0))) (wIx (wVar 0) (wC (.int 1)))) wNil)) (gVar 3))
  (wAugM (wVar 0) (wC (.int 1)) opAddI (wC (.int 1)))) wNext)
  w_next_4)
def w_next_2 : WS :=
  (wSeq (wAsg (wC (.int 0)) (gVar 3))
  w_next_3)
def w_next_1 : WS :=
  (wSeq (wIfS (wBb (wOp opGt (wVar 2) (wC (.int 0)))) (wSeq (wAsg (wOp opDiv (wVar 2) (wVar 1)) (gIxM (wVar 0) (wC (.int 2))))
  (wRet (wOp opMod (wCB bInt (wCons (wVar 2) wNil)) (wVar 1)))) wNext)
  w_next_2)
def w_next : WS :=
  (wSeq (wAsg (wIx (wVar 0) (wC (.int 2))) (gVar 2))
  w_next_1)
theorem pk_next : Pk 2 2 sp_next w_next := by
  intro ds h R _ q
  obtain ⟨a, m, rfl, ⟨ns, i, r, s, hT, hn, hi, hr, hs, hs2⟩, hm, hm2, hR⟩ := sp_next_out q
  refine ⟨_, _, hT, rfl, ?_⟩
  refine br (fun e => ?_) (fun e => ?_)
  · refine ⟨cdiv hm hm2, a, _, 2, 2, rfl, rfl, hT, rfl, hm, ?_⟩
    refine hR _ _ (Int.emod_nonneg _ (by omega)) (Int.emod_lt_of_pos _ hm) ⟨ns, i, r / m, s, Oh.put_same, hn, hi, Int.ediv_nonneg hr (by omega), hs, hs2⟩ (But.put _ _ _)
  -- the rest, from any cell
  have rest : ∀ (h1 : Oh) (i1 c : Int), 0 ≤ c → h1 a = some (.ml [.lst (ns.map .int), .int i1, .int r, .int s]) → 0 ≤ i1 → But a h h1 →
      w_next_4 (Fi R) ⟨[.f (.obj a), .f (.int m), .f (.int r), .f (.int c)], h1⟩ := fun h1 i1 c hc hT1 hi1 hb => by
    refine ⟨⟨by decide, by decide, by decide⟩, ?_⟩
    refine br (fun e2 => ?_) (fun e2 => ?_)
    · refine ⟨cdiv hm hm2, a, _, 2, 2, rfl, rfl, hT1, rfl, hm, ?_⟩
      refine hR _ _ (Int.emod_nonneg _ (by omega)) (Int.emod_lt_of_pos _ hm) ⟨ns, i1, c / m, s, Oh.put_same, hn, hi1, Int.ediv_nonneg hc (by omega), hs, hs2⟩ (hb.trans (But.put _ _ _))
    · have hc2 : c < 10 ^ 18 := by
        have := of_decide_eq_false e2
        have e3 : ((10 : Int) ^ (18 : Int).toNat) = 10 ^ 18 := rfl
        rw [e3] at this
        omega
      refine ⟨_, _, hT1, rfl, cmul 32 17 (by omega) (by decide) (by decide), cmul 60 18 (by omega) (by decide) (by decide), ?_⟩
      refine ⟨(by decide : (0 : Int) < 2147483647), a, _, 3, 3, rfl, rfl, hT1, rfl, ?_⟩
      have b1 : 0 ≤ (s * 48271 + c * 69621 + 11) % 2147483647 := Int.emod_nonneg _ (by decide)
      have b2 : (s * 48271 + c * 69621 + 11) % 2147483647 < 2147483647 := Int.emod_lt_of_pos _ (by decide)
      refine ⟨_, _, Oh.put_same, rfl, cmul 32 17 (by omega) (by decide) (by decide), (by decide : (0 : Int) < 2147483647), wide_div (b := 4) (by decide) (by decide) (by decide) (by decide), hm, ?_⟩
      exact hR _ _ (Int.emod_nonneg _ (by omega)) (Int.emod_lt_of_pos _ hm) ⟨ns, i1, r, _, Oh.put_same, hn, hi1, hr, b1, b2⟩ (hb.trans (But.put _ _ _))
  refine ⟨_, _, hT, rfl, _, _, hT, rfl, ?_⟩
  refine br (fun e2 => ?_) (fun e2 => ?_)
  · have e3 : i < ns.length := by
      have := of_decide_eq_true e2
      rw [List.length_map] at this
      exact this
    obtain ⟨x, hx, ha⟩ := atI_map (f := D.int) hi e3
    refine ⟨_, _, hT, rfl, _, _, hT, rfl, _, ha, ?_⟩
    refine ⟨a, _, 1, _, rfl, rfl, hT, rfl, _, 1, hT, rfl, ?_⟩
    exact rest _ (i + 1) _ (by split <;> omega) Oh.put_same (by omega) (But.put _ _ _)
  · exact rest h i 0 (by decide) hT hi (But.refl _ _)
end VL

set_option Elab.async false
set_option linter.all false
set_option maxRecDepth 100000
set_option maxHeartbeats 400000
/-! VTs: the tape's step, where * serves texts too -/
namespace VL
open PySem PySem.Spec PyProof.Rows L2
def w_nextS_6 : WS :=
  (wRet (wOp opMod (wCB bInt (wCons (wOp opDiv (wOp opMod (wOp opMulS (wIx (wVar 0) (wC (.int 3))) (wC (.int 16807))) (wC (.int 2147483647))) (wC (.int 7))) wNil)) (wVar 1)))
def w_nextS_5 : WS :=
  (wSeq (wAsg (wOp opMod (wCB bInt (wCons (wOp opAdd (wOp opAdd (wOp opMulS (wIx (wVar 0) (wC (.int 3))) (wC (.int 48271))) (wOp opMulS (wVar 3) (wC (.int 69621)))) (wC (.int 11))) wNil)) (wC (.int 2147483647))) (gIxM (wVar 0) (wC (.int 3))))
  w_nextS_6)
def w_nextS_4 : WS :=
  (wSeq (wIfS (wBb (wOp opGe (wVar 3) (wOp opPow (wC (.int 10)) (wC (.int 18))))) (wSeq (wAsg (wOp opDiv (wVar 3) (wVar 1)) (gIxM (wVar 0) (wC (.int 2))))
  (wRet (wOp opMod (wCB bInt (wCons (wVar 3) wNil)) (wVar 1)))) wNext)
  w_nextS_5)
def w_nextS_3 : WS :=
  (wSeq (wIfS (wBb (wOp opLt (wIx (wVar 0) (wC (.int 1))) (wCB bLen (wCons (wIx (wVar 0) (wC (.int 0))) wNil)))) (wSeq (wAsg (wCB bAbs (wCons (wIx (wIx (wVar 0) (wC (.int 0))) (wIx (wVar 0) (wC (.int 1)))) wNil)) (gVar 3))
  (wAugM (wVar 0) (wC (.int 1)) opAddI (wC (.int 1)))) wNext)
  w_nextS_4)
def w_nextS_2 : WS :=
  (wSeq (wAsg (wC (.int 0)) (gVar 3))
  w_nextS_3)
def w_nextS_1 : WS :=
  (wSeq (wIfS (wBb (wOp opGt (wVar 2) (wC (.int 0)))) (wSeq (wAsg (wOp opDiv (wVar 2) (wVar 1)) (gIxM (wVar 0) (wC (.int 2))))
  (wRet (wOp opMod (wCB bInt (wCons (wVar 2) wNil)) (wVar 1)))) wNext)
  w_nextS_2)
def w_nextS : WS :=
  (wSeq (wAsg (wIx (wVar 0) (wC (.int 2))) (gVar 2))
  w_nextS_1)
theorem pk_nextS : Pk 2 2 sp_next w_nextS := by
  intro ds h R _ q
  obtain ⟨a, m, rfl, ⟨ns, i, r, s, hT, hn, hi, hr, hs, hs2⟩, hm, hm2, hR⟩ := sp_next_out q
  refine ⟨_, _, hT, rfl, ?_⟩
  refine br (fun e => ?_) (fun e => ?_)
  · refine ⟨cdiv hm hm2, a, _, 2, 2, rfl, rfl, hT, rfl, hm, ?_⟩
    refine hR _ _ (Int.emod_nonneg _ (by omega)) (Int.emod_lt_of_pos _ hm) ⟨ns, i, r / m, s, Oh.put_same, hn, hi, Int.ediv_nonneg hr (by omega), hs, hs2⟩ (But.put _ _ _)
  -- the rest, from any cell
  have rest : ∀ (h1 : Oh) (i1 c : Int), 0 ≤ c → h1 a = some (.ml [.lst (ns.map .int), .int i1, .int r, .int s]) → 0 ≤ i1 → But a h h1 →
      w_nextS_4 (Fi R) ⟨[.f (.obj a), .f (.int m), .f (.int r), .f (.int c)], h1⟩ := fun h1 i1 c hc hT1 hi1 hb => by
    refine ⟨⟨by decide, by decide, by decide⟩, ?_⟩
    refine br (fun e2 => ?_) (fun e2 => ?_)
    · refine ⟨cdiv hm hm2, a, _, 2, 2, rfl, rfl, hT1, rfl, hm, ?_⟩
      refine hR _ _ (Int.emod_nonneg _ (by omega)) (Int.emod_lt_of_pos _ hm) ⟨ns, i1, c / m, s, Oh.put_same, hn, hi1, Int.ediv_nonneg hc (by omega), hs, hs2⟩ (hb.trans (But.put _ _ _))
    · have hc2 : c < 10 ^ 18 := by
        have := of_decide_eq_false e2
        have e3 : ((10 : Int) ^ (18 : Int).toNat) = 10 ^ 18 := rfl
        rw [e3] at this
        omega
      refine ⟨_, _, hT1, rfl, cmul 32 17 (by omega) (by decide) (by decide), cmul 60 18 (by omega) (by decide) (by decide), ?_⟩
      refine ⟨(by decide : (0 : Int) < 2147483647), a, _, 3, 3, rfl, rfl, hT1, rfl, ?_⟩
      have b1 : 0 ≤ (s * 48271 + c * 69621 + 11) % 2147483647 := Int.emod_nonneg _ (by decide)
      have b2 : (s * 48271 + c * 69621 + 11) % 2147483647 < 2147483647 := Int.emod_lt_of_pos _ (by decide)
      refine ⟨_, _, Oh.put_same, rfl, cmul 32 17 (by omega) (by decide) (by decide), (by decide : (0 : Int) < 2147483647), wide_div (b := 4) (by decide) (by decide) (by decide) (by decide), hm, ?_⟩
      exact hR _ _ (Int.emod_nonneg _ (by omega)) (Int.emod_lt_of_pos _ hm) ⟨ns, i1, r, _, Oh.put_same, hn, hi1, hr, b1, b2⟩ (hb.trans (But.put _ _ _))
  refine ⟨_, _, hT, rfl, _, _, hT, rfl, ?_⟩
  refine br (fun e2 => ?_) (fun e2 => ?_)
  · have e3 : i < ns.length := by
      have := of_decide_eq_true e2
      rw [List.length_map] at this
      exact this
    obtain ⟨x, hx, ha⟩ := atI_map (f := D.int) hi e3
    refine ⟨_, _, hT, rfl, _, _, hT, rfl, _, ha, ?_⟩
    refine ⟨a, _, 1, _, rfl, rfl, hT, rfl, _, 1, hT, rfl, ?_⟩
    exact rest _ (i + 1) _ (by split <;> omega) Oh.put_same (by omega) (But.put _ _ _)
  · exact rest h i 0 (by decide) hT hi (But.refl _ _)
end VL

set_option Elab.async false
set_option linter.all false
set_option maxRecDepth 100000
set_option maxHeartbeats 4000000
/-! VN1: exact numbers (points 3 4): forms, their mathematics, promises -/
namespace VL.N
open PySem PySem.Spec L2 VL
def k_ZERO : D := (.tup [(.int 0), (.int 0), (.int 0), (.int 0), (.int 0)])
def k_ONE : D := (.tup [(.int 1), (.int 0), (.int 0), (.int 0), (.int 0)])
def k_HALF : D := (.tup [(.int 1), (.int 0), (.int 0), (.int 0), (.int 2)])
def k_ROOT : D := (.tup [(.int 1), (.int 0), (.int 0), (.int 0), (.int 1)])
structure Qd where
  a : Int
  b : Int
  c : Int
  d : Int
  deriving DecidableEq
structure Nm where
  q : Qd
  k : Int
  deriving DecidableEq
def Nm.e (x : Nm) : D := .tup [.int x.q.a, .int x.q.b, .int x.q.c, .int x.q.d, .int x.k]
def Qd.e (x : Qd) : D := .tup [.int x.a, .int x.b, .int x.c, .int x.d]
def up (x : Qd) : Qd := ⟨x.b - x.d, x.a + x.c, x.b + x.d, x.c - x.a⟩
def dn (x : Qd) : Qd := ⟨(x.b - x.d) / 2, (x.a + x.c) / 2, (x.b + x.d) / 2, (x.c - x.a) / 2⟩
def ups : Nat → Qd → Qd
  | 0, x => x
  | n + 1, x => ups n (up x)
def evn (x : Qd) : Bool := (x.b - x.d) % 2 == 0 && (x.a + x.c) % 2 == 0
def dns : Nat → Qd → Nm
  | 0, x => ⟨x, 0⟩
  | n + 1, x => if evn x then dns n (dn x) else ⟨x, n + 1⟩
def zq : Qd := ⟨0, 0, 0, 0⟩
def fm (q : Qd) (k : Int) : Nm := if q = zq then ⟨zq, 0⟩ else dns k.toNat (ups (-k).toNat q)
def Qd.add (x y : Qd) : Qd := ⟨x.a + y.a, x.b + y.b, x.c + y.c, x.d + y.d⟩
def Qd.neg (x : Qd) : Qd := ⟨-x.a, -x.b, -x.c, -x.d⟩
def mulq (x y : Qd) : Qd := ⟨x.a * y.a - x.b * y.d - x.c * y.c - x.d * y.b, x.a * y.b + x.b * y.a - x.c * y.d - x.d * y.c, x.a * y.c + x.b * y.b + x.c * y.a - x.d * y.d, x.a * y.d + x.b * y.c + x.c * y.b + x.d * y.a⟩
def rsd (x : Nm) (k : Int) : Qd := ups (k - x.k).toNat x.q
def mx (i j : Int) : Int := if j > i then j else i
def pls (x y : Nm) : Nm := fm ((rsd x (mx x.k y.k)).add (rsd y (mx x.k y.k))) (mx x.k y.k)
def ngt (x : Nm) : Nm := ⟨x.q.neg, x.k⟩
def tms (x y : Nm) : Nm := fm (mulq x.q y.q) (x.k + y.k)
def cnj (x : Nm) : Nm := ⟨⟨x.q.a, -x.q.d, -x.q.c, -x.q.b⟩, x.k⟩
def isr (x : Nm) : Bool := x.q.c == 0 && x.q.d == -x.q.b
def posv (a b : Int) : Bool :=
  if 0 ≤ a ∧ 0 ≤ b then decide (0 < a) || decide (0 < b) else if a ≤ 0 ∧ b ≤ 0 then false else decide (0 < a) == decide (2 * b * b < a * a)
def psr (x : Nm) : Bool := isr x && posv x.q.a x.q.b
def rt (n : Int) : Nm := let s : Int := if n % 8 < 4 then 1 else -1
  ⟨⟨if n % 4 = 0 then s else 0, if n % 4 = 1 then s else 0, if n % 4 = 2 then s else 0, if n % 4 = 3 then s else 0⟩, 0⟩
def smv (x y : Nm) : Bool := decide (rsd x (mx x.k y.k) = rsd y (mx x.k y.k))
def nf (x : Nm) : Bool := decide (0 ≤ x.k) && (if x.q = zq then decide (x.k = 0) else decide (x.k = 0) || decide ((x.q.b - x.q.d) % 2 = 1) || decide ((x.q.a + x.q.c) % 2 = 1))
/-- below 2^n -/
def Bd (n : Nat) (x : Qd) : Prop := x.a.natAbs < 2 ^ n ∧ x.b.natAbs < 2 ^ n ∧ x.c.natAbs < 2 ^ n ∧ x.d.natAbs < 2 ^ n
def sp_formed : Spc := fun ds h R _ => ∃ a b c d k, ds = [.int a, .int b, .int c, .int d, .int k] ∧ R (fm ⟨a, b, c, d⟩ k).e h
def sp_raised : Spc := fun ds h R _ => ∃ x k, ds = [Nm.e x, .int k] ∧ R (rsd x k).e h
def sp_plus : Spc := fun ds h R _ => ∃ x y, ds = [Nm.e x, Nm.e y] ∧ R (pls x y).e h
def sp_negative : Spc := fun ds h R _ => ∃ x, ds = [Nm.e x] ∧ R (ngt x).e h
def sp_minus : Spc := fun ds h R _ => ∃ x y, ds = [Nm.e x, Nm.e y] ∧ R (pls x (ngt y)).e h
def sp_times : Spc := fun ds h R _ => ∃ x y, ds = [Nm.e x, Nm.e y] ∧ Bd 4000 x.q ∧ Bd 4000 y.q ∧ R (tms x y).e h
def sp_conjugate : Spc := fun ds h R _ => ∃ x, ds = [Nm.e x] ∧ R (cnj x).e h
def sp_root : Spc := fun ds h R _ => ∃ n, ds = [.int n] ∧ R (rt n).e h
def sp_total : Spc := fun ds h R _ => ∃ xs : List Nm, ds = [.lst (xs.map Nm.e)] ∧ R (xs.foldl pls ⟨zq, 0⟩).e h
theorem Qd.ext {x y : Qd} (h1 : x.a = y.a) (h2 : x.b = y.b) (h3 : x.c = y.c) (h4 : x.d = y.d) : x = y := by
  cases x; cases y
  simp only at h1 h2 h3 h4
  subst h1 h2 h3 h4
  rfl
theorem up_add (x y : Qd) : up (x.add y) = (up x).add (up y) := by
  apply Qd.ext <;> simp only [up, Qd.add] <;> omega
theorem up_neg (x : Qd) : up x.neg = (up x).neg := by
  apply Qd.ext <;> simp only [up, Qd.neg] <;> omega
theorem ups_add : ∀ (n : Nat) (x y : Qd), ups n (x.add y) = (ups n x).add (ups n y)
  | 0, _, _ => rfl
  | n + 1, x, y => by
    show ups n (up (x.add y)) = _
    rw [up_add, ups_add n]
    rfl
theorem ups_neg : ∀ (n : Nat) (x : Qd), ups n x.neg = (ups n x).neg
  | 0, _ => rfl
  | n + 1, x => by
    show ups n (up x.neg) = _
    rw [up_neg, ups_neg n]
    rfl
theorem ups_ups : ∀ (n m : Nat) (x : Qd), ups m (ups n x) = ups (n + m) x
  | 0, m, x => by
    rw [Nat.zero_add]
    rfl
  | n + 1, m, x => by
    rw [show n + 1 + m = (n + m) + 1 by omega]
    exact ups_ups n m (up x)
theorem ups_zq : ∀ n, ups n zq = zq
  | 0 => rfl
  | n + 1 => ups_zq n
theorem up_inj {x y : Qd} (h : up x = up y) : x = y := by
  have h1 := congrArg Qd.a h
  have h2 := congrArg Qd.b h
  have h3 := congrArg Qd.c h
  have h4 := congrArg Qd.d h
  simp only [up] at h1 h2 h3 h4
  apply Qd.ext <;> omega
theorem ups_inj : ∀ {n : Nat} {x y : Qd}, ups n x = ups n y → x = y
  | 0, _, _, h => h
  | n + 1, _, _, h => up_inj (ups_inj (n := n) h)
theorem up_dn {x : Qd} (h : evn x = true) : up (dn x) = x := by
  unfold evn at h
  rw [Bool.and_eq_true, beq_iff_eq, beq_iff_eq] at h
  obtain ⟨h1, h2⟩ := h
  apply Qd.ext <;> simp only [up, dn] <;> omega
theorem evn_up (x : Qd) : evn (up x) = true := by
  unfold evn
  rw [Bool.and_eq_true, beq_iff_eq, beq_iff_eq]
  simp only [up]
  omega
theorem dns_k : ∀ (l : Nat) (q : Qd), 0 ≤ (dns l q).k ∧ (dns l q).k ≤ l
  | 0, q => ⟨Int.le_refl _, Int.le_refl _⟩
  | l + 1, q => by
    unfold dns
    have := dns_k l (dn q)
    split
    · omega
    · show 0 ≤ ((l : Int) + 1) ∧ ((l : Int) + 1) ≤ ((l + 1 : Nat) : Int)
      omega
theorem rsd_dns : ∀ (l : Nat) (q : Qd) (N : Int), (l : Int) ≤ N → rsd (dns l q) N = ups (N - l).toNat q
  | 0, q, N, _ => rfl
  | l + 1, q, N, h => by
    unfold dns
    split
    · rename_i e
      rw [rsd_dns l (dn q) N (by omega), show (N - l).toNat = (N - ((l + 1 : Nat) : Int)).toNat + 1 by omega]
      show ups _ (up (dn q)) = _
      rw [up_dn e]
    · rfl
theorem fm_k (q : Qd) (k : Int) : 0 ≤ (fm q k).k ∧ ((fm q k).k ≤ k ∨ (fm q k).k = 0) := by
  unfold fm
  split
  · exact ⟨Int.le_refl _, .inr rfl⟩
  · have := dns_k k.toNat (ups (-k).toNat q)
    omega
theorem rsd_fm (q : Qd) (k N : Int) (h : k ≤ N) (h0 : 0 ≤ N) : rsd (fm q k) N = ups (N - k).toNat q := by
  unfold fm
  split
  · rename_i e
    subst e
    show ups _ zq = _
    rw [ups_zq, ups_zq]
  · rw [rsd_dns _ _ _ (by omega), ups_ups]
    congr 1
    omega
theorem dn_ne {q : Qd} (h : q ≠ zq) (e : evn q = true) : dn q ≠ zq := fun z => h (by
  rw [← up_dn e, z]
  rfl)
theorem ups_ne {q : Qd} (h : q ≠ zq) (n : Nat) : ups n q ≠ zq := fun z => h (ups_inj (z.trans (ups_zq n).symm))
theorem nf_dns : ∀ (l : Nat) (q : Qd), q ≠ zq → nf (dns l q) = true
  | 0, q, h => by
    unfold nf dns
    rw [if_neg h]
    rfl
  | l + 1, q, h => by
    unfold dns
    split
    · rename_i e
      exact nf_dns l (dn q) (dn_ne h e)
    · rename_i e
      unfold nf
      rw [if_neg h]
      unfold evn at e
      have e' : ¬ ((q.b - q.d) % 2 = 0 ∧ (q.a + q.c) % 2 = 0) := by simpa using e
      have h1 : (0 : Int) ≤ (l : Int) + 1 := by omega
      have h2 : (q.b - q.d) % 2 = 1 ∨ (q.a + q.c) % 2 = 1 := by omega
      rw [decide_eq_true h1, Bool.true_and]
      rcases h2 with h2 | h2
      · rw [decide_eq_true h2, Bool.or_true, Bool.true_or]
      · rw [decide_eq_true h2, Bool.or_true]
theorem nf_fm (q : Qd) (k : Int) : nf (fm q k) = true := by
  unfold fm
  split
  · rfl
  · rename_i h
    exact nf_dns _ _ (ups_ne h _)
theorem rsd_self (q : Qd) (k : Int) : rsd ⟨q, k⟩ k = q := by
  show ups (k - k).toNat q = q
  rw [Int.sub_self]
  rfl
theorem mx_le {i j : Int} (h : i ≤ j) : mx i j = j := by
  unfold mx
  split <;> omega
/-- what is formed has the value that it was formed of -/
theorem smv_fm (q : Qd) (k : Int) (h : 0 ≤ k) : smv (fm q k) ⟨q, k⟩ = true := by
  have hk := fm_k q k
  unfold smv
  rw [mx_le (show (fm q k).k ≤ k by omega), rsd_fm q k k (Int.le_refl _) h, rsd_self, Int.sub_self]
  exact decide_eq_true rfl
theorem smv_fmu (q : Qd) (k : Int) : smv (fm q k) ⟨rsd ⟨q, k⟩ (mx 0 k), mx 0 k⟩ = true := by
  have hk := fm_k q k
  have hm : 0 ≤ mx 0 k ∧ k ≤ mx 0 k := by unfold mx; split <;> omega
  unfold smv
  show decide (rsd (fm q k) (mx (fm q k).k (mx 0 k)) = rsd ⟨rsd ⟨q, k⟩ (mx 0 k), mx 0 k⟩ (mx (fm q k).k (mx 0 k))) = true
  rw [mx_le (show (fm q k).k ≤ mx 0 k by omega), rsd_fm q k _ hm.2 hm.1, rsd_self]
  exact decide_eq_true rfl
theorem nf_unique {x y : Nm} (hx : nf x = true) (hy : nf y = true) {N : Int} (h1 : x.k ≤ N) (h2 : y.k ≤ N) (h : rsd x N = rsd y N) : x = y := by
  have key : ∀ {x y : Nm}, nf x = true → nf y = true → y.k ≤ N → x.k < y.k → rsd x N = rsd y N → False := fun {x y} hx hy h2 hlt h => by
    have e1 : rsd x N = ups (N - y.k).toNat (rsd x y.k) := by
      unfold rsd
      rw [ups_ups]
      congr 1
      omega
    rw [e1] at h
    have e2 : rsd x y.k = y.q := ups_inj h
    unfold rsd at e2
    obtain ⟨n, hn⟩ : ∃ n, (y.k - x.k).toNat = n + 1 := ⟨(y.k - x.k).toNat - 1, by omega⟩
    have e3 : ups (n + 1) x.q = up (ups n x.q) := (ups_ups n 1 x.q).symm
    rw [hn, e3] at e2
    have ev := evn_up (ups n x.q)
    rw [e2] at ev
    unfold evn at ev
    rw [Bool.and_eq_true, beq_iff_eq, beq_iff_eq] at ev
    unfold nf at hx hy
    rw [Bool.and_eq_true, decide_eq_true_eq] at hx hy
    have hx0 := hx.1
    have hy1 := hy.2
    split at hy1
    · rw [decide_eq_true_eq] at hy1
      omega
    · rw [Bool.or_eq_true, Bool.or_eq_true, decide_eq_true_eq, decide_eq_true_eq, decide_eq_true_eq] at hy1
      omega
  rcases Int.lt_trichotomy x.k y.k with c | c | c
  · exact (key hx hy h2 c h).elim
  · cases x
    cases y
    simp only at c
    subst c
    have := ups_inj h
    simp only at this
    rw [this]
  · exact (key hy hx h1 c h.symm).elim
theorem mx_ge (i j : Int) : i ≤ mx i j ∧ j ≤ mx i j := by unfold mx; split <;> omega
theorem rsd_up (x : Nm) {K N : Int} (h : x.k ≤ K) (h2 : K ≤ N) : ups (N - K).toNat (rsd x K) = rsd x N := by
  unfold rsd
  rw [ups_ups]
  congr 1
  omega
theorem rsd_pls (x y : Nm) (N : Int) (h0 : 0 ≤ N) (h : mx x.k y.k ≤ N) : rsd (pls x y) N = (rsd x N).add (rsd y N) := by
  have hm := mx_ge x.k y.k
  unfold pls
  rw [rsd_fm _ _ _ h h0, ups_add, rsd_up x hm.1 h, rsd_up y hm.2 h]
theorem add_assoc (x y z : Qd) : (x.add y).add z = x.add (y.add z) := by
  apply Qd.ext <;> simp only [Qd.add] <;> omega
theorem zq_add (x : Qd) : zq.add x = x := by
  apply Qd.ext <;> simp only [Qd.add, zq] <;> omega
theorem pls_k (x y : Nm) (N : Int) (h0 : 0 ≤ N) (h : mx x.k y.k ≤ N) : 0 ≤ (pls x y).k ∧ (pls x y).k ≤ N := by
  have := fm_k ((rsd x (mx x.k y.k)).add (rsd y (mx x.k y.k))) (mx x.k y.k)
  unfold pls
  omega
theorem mx_bd {i j N : Int} (h1 : i ≤ N) (h2 : j ≤ N) : mx i j ≤ N := by unfold mx; split <;> omega
/-- the total of four numbers -/
theorem total4 (x y z w : Nm) : [x, y, z, w].foldl pls ⟨zq, 0⟩ = pls (pls x y) (pls z w) := by
  show pls (pls (pls (pls ⟨zq, 0⟩ x) y) z) w = _
  obtain ⟨N, h0, hx, hy, hz, hw⟩ : ∃ N : Int, 0 ≤ N ∧ x.k ≤ N ∧ y.k ≤ N ∧ z.k ≤ N ∧ w.k ≤ N := ⟨x.k.natAbs + y.k.natAbs + z.k.natAbs + w.k.natAbs, by omega, by omega, by omega, by omega, by omega⟩
  have k1 := pls_k ⟨zq, 0⟩ x N h0 (mx_bd h0 hx)
  have k2 := pls_k _ y N h0 (mx_bd k1.2 hy)
  have k3 := pls_k _ z N h0 (mx_bd k2.2 hz)
  have k4 := pls_k x y N h0 (mx_bd hx hy)
  have k5 := pls_k z w N h0 (mx_bd hz hw)
  have k6 := pls_k _ w N h0 (mx_bd k3.2 hw)
  have k7 := pls_k _ _ N h0 (mx_bd k4.2 k5.2)
  refine nf_unique (nf_fm _ _) (nf_fm _ _) k6.2 k7.2 ?_
  rw [rsd_pls _ w N h0 (mx_bd k3.2 hw), rsd_pls _ z N h0 (mx_bd k2.2 hz), rsd_pls _ y N h0 (mx_bd k1.2 hy), rsd_pls _ x N h0 (mx_bd h0 hx), rsd_pls _ _ N h0 (mx_bd k4.2 k5.2), rsd_pls x y N h0 (mx_bd hx hy), rsd_pls z w N h0 (mx_bd hz hw)]
  have e : rsd ⟨zq, 0⟩ N = zq := ups_zq _
  rw [e, zq_add, add_assoc, add_assoc]
theorem rt_mul (n : Int) : tms (rt n) (rt (0 - n)) = ⟨⟨1, 0, 0, 0⟩, 0⟩ := by
  have h : n % 8 = 0 ∨ n % 8 = 1 ∨ n % 8 = 2 ∨ n % 8 = 3 ∨ n % 8 = 4 ∨ n % 8 = 5 ∨ n % 8 = 6 ∨ n % 8 = 7 := by omega
  unfold tms rt
  rcases h with h | h | h | h | h | h | h | h
  · rw [h, show n % 4 = 0 by omega, show (0 - n) % 8 = 0 by omega, show (0 - n) % 4 = 0 by omega]; decide
  · rw [h, show n % 4 = 1 by omega, show (0 - n) % 8 = 7 by omega, show (0 - n) % 4 = 3 by omega]; decide
  · rw [h, show n % 4 = 2 by omega, show (0 - n) % 8 = 6 by omega, show (0 - n) % 4 = 2 by omega]; decide
  · rw [h, show n % 4 = 3 by omega, show (0 - n) % 8 = 5 by omega, show (0 - n) % 4 = 1 by omega]; decide
  · rw [h, show n % 4 = 0 by omega, show (0 - n) % 8 = 4 by omega, show (0 - n) % 4 = 0 by omega]; decide
  · rw [h, show n % 4 = 1 by omega, show (0 - n) % 8 = 3 by omega, show (0 - n) % 4 = 3 by omega]; decide
  · rw [h, show n % 4 = 2 by omega, show (0 - n) % 8 = 2 by omega, show (0 - n) % 4 = 2 by omega]; decide
  · rw [h, show n % 4 = 3 by omega, show (0 - n) % 8 = 1 by omega, show (0 - n) % 4 = 1 by omega]; decide
theorem rt_next (n : Int) : tms (rt n) (rt 1) = rt (n + 1) := by
  have h : n % 8 = 0 ∨ n % 8 = 1 ∨ n % 8 = 2 ∨ n % 8 = 3 ∨ n % 8 = 4 ∨ n % 8 = 5 ∨ n % 8 = 6 ∨ n % 8 = 7 := by omega
  unfold tms rt
  rcases h with h | h | h | h | h | h | h | h
  · rw [h, show n % 4 = 0 by omega, show (n + 1) % 8 = 1 by omega, show (n + 1) % 4 = 1 by omega]; decide
  · rw [h, show n % 4 = 1 by omega, show (n + 1) % 8 = 2 by omega, show (n + 1) % 4 = 2 by omega]; decide
  · rw [h, show n % 4 = 2 by omega, show (n + 1) % 8 = 3 by omega, show (n + 1) % 4 = 3 by omega]; decide
  · rw [h, show n % 4 = 3 by omega, show (n + 1) % 8 = 4 by omega, show (n + 1) % 4 = 0 by omega]; decide
  · rw [h, show n % 4 = 0 by omega, show (n + 1) % 8 = 5 by omega, show (n + 1) % 4 = 1 by omega]; decide
  · rw [h, show n % 4 = 1 by omega, show (n + 1) % 8 = 6 by omega, show (n + 1) % 4 = 2 by omega]; decide
  · rw [h, show n % 4 = 2 by omega, show (n + 1) % 8 = 7 by omega, show (n + 1) % 4 = 3 by omega]; decide
  · rw [h, show n % 4 = 3 by omega, show (n + 1) % 8 = 0 by omega, show (n + 1) % 4 = 0 by omega]; decide
theorem bd_dn {n : Nat} {q : Qd} (h : Bd n q) : Bd n (dn q) := by
  obtain ⟨h1, h2, h3, h4⟩ := h
  unfold Bd dn
  generalize 2 ^ n = m at *
  refine ⟨?_, ?_, ?_, ?_⟩ <;> simp only <;> omega
theorem bd_dns {n : Nat} : ∀ (l : Nat) (q : Qd), Bd n q → Bd n (dns l q).q
  | 0, _, h => h
  | l + 1, q, h => by
    unfold dns
    split
    · exact bd_dns l _ (bd_dn h)
    · exact h
theorem bd_fm {n : Nat} {q : Qd} {k : Int} (h : Bd n q) (hk : 0 ≤ k) : Bd n (fm q k).q := by
  unfold fm
  split
  · rename_i e
    subst e
    exact h
  · rw [show (-k).toNat = 0 by omega]
    exact bd_dns _ _ h
theorem bd_mono {n m : Nat} {q : Qd} (h : Bd n q) (hm : n ≤ m) : Bd m q :=
  have z : 2 ^ n ≤ 2 ^ m := Nat.pow_le_pow_right (by decide) hm
  ⟨Nat.lt_of_lt_of_le h.1 z, Nat.lt_of_lt_of_le h.2.1 z, Nat.lt_of_lt_of_le h.2.2.1 z, Nat.lt_of_lt_of_le h.2.2.2 z⟩
end VL.N

set_option Elab.async false
set_option linter.all false
set_option maxRecDepth 100000
set_option maxHeartbeats 1000000
/-! VN2: the field of exact numbers over the rationals; what a written number is worth -/
namespace VL.N
structure Q8 where
  a : Rat
  b : Rat
  c : Rat
  d : Rat
namespace Q8
theorem ext {x y : Q8} (h1 : x.a = y.a) (h2 : x.b = y.b) (h3 : x.c = y.c) (h4 : x.d = y.d) : x = y := by
  cases x; cases y
  simp only at h1 h2 h3 h4
  subst h1 h2 h3 h4
  rfl
instance : Add Q8 := ⟨fun x y => ⟨x.a + y.a, x.b + y.b, x.c + y.c, x.d + y.d⟩⟩
instance : Neg Q8 := ⟨fun x => ⟨-x.a, -x.b, -x.c, -x.d⟩⟩
instance : Sub Q8 := ⟨fun x y => ⟨x.a - y.a, x.b - y.b, x.c - y.c, x.d - y.d⟩⟩
instance : Mul Q8 := ⟨fun x y => ⟨x.a * y.a - x.b * y.d - x.c * y.c - x.d * y.b, x.a * y.b + x.b * y.a - x.c * y.d - x.d * y.c, x.a * y.c + x.b * y.b + x.c * y.a - x.d * y.d, x.a * y.d + x.b * y.c + x.c * y.b + x.d * y.a⟩⟩
instance : NatCast Q8 := ⟨fun n => ⟨(n : Rat), 0, 0, 0⟩⟩
instance : IntCast Q8 := ⟨fun n => ⟨(n : Rat), 0, 0, 0⟩⟩
instance (n : Nat) : OfNat Q8 n := ⟨⟨(n : Rat), 0, 0, 0⟩⟩
instance : SMul Nat Q8 := ⟨fun n x => ((n : Nat) : Q8) * x⟩
instance : SMul Int Q8 := ⟨fun n x => ((n : Int) : Q8) * x⟩
def pw (x : Q8) : Nat → Q8
  | 0 => 1
  | n + 1 => pw x n * x
instance : HPow Q8 Nat Q8 := ⟨pw⟩
theorem add_a (x y : Q8) : (x + y).a = x.a + y.a := rfl
theorem add_b (x y : Q8) : (x + y).b = x.b + y.b := rfl
theorem add_c (x y : Q8) : (x + y).c = x.c + y.c := rfl
theorem add_d (x y : Q8) : (x + y).d = x.d + y.d := rfl
theorem neg_a (x : Q8) : (-x).a = -x.a := rfl
theorem neg_b (x : Q8) : (-x).b = -x.b := rfl
theorem neg_c (x : Q8) : (-x).c = -x.c := rfl
theorem neg_d (x : Q8) : (-x).d = -x.d := rfl
theorem sub_a (x y : Q8) : (x - y).a = x.a - y.a := rfl
theorem sub_b (x y : Q8) : (x - y).b = x.b - y.b := rfl
theorem sub_c (x y : Q8) : (x - y).c = x.c - y.c := rfl
theorem sub_d (x y : Q8) : (x - y).d = x.d - y.d := rfl
theorem mul_a (x y : Q8) : (x * y).a = x.a * y.a - x.b * y.d - x.c * y.c - x.d * y.b := rfl
theorem mul_b (x y : Q8) : (x * y).b = x.a * y.b + x.b * y.a - x.c * y.d - x.d * y.c := rfl
theorem mul_c (x y : Q8) : (x * y).c = x.a * y.c + x.b * y.b + x.c * y.a - x.d * y.d := rfl
theorem mul_d (x y : Q8) : (x * y).d = x.a * y.d + x.b * y.c + x.c * y.b + x.d * y.a := rfl
theorem nat_a (n : Nat) : ((n : Nat) : Q8).a = n := rfl
theorem nat_b (n : Nat) : ((n : Nat) : Q8).b = 0 := rfl
theorem nat_c (n : Nat) : ((n : Nat) : Q8).c = 0 := rfl
theorem nat_d (n : Nat) : ((n : Nat) : Q8).d = 0 := rfl
theorem int_a (n : Int) : ((n : Int) : Q8).a = n := rfl
theorem int_b (n : Int) : ((n : Int) : Q8).b = 0 := rfl
theorem int_c (n : Int) : ((n : Int) : Q8).c = 0 := rfl
theorem int_d (n : Int) : ((n : Int) : Q8).d = 0 := rfl
theorem z_a : (0 : Q8).a = 0 := rfl
theorem z_b : (0 : Q8).b = 0 := rfl
theorem z_c : (0 : Q8).c = 0 := rfl
theorem z_d : (0 : Q8).d = 0 := rfl
theorem o_a : (1 : Q8).a = 1 := rfl
theorem o_b : (1 : Q8).b = 0 := rfl
theorem o_c : (1 : Q8).c = 0 := rfl
theorem o_d : (1 : Q8).d = 0 := rfl
theorem add_zero (x : Q8) : x + 0 = x := by apply ext <;> simp only [add_a, add_b, add_c, add_d, neg_a, neg_b, neg_c, neg_d, sub_a, sub_b, sub_c, sub_d, mul_a, mul_b, mul_c, mul_d, nat_a, nat_b, nat_c, nat_d, int_a, int_b, int_c, int_d, z_a, z_b, z_c, z_d, o_a, o_b, o_c, o_d] <;> grind
theorem add_comm (x y : Q8) : x + y = y + x := by apply ext <;> simp only [add_a, add_b, add_c, add_d, neg_a, neg_b, neg_c, neg_d, sub_a, sub_b, sub_c, sub_d, mul_a, mul_b, mul_c, mul_d, nat_a, nat_b, nat_c, nat_d, int_a, int_b, int_c, int_d, z_a, z_b, z_c, z_d, o_a, o_b, o_c, o_d] <;> grind
theorem add_assoc (x y z : Q8) : x + y + z = x + (y + z) := by apply ext <;> simp only [add_a, add_b, add_c, add_d, neg_a, neg_b, neg_c, neg_d, sub_a, sub_b, sub_c, sub_d, mul_a, mul_b, mul_c, mul_d, nat_a, nat_b, nat_c, nat_d, int_a, int_b, int_c, int_d, z_a, z_b, z_c, z_d, o_a, o_b, o_c, o_d] <;> grind
theorem mul_assoc (x y z : Q8) : x * y * z = x * (y * z) := by apply ext <;> simp only [add_a, add_b, add_c, add_d, neg_a, neg_b, neg_c, neg_d, sub_a, sub_b, sub_c, sub_d, mul_a, mul_b, mul_c, mul_d, nat_a, nat_b, nat_c, nat_d, int_a, int_b, int_c, int_d, z_a, z_b, z_c, z_d, o_a, o_b, o_c, o_d] <;> grind
theorem mul_one (x : Q8) : x * 1 = x := by apply ext <;> simp only [add_a, add_b, add_c, add_d, neg_a, neg_b, neg_c, neg_d, sub_a, sub_b, sub_c, sub_d, mul_a, mul_b, mul_c, mul_d, nat_a, nat_b, nat_c, nat_d, int_a, int_b, int_c, int_d, z_a, z_b, z_c, z_d, o_a, o_b, o_c, o_d] <;> grind
theorem one_mul (x : Q8) : 1 * x = x := by apply ext <;> simp only [add_a, add_b, add_c, add_d, neg_a, neg_b, neg_c, neg_d, sub_a, sub_b, sub_c, sub_d, mul_a, mul_b, mul_c, mul_d, nat_a, nat_b, nat_c, nat_d, int_a, int_b, int_c, int_d, z_a, z_b, z_c, z_d, o_a, o_b, o_c, o_d] <;> grind
theorem mul_comm (x y : Q8) : x * y = y * x := by apply ext <;> simp only [add_a, add_b, add_c, add_d, neg_a, neg_b, neg_c, neg_d, sub_a, sub_b, sub_c, sub_d, mul_a, mul_b, mul_c, mul_d, nat_a, nat_b, nat_c, nat_d, int_a, int_b, int_c, int_d, z_a, z_b, z_c, z_d, o_a, o_b, o_c, o_d] <;> grind
theorem left_distrib (x y z : Q8) : x * (y + z) = x * y + x * z := by apply ext <;> simp only [add_a, add_b, add_c, add_d, neg_a, neg_b, neg_c, neg_d, sub_a, sub_b, sub_c, sub_d, mul_a, mul_b, mul_c, mul_d, nat_a, nat_b, nat_c, nat_d, int_a, int_b, int_c, int_d, z_a, z_b, z_c, z_d, o_a, o_b, o_c, o_d] <;> grind
theorem right_distrib (x y z : Q8) : (x + y) * z = x * z + y * z := by apply ext <;> simp only [add_a, add_b, add_c, add_d, neg_a, neg_b, neg_c, neg_d, sub_a, sub_b, sub_c, sub_d, mul_a, mul_b, mul_c, mul_d, nat_a, nat_b, nat_c, nat_d, int_a, int_b, int_c, int_d, z_a, z_b, z_c, z_d, o_a, o_b, o_c, o_d] <;> grind
theorem zero_mul (x : Q8) : 0 * x = 0 := by apply ext <;> simp only [add_a, add_b, add_c, add_d, neg_a, neg_b, neg_c, neg_d, sub_a, sub_b, sub_c, sub_d, mul_a, mul_b, mul_c, mul_d, nat_a, nat_b, nat_c, nat_d, int_a, int_b, int_c, int_d, z_a, z_b, z_c, z_d, o_a, o_b, o_c, o_d] <;> grind
theorem mul_zero (x : Q8) : x * 0 = 0 := by apply ext <;> simp only [add_a, add_b, add_c, add_d, neg_a, neg_b, neg_c, neg_d, sub_a, sub_b, sub_c, sub_d, mul_a, mul_b, mul_c, mul_d, nat_a, nat_b, nat_c, nat_d, int_a, int_b, int_c, int_d, z_a, z_b, z_c, z_d, o_a, o_b, o_c, o_d] <;> grind
theorem neg_add_cancel (x : Q8) : -x + x = 0 := by apply ext <;> simp only [add_a, add_b, add_c, add_d, neg_a, neg_b, neg_c, neg_d, sub_a, sub_b, sub_c, sub_d, mul_a, mul_b, mul_c, mul_d, nat_a, nat_b, nat_c, nat_d, int_a, int_b, int_c, int_d, z_a, z_b, z_c, z_d, o_a, o_b, o_c, o_d] <;> grind
theorem sub_eq (x y : Q8) : x - y = x + -y := by apply ext <;> simp only [add_a, add_b, add_c, add_d, neg_a, neg_b, neg_c, neg_d, sub_a, sub_b, sub_c, sub_d, mul_a, mul_b, mul_c, mul_d, nat_a, nat_b, nat_c, nat_d, int_a, int_b, int_c, int_d, z_a, z_b, z_c, z_d, o_a, o_b, o_c, o_d] <;> grind
theorem nat_succ (n : Nat) : (OfNat.ofNat (n + 1) : Q8) = OfNat.ofNat n + 1 := by
  apply ext
  · show ((n + 1 : Nat) : Rat) = (n : Rat) + 1
    exact Rat.natCast_add n 1
  all_goals
    show (0 : Rat) = 0 + 0
    exact (Rat.add_zero 0).symm
theorem int_neg (i : Int) : (((-i : Int)) : Q8) = -(i : Q8) := by
  apply ext
  · show ((-i : Int) : Rat) = -(i : Rat)
    exact Rat.intCast_neg i
  all_goals
    show (0 : Rat) = -0
    rfl
theorem neg_mul (x y : Q8) : -x * y = -(x * y) := by apply ext <;> simp only [add_a, add_b, add_c, add_d, neg_a, neg_b, neg_c, neg_d, sub_a, sub_b, sub_c, sub_d, mul_a, mul_b, mul_c, mul_d, nat_a, nat_b, nat_c, nat_d, int_a, int_b, int_c, int_d, z_a, z_b, z_c, z_d, o_a, o_b, o_c, o_d] <;> grind
instance : Lean.Grind.CommRing Q8 where
  add_zero := add_zero
  add_comm := add_comm
  add_assoc := add_assoc
  mul_assoc := mul_assoc
  mul_one := mul_one
  one_mul := one_mul
  left_distrib := left_distrib
  right_distrib := right_distrib
  zero_mul := zero_mul
  mul_zero := mul_zero
  pow_zero := fun _ => rfl
  pow_succ := fun _ _ => rfl
  ofNat_succ := nat_succ
  ofNat_eq_natCast := fun _ => rfl
  nsmul_eq_natCast_mul := fun _ _ => rfl
  neg_add_cancel := neg_add_cancel
  sub_eq_add_neg := sub_eq
  neg_zsmul := fun i a => by
    show ((-i : Int) : Q8) * a = -(((i : Int) : Q8) * a)
    rw [int_neg, neg_mul]
  zsmul_natCast_eq_nsmul := fun n a => rfl
  intCast_ofNat := fun n => rfl
  intCast_neg := int_neg
  mul_comm := mul_comm
/-- the eighth root of 1, one over the root of 2, a half -/
def w : Q8 := ⟨0, 1, 0, 0⟩
def h : Q8 := ⟨0, 1 / 2, 0, -1 / 2⟩
def hf : Q8 := ⟨1 / 2, 0, 0, 0⟩
theorem w4 : w ^ 4 = -1 := by
  show ((((1 : Q8) * w) * w) * w) * w = -1
  apply ext <;> decide +kernel
theorem hh : 2 * (h * h) = 1 := by apply ext <;> decide +kernel
theorem hf2 : 2 * hf = 1 := by apply ext <;> decide +kernel
theorem h2 : h * h = hf := by apply ext <;> decide +kernel
/-- conjugation -/
def cj (x : Q8) : Q8 := ⟨x.a, -x.d, -x.c, -x.b⟩
theorem cj_a (x : Q8) : (cj x).a = x.a := rfl
theorem cj_b (x : Q8) : (cj x).b = -x.d := rfl
theorem cj_c (x : Q8) : (cj x).c = -x.c := rfl
theorem cj_d (x : Q8) : (cj x).d = -x.b := rfl
theorem cj_add (x y : Q8) : cj (x + y) = cj x + cj y := by apply ext <;> simp only [cj_a, cj_b, cj_c, cj_d, add_a, add_b, add_c, add_d, neg_a, neg_b, neg_c, neg_d, sub_a, sub_b, sub_c, sub_d, mul_a, mul_b, mul_c, mul_d, nat_a, nat_b, nat_c, nat_d, int_a, int_b, int_c, int_d, z_a, z_b, z_c, z_d, o_a, o_b, o_c, o_d] <;> grind
theorem cj_neg (x : Q8) : cj (-x) = -cj x := by apply ext <;> simp only [cj_a, cj_b, cj_c, cj_d, add_a, add_b, add_c, add_d, neg_a, neg_b, neg_c, neg_d, sub_a, sub_b, sub_c, sub_d, mul_a, mul_b, mul_c, mul_d, nat_a, nat_b, nat_c, nat_d, int_a, int_b, int_c, int_d, z_a, z_b, z_c, z_d, o_a, o_b, o_c, o_d] <;> grind
theorem cj_sub (x y : Q8) : cj (x - y) = cj x - cj y := by apply ext <;> simp only [cj_a, cj_b, cj_c, cj_d, add_a, add_b, add_c, add_d, neg_a, neg_b, neg_c, neg_d, sub_a, sub_b, sub_c, sub_d, mul_a, mul_b, mul_c, mul_d, nat_a, nat_b, nat_c, nat_d, int_a, int_b, int_c, int_d, z_a, z_b, z_c, z_d, o_a, o_b, o_c, o_d] <;> grind
theorem cj_mul (x y : Q8) : cj (x * y) = cj x * cj y := by apply ext <;> simp only [cj_a, cj_b, cj_c, cj_d, add_a, add_b, add_c, add_d, neg_a, neg_b, neg_c, neg_d, sub_a, sub_b, sub_c, sub_d, mul_a, mul_b, mul_c, mul_d, nat_a, nat_b, nat_c, nat_d, int_a, int_b, int_c, int_d, z_a, z_b, z_c, z_d, o_a, o_b, o_c, o_d] <;> grind
theorem cj_cj (x : Q8) : cj (cj x) = x := by apply ext <;> simp only [cj_a, cj_b, cj_c, cj_d, add_a, add_b, add_c, add_d, neg_a, neg_b, neg_c, neg_d, sub_a, sub_b, sub_c, sub_d, mul_a, mul_b, mul_c, mul_d, nat_a, nat_b, nat_c, nat_d, int_a, int_b, int_c, int_d, z_a, z_b, z_c, z_d, o_a, o_b, o_c, o_d] <;> grind
theorem cj_h : cj h = h := by apply ext <;> decide +kernel
theorem cj_hf : cj hf = hf := by apply ext <;> decide +kernel
theorem cj_zero : cj 0 = 0 := by apply ext <;> decide +kernel
theorem cj_one : cj 1 = 1 := by apply ext <;> decide +kernel
theorem cj_w : cj w * w = 1 := by apply ext <;> decide +kernel
end Q8
open Q8
/-! ### powers of w by whole numbers -/
def ph (n : Nat) : Q8 := w ^ n
theorem ph_zero : ph 0 = 1 := rfl
theorem ph_succ (n : Nat) : ph (n + 1) = ph n * w := rfl
theorem ph_add : ∀ n m : Nat, ph (n + m) = ph n * ph m
  | n, 0 => by rw [Nat.add_zero, ph_zero, mul_one]
  | n, m + 1 => by rw [← Nat.add_assoc, ph_succ, ph_succ, ph_add n m, mul_assoc]
theorem ph_eight : ph 8 = 1 := by
  have e : ph 8 = ph 4 * ph 4 := ph_add 4 4
  have e4 : ph 4 = -1 := w4
  rw [e, e4]
  grind
theorem ph_mul8 : ∀ n : Nat, ph (8 * n) = 1
  | 0 => rfl
  | n + 1 => by rw [show 8 * (n + 1) = 8 * n + 8 from rfl, ph_add, ph_mul8 n, ph_eight, mul_one]
theorem ph_mod (n : Nat) : ph n = ph (n % 8) := by
  have e : n = 8 * (n / 8) + n % 8 := by omega
  rw [show ph n = ph (8 * (n / 8) + n % 8) from congrArg ph e, ph_add, ph_mul8, one_mul]
theorem ph_congr {n m : Nat} (h : n % 8 = m % 8) : ph n = ph m := by rw [ph_mod n, ph_mod m, h]
theorem cj_ph : ∀ n : Nat, cj (ph n) * ph n = 1
  | 0 => by rw [ph_zero, cj_one, mul_one]
  | n + 1 => by
    rw [ph_succ, cj_mul]
    have e := cj_ph n
    have f := cj_w
    grind
theorem ph_cj (n : Nat) : ph n * cj (ph n) = 1 := by rw [mul_comm]; exact cj_ph n
/-! ### what a written number is worth -/
def qv (q : Qd) : Q8 := ⟨(q.a : Rat), (q.b : Rat), (q.c : Rat), (q.d : Rat)⟩
def val (x : Nm) : Q8 := qv x.q * h ^ x.k.toNat
theorem hp_succ (n : Nat) : h ^ (n + 1) = h ^ n * h := rfl
theorem hp_zero : h ^ 0 = 1 := rfl
theorem hp_add : ∀ n m : Nat, h ^ (n + m) = h ^ n * h ^ m
  | n, 0 => by rw [Nat.add_zero, hp_zero, mul_one]
  | n, m + 1 => by rw [← Nat.add_assoc, hp_succ, hp_succ, hp_add n m, mul_assoc]
theorem qv_add (x y : Qd) : qv (x.add y) = qv x + qv y := by apply Q8.ext <;> simp only [qv, up, Qd.add, Qd.neg, mulq, cj, Q8.add_a, Q8.add_b, Q8.add_c, Q8.add_d, Q8.neg_a, Q8.neg_b, Q8.neg_c, Q8.neg_d, Q8.mul_a, Q8.mul_b, Q8.mul_c, Q8.mul_d, Rat.intCast_add, Rat.intCast_neg, Rat.intCast_sub, Rat.intCast_mul, h] <;> grind
theorem qv_neg (x : Qd) : qv x.neg = -qv x := by apply Q8.ext <;> simp only [qv, up, Qd.add, Qd.neg, mulq, cj, Q8.add_a, Q8.add_b, Q8.add_c, Q8.add_d, Q8.neg_a, Q8.neg_b, Q8.neg_c, Q8.neg_d, Q8.mul_a, Q8.mul_b, Q8.mul_c, Q8.mul_d, Rat.intCast_add, Rat.intCast_neg, Rat.intCast_sub, Rat.intCast_mul, h] <;> grind
theorem qv_mul (x y : Qd) : qv (mulq x y) = qv x * qv y := by apply Q8.ext <;> simp only [qv, up, Qd.add, Qd.neg, mulq, cj, Q8.add_a, Q8.add_b, Q8.add_c, Q8.add_d, Q8.neg_a, Q8.neg_b, Q8.neg_c, Q8.neg_d, Q8.mul_a, Q8.mul_b, Q8.mul_c, Q8.mul_d, Rat.intCast_add, Rat.intCast_neg, Rat.intCast_sub, Rat.intCast_mul, h] <;> grind
theorem qv_up (x : Qd) : qv (up x) * h = qv x := by apply Q8.ext <;> simp only [qv, up, Qd.add, Qd.neg, mulq, cj, Q8.add_a, Q8.add_b, Q8.add_c, Q8.add_d, Q8.neg_a, Q8.neg_b, Q8.neg_c, Q8.neg_d, Q8.mul_a, Q8.mul_b, Q8.mul_c, Q8.mul_d, Rat.intCast_add, Rat.intCast_neg, Rat.intCast_sub, Rat.intCast_mul, h] <;> grind
theorem qv_inj {x y : Qd} (e : qv x = qv y) : x = y := by
  have h1 := congrArg Q8.a e
  have h2 := congrArg Q8.b e
  have h3 := congrArg Q8.c e
  have h4 := congrArg Q8.d e
  exact Qd.ext (Rat.intCast_inj.mp h1) (Rat.intCast_inj.mp h2) (Rat.intCast_inj.mp h3) (Rat.intCast_inj.mp h4)
theorem qv_ups : ∀ (n : Nat) (x : Qd), qv (ups n x) * h ^ n = qv x
  | 0, x => by rw [hp_zero, mul_one]; rfl
  | n + 1, x => by
    show qv (ups n (up x)) * (h ^ n * h) = qv x
    rw [← mul_assoc, qv_ups n (up x), qv_up]
theorem qv_zq : qv zq = 0 := rfl
theorem val_dns : ∀ (l : Nat) (q : Qd), val (dns l q) = qv q * h ^ l
  | 0, q => rfl
  | l + 1, q => by
    unfold dns
    split
    · rename_i e
      rw [val_dns l (dn q), hp_succ]
      have := qv_up (dn q)
      rw [up_dn e] at this
      rw [← this]
      grind
    · rfl
theorem val_fm (q : Qd) {k : Int} (hk : 0 ≤ k) : val (fm q k) = qv q * h ^ k.toNat := by
  unfold fm
  split
  · rename_i e
    subst e
    show qv zq * _ = qv zq * _
    rw [qv_zq, zero_mul, zero_mul]
  · rw [val_dns, show (-k).toNat = 0 by omega]
    rfl
theorem val_rsd (x : Nm) (h0 : 0 ≤ x.k) {N : Int} (hN : x.k ≤ N) : qv (rsd x N) * h ^ N.toNat = val x := by
  unfold rsd val
  have e : N.toNat = (N - x.k).toNat + x.k.toNat := by omega
  rw [e, hp_add, ← mul_assoc, qv_ups]
theorem val_pls {x y : Nm} (hx : 0 ≤ x.k) (hy : 0 ≤ y.k) : val (pls x y) = val x + val y := by
  have hm := mx_ge x.k y.k
  unfold pls
  rw [val_fm _ (by omega), qv_add, right_distrib, val_rsd x hx hm.1, val_rsd y hy hm.2]
theorem val_ngt (x : Nm) : val (ngt x) = -val x := by
  unfold val ngt
  rw [qv_neg, neg_mul]
theorem val_tms {x y : Nm} (hx : 0 ≤ x.k) (hy : 0 ≤ y.k) : val (tms x y) = val x * val y := by
  unfold tms
  rw [val_fm _ (by omega), qv_mul]
  unfold val
  rw [show (x.k + y.k).toNat = x.k.toNat + y.k.toNat by omega, hp_add]
  grind
theorem qv_cj (q : Qd) : qv ⟨q.a, -q.d, -q.c, -q.b⟩ = cj (qv q) := by apply Q8.ext <;> simp only [qv, up, Qd.add, Qd.neg, mulq, cj, Q8.add_a, Q8.add_b, Q8.add_c, Q8.add_d, Q8.neg_a, Q8.neg_b, Q8.neg_c, Q8.neg_d, Q8.mul_a, Q8.mul_b, Q8.mul_c, Q8.mul_d, Rat.intCast_add, Rat.intCast_neg, Rat.intCast_sub, Rat.intCast_mul, h] <;> grind
theorem cj_hp : ∀ n : Nat, cj (h ^ n) = h ^ n
  | 0 => cj_one
  | n + 1 => by rw [hp_succ, cj_mul, cj_hp n, cj_h]
theorem val_cnj (x : Nm) : val (cnj x) = cj (val x) := by
  unfold val cnj
  rw [cj_mul, cj_hp, ← qv_cj]
theorem val_inj {x y : Nm} (hx : nf x = true) (hy : nf y = true) (x0 : 0 ≤ x.k) (y0 : 0 ≤ y.k) (e : val x = val y) : x = y := by
  have hm := mx_ge x.k y.k
  refine nf_unique hx hy hm.1 hm.2 (qv_inj ?_)
  rw [← val_rsd x x0 hm.1, ← val_rsd y y0 hm.2] at e
  generalize (mx x.k y.k).toNat = n at e
  have key : ∀ (n : Nat) (u v : Q8), u * h ^ n = v * h ^ n → u = v := fun n => by
    induction n with
    | zero => intro u v q; rw [hp_zero, mul_one, mul_one] at q; exact q
    | succ n ih =>
      intro u v q
      rw [hp_succ] at q
      refine ih u v ?_
      have := hh
      grind
  exact key n _ _ e
theorem val_rt (n : Nat) : val (rt n) = ph n := by
  rw [ph_mod]
  have e : rt (n : Int) = rt ((n % 8 : Nat) : Int) := by
    unfold rt
    rw [show ((n : Int) % 8) = (((n % 8 : Nat) : Int) % 8) by omega, show ((n : Int) % 4) = (((n % 8 : Nat) : Int) % 4) by omega]
  rw [e]
  have : n % 8 < 8 := Nat.mod_lt _ (by decide)
  generalize n % 8 = m at this ⊢
  have c : m = 0 ∨ m = 1 ∨ m = 2 ∨ m = 3 ∨ m = 4 ∨ m = 5 ∨ m = 6 ∨ m = 7 := by omega
  rcases c with rfl | rfl | rfl | rfl | rfl | rfl | rfl | rfl <;> apply Q8.ext <;> decide +kernel
theorem rt_k (n : Int) : (rt n).k = 0 := rfl
end VL.N

set_option Elab.async false
set_option linter.all false
set_option maxRecDepth 100000
set_option maxHeartbeats 4000000
/-! VP: bits of whole numbers -/
namespace VL
open PySem PySem.Spec L2
/-- how many bits are 1 -/
def pcf : Nat → Nat → Nat
  | 0, _ => 0
  | f + 1, n => if n = 0 then 0 else n % 2 + pcf f (n / 2)
def pc (n : Nat) : Nat := pcf n n
theorem pcf_eq : ∀ (f g n : Nat), n ≤ f → n ≤ g → pcf f n = pcf g n
  | 0, 0, n, _, _ => rfl
  | 0, g + 1, n, h, _ => by
    have : n = 0 := by omega
    subst this
    simp [pcf]
  | f + 1, 0, n, _, h => by
    have : n = 0 := by omega
    subst this
    simp [pcf]
  | f + 1, g + 1, n, h, k => by
    unfold pcf
    split
    · rfl
    · rw [pcf_eq f g (n / 2) (by omega) (by omega)]
theorem pc_step (n : Nat) : pc n = n % 2 + pc (n / 2) := by
  unfold pc
  cases n with
  | zero => rfl
  | succ n =>
    show (if n + 1 = 0 then 0 else (n + 1) % 2 + pcf n ((n + 1) / 2)) = _
    rw [if_neg (by omega), pcf_eq n ((n + 1) / 2) ((n + 1) / 2) (by omega) (Nat.le_refl _)]
theorem pc_zero : pc 0 = 0 := rfl
theorem and_halves (a b : Nat) : (a &&& b) / 2 = (a / 2) &&& (b / 2) := by
  have := Nat.and_div_two (a := a) (b := b)
  omega
theorem and_mod2 (a b : Nat) : (a &&& b) % 2 = (a % 2) * (b % 2) := by
  have := Nat.and_mod_two_pow (a := a) (b := b) (n := 1)
  simp only [Nat.pow_one] at this
  rw [this]
  rcases Nat.mod_two_eq_zero_or_one a with h | h <;> rcases Nat.mod_two_eq_zero_or_one b with k | k <;> rw [h, k] <;> rfl
/-- taking the lowest 1 away -/
theorem pc_pred : ∀ n : Nat, 0 < n → pc (n &&& (n - 1)) + 1 = pc n := fun n => by
  induction n using Nat.strongRecOn with
  | ind n ih =>
    intro h
    rw [pc_step (n &&& (n - 1)), pc_step n, and_halves, and_mod2]
    rcases Nat.mod_two_eq_zero_or_one n with e | e
    · have e1 : (n - 1) / 2 = n / 2 - 1 := by omega
      rw [e1, e, Nat.zero_mul]
      have := ih (n / 2) (by omega) (by omega)
      omega
    · have e1 : (n - 1) / 2 = n / 2 := by omega
      have e2 : (n - 1) % 2 = 0 := by omega
      rw [e1, e2, e, Nat.and_self]
      omega
end VL

set_option Elab.async false
set_option linter.all false
set_option maxRecDepth 100000
set_option maxHeartbeats 4000000
namespace VL
open PySem PySem.Spec L2
theorem bnot_bnot (x : Int) : Builtin.bitNot (Builtin.bitNot x) = x := by
  unfold Builtin.bitNot
  omega
theorem and_nn (a b : Nat) : Builtin.bitAnd a b = ((a &&& b : Nat) : Int) := by
  unfold Builtin.bitAnd
  rw [decide_eq_true (Int.natCast_nonneg a), decide_eq_true (Int.natCast_nonneg b)]
  rfl
theorem or_nn (a b : Nat) : Builtin.bitOr a b = ((a ||| b : Nat) : Int) := by
  have n1 : ∀ c : Nat, ¬ 0 ≤ Builtin.bitNot c := fun c => by unfold Builtin.bitNot; omega
  unfold Builtin.bitOr
  have e : Builtin.bitAnd (Builtin.bitNot a) (Builtin.bitNot b) = Builtin.bitNot (((Builtin.bitNot (Builtin.bitNot a)).toNat ||| (Builtin.bitNot (Builtin.bitNot b)).toNat : Nat) : Int) := by
    rw [Builtin.bitAnd, decide_eq_false (n1 a), decide_eq_false (n1 b)]
  rw [e, bnot_bnot, bnot_bnot, bnot_bnot, Int.toNat_natCast, Int.toNat_natCast]
/-- the bits 0, and the rest -/
theorem m2 (i : Nat) (h : i < 2) : i = 0 ∨ i = 1 := by omega
theorem and2 (a b i j : Nat) (hi : i < 2) (hj : j < 2) : (2 * a + i) &&& (2 * b + j) = 2 * (a &&& b) + i * j := by
  have h1 := and_halves (2 * a + i) (2 * b + j)
  have h2 := and_mod2 (2 * a + i) (2 * b + j)
  have e1 : (2 * a + i) / 2 = a := by omega
  have e2 : (2 * b + j) / 2 = b := by omega
  have e3 : (2 * a + i) % 2 = i := by omega
  have e4 : (2 * b + j) % 2 = j := by omega
  rw [e1, e2] at h1
  rw [e3, e4] at h2
  omega
theorem or2 (a b i j : Nat) (hi : i < 2) (hj : j < 2) : (2 * a + i) ||| (2 * b + j) = 2 * (a ||| b) + (i + j - i * j) := by
  have h1 := Nat.or_div_two (a := 2 * a + i) (b := 2 * b + j)
  have h2 := Nat.or_mod_two_pow (a := 2 * a + i) (b := 2 * b + j) (n := 1)
  simp only [Nat.pow_one] at h2
  have e1 : (2 * a + i) / 2 = a := by omega
  have e2 : (2 * b + j) / 2 = b := by omega
  have e3 : (2 * a + i) % 2 = i := by omega
  have e4 : (2 * b + j) % 2 = j := by omega
  rw [e1, e2] at h1
  rw [e3, e4] at h2
  have h3 : i ||| j = i + j - i * j := by
    rcases m2 i hi with rfl | rfl <;> rcases m2 j hj with rfl | rfl <;> rfl
  rw [h3] at h2
  omega
theorem xor2 (a b i j : Nat) (hi : i < 2) (hj : j < 2) : (2 * a + i) ^^^ (2 * b + j) = 2 * (a ^^^ b) + (i + j - 2 * (i * j)) := by
  have h1 := Nat.xor_div_two (a := 2 * a + i) (b := 2 * b + j)
  have h2 := Nat.xor_mod_two_pow (a := 2 * a + i) (b := 2 * b + j) (n := 1)
  simp only [Nat.pow_one] at h2
  have e1 : (2 * a + i) / 2 = a := by omega
  have e2 : (2 * b + j) / 2 = b := by omega
  have e3 : (2 * a + i) % 2 = i := by omega
  have e4 : (2 * b + j) % 2 = j := by omega
  rw [e1, e2] at h1
  rw [e3, e4] at h2
  have h3 : i ^^^ j = i + j - 2 * (i * j) := by
    rcases m2 i hi with rfl | rfl <;> rcases m2 j hj with rfl | rfl <;> rfl
  rw [h3] at h2
  omega
theorem pc2 (a i : Nat) (hi : i < 2) : pc (2 * a + i) = i + pc a := by
  rw [pc_step, show (2 * a + i) % 2 = i by omega, show (2 * a + i) / 2 = a by omega]
theorem or_xor_and : ∀ a b : Nat, (a ||| b) = (a ^^^ b) + (a &&& b) := fun a => by
  induction a using Nat.strongRecOn with
  | ind a ih =>
    intro b
    by_cases ha : a = 0
    · subst ha
      simp
    · have x := ih (a / 2) (by omega) (b / 2)
      have p1 := Nat.mod_lt a (show 0 < 2 by decide)
      have p2 := Nat.mod_lt b (show 0 < 2 by decide)
      have e1 := or2 (a / 2) (b / 2) (a % 2) (b % 2) p1 p2
      have e2 := xor2 (a / 2) (b / 2) (a % 2) (b % 2) p1 p2
      have e3 := and2 (a / 2) (b / 2) (a % 2) (b % 2) p1 p2
      rw [Nat.div_add_mod, Nat.div_add_mod] at e1 e2 e3
      rw [e1, e2, e3, x]
      rcases m2 _ p1 with q | q <;> rcases m2 _ p2 with q' | q' <;> rw [q, q'] <;> omega
theorem xor_nn (a b : Nat) : Builtin.bitXor a b = ((a ^^^ b : Nat) : Int) := by
  unfold Builtin.bitXor
  rw [or_nn, and_nn, or_xor_and a b]
  omega
theorem shr_nn (a q : Nat) : (a : Int) / 2 ^ (q : Int).toNat = ((a / 2 ^ q : Nat) : Int) := by
  rw [Int.toNat_natCast]
  push_cast
  rfl
theorem shl_nn (a q : Nat) : (a : Int) * 2 ^ (q : Int).toNat = ((a * 2 ^ q : Nat) : Int) := by
  rw [Int.toNat_natCast]
  push_cast
  rfl
theorem and1_nn (a : Nat) : Builtin.bitAnd a 1 = ((a % 2 : Nat) : Int) := by
  rw [show (1 : Int) = ((1 : Nat) : Int) from rfl, and_nn, Nat.and_one_is_mod]
theorem bits_nn (a : Nat) : Builtin.Int.intBits a = if a = 0 then 0 else a.log2 + 1 := by
  unfold Builtin.Int.intBits
  by_cases h : a = 0
  · subst h; rfl
  · rw [if_neg h, if_neg (by simpa using h)]
    rfl
theorem rint {R : D → Oh → Prop} {h : Oh} {i j : Int} (hR : R (.int j) h) (e : i = j) : R (.int i) h := e ▸ hR
end VL

set_option Elab.async false
set_option linter.all false
set_option maxRecDepth 100000
set_option maxHeartbeats 4000000
/-! VP: Paulis as masks: what the defs of paulis promise -/
namespace VL.P
open PySem PySem.Spec PyProof.Rows L2 VL
def k_NAMES : D := (.str "IXZY")
structure Pa where
  x : Nat
  z : Nat
  s : Nat
  deriving DecidableEq
def Pa.e (p : Pa) : D := .tup [.int p.x, .int p.z, .int p.s]
def Pa.w (p : Pa) : Nat := pc (p.x ||| p.z)
/-- a letter's sign -/
def lch (x z : Nat) : Nat := if x % 2 = 0 then (if z % 2 = 0 then 73 else 90) else (if z % 2 = 0 then 88 else 89)
def lets (m : Nat) : List Nat := (List.range (if m = 0 then 0 else m.log2 + 1)).filter fun q => m / 2 ^ q % 2 == 1
def cmt (p q : Pa) : Bool := pc (p.x &&& q.z) % 2 == pc (p.z &&& q.x) % 2
/-- the turns of a product, by quarters -/
def trn (p q : Pa) : Int := (2 * ((p.s : Int) + q.s) + pc (p.x &&& p.z) + pc (q.x &&& q.z) + 2 * pc (p.z &&& q.x) - pc ((p.x ^^^ q.x) &&& (p.z ^^^ q.z))) % 4
def prd (p q : Pa) : Pa := ⟨p.x ^^^ q.x, p.z ^^^ q.z, (trn p q / 2).toNat⟩
def sng (k q : Nat) : Pa := ⟨k % 2 * 2 ^ q, k / 2 * 2 ^ q, 0⟩
def rnk (p : Pa) : D := .tup [.int p.w, .int p.x, .int p.z]
def sp_ones : Spc := fun ds h R _ => ∃ n : Nat, ds = [.int n] ∧ R (.int (pc n)) h
def sp_weight : Spc := fun ds h R _ => ∃ p : Pa, ds = [p.e] ∧ R (.int p.w) h
def sp_letter : Spc := fun ds h R _ => ∃ (p : Pa) (q : Nat), ds = [p.e, .int q] ∧ R (.str ⟨#[lch (p.x / 2 ^ q) (p.z / 2 ^ q)]⟩) h
def sp_support : Spc := fun ds h R _ => ∃ p : Pa, ds = [p.e] ∧ p.x < 2 ^ 100 ∧ p.z < 2 ^ 100 ∧ R (.lst ((lets (p.x ||| p.z)).map fun q => .int (q : Nat))) h
def sp_commutes : Spc := fun ds h R _ => ∃ p q : Pa, ds = [p.e, q.e] ∧ R (.bl (cmt p q)) h
def sp_product : Spc := fun ds h R _ => ∃ p q : Pa, ds = [p.e, q.e] ∧ p.s < 2 ∧ q.s < 2 ∧ p.z < 2 ^ 100 ∧ R (prd p q).e h
def sp_part : Spc := fun ds h R _ => ∃ (p : Pa) (m : Nat), ds = [p.e, .int m] ∧ R (Pa.e ⟨p.x &&& m, p.z &&& m, 0⟩) h
def sp_shifted : Spc := fun ds h R _ => ∃ (p : Pa) (q : Nat), ds = [p.e, .int q] ∧ p.x < 2 ^ 100 ∧ p.z < 2 ^ 100 ∧ q ≤ 1000 ∧ R (Pa.e ⟨p.x * 2 ^ q, p.z * 2 ^ q, p.s⟩) h
def sp_single : Spc := fun ds h R _ => ∃ (k q : Nat), k < 4 ∧ q ≤ 1000 ∧ ds = [.str ⟨#[lch k (k / 2)]⟩, .int q] ∧ R (sng k q).e h
def sp_rank : Spc := fun ds h R _ => ∃ p : Pa, ds = [p.e] ∧ R (rnk p) h
def w_ones_b1_1 : WS :=
  (wAug 1 opAddI (wC (.int 1)))
def w_ones_b1 : WS :=
  (wSeq (wAug 0 opAnd (wOp opSub (wVar 0) (wC (.int 1))))
  w_ones_b1_1)
def w_ones_t1 : WT :=
  (wB (wVar 0))
def w_ones_2 : WS :=
  (wRet (wVar 1))
def w_ones_1 : WS :=
  (wSeq (wWhile w_ones_t1 w_ones_b1)
  w_ones_2)
def w_ones : WS :=
  (wSeq (wAsg (wC (.int 0)) (gVar 1))
  w_ones_1)
def w_weight : WS :=
  (wRet (wCall sp_ones (wCons (wOp opOr (wIx (wVar 0) (wC (.int 0))) (wIx (wVar 0) (wC (.int 1)))) wNil)))
def w_letter : WS :=
  (wRet (wIx (wC k_NAMES) (wOp opAdd (wOp opAnd (wOp opShr (wIx (wVar 0) (wC (.int 0))) (wVar 1)) (wC (.int 1))) (wOp opMulS (wC (.int 2)) (wOp opAnd (wOp opShr (wIx (wVar 0) (wC (.int 1))) (wVar 1)) (wC (.int 1)))))))
def w_support_1 : WS :=
  (wRet (wLc (wRng1 (wCons (wBits (wVar 1)) wNil)) (gVar 2) (wB (wOp opAnd (wOp opShr (wVar 1) (wVar 2)) (wC (.int 1)))) (wVar 2) [2]))
def w_support : WS :=
  (wSeq (wAsg (wOp opOr (wIx (wVar 0) (wC (.int 0))) (wIx (wVar 0) (wC (.int 1)))) (gVar 1))
  w_support_1)
def w_commutes : WS :=
  (wRet (wOp opEq (wOp opMod (wCall sp_ones (wCons (wOp opAnd (wIx (wVar 0) (wC (.int 0))) (wIx (wVar 1) (wC (.int 1)))) wNil)) (wC (.int 2))) (wOp opMod (wCall sp_ones (wCons (wOp opAnd (wIx (wVar 0) (wC (.int 1))) (wIx (wVar 1) (wC (.int 0)))) wNil)) (wC (.int 2)))))
def w_product_4 : WS :=
  (wRet (wTup (wCons (wVar 2) (wCons (wVar 3) (wCons (wOp opDiv (wVar 4) (wC (.int 2))) wNil)))))
def w_product_3 : WS :=
  (wSeq (wAsg (wOp opMod (wOp opSub (wOp opAdd (wVar 4) (wOp opMulS (wC (.int 2)) (wCall sp_ones (wCons (wOp opAnd (wIx (wVar 0) (wC (.int 1))) (wIx (wVar 1) (wC (.int 0)))) wNil)))) (wCall sp_ones (wCons (wOp opAnd (wVar 2) (wVar 3)) wNil))) (wC (.int 4))) (gVar 4))
  w_product_4)
def w_product_2 : WS :=
  (wSeq (wAsg (wOp opAdd (wOp opAdd (wOp opMulS (wC (.int 2)) (wOp opAdd (wIx (wVar 0) (wC (.int 2))) (wIx (wVar 1) (wC (.int 2))))) (wCall sp_ones (wCons (wOp opAnd (wIx (wVar 0) (wC (.int 0))) (wIx (wVar 0) (wC (.int 1)))) wNil))) (wCall sp_ones (wCons (wOp opAnd (wIx (wVar 1) (wC (.int 0))) (wIx (wVar 1) (wC (.int 1)))) wNil))) (gVar 4))
  w_product_3)
def w_product_1 : WS :=
  (wSeq (wAsg (wOp opXor (wIx (wVar 0) (wC (.int 1))) (wIx (wVar 1) (wC (.int 1)))) (gVar 3))
  w_product_2)
def w_product : WS :=
  (wSeq (wAsg (wOp opXor (wIx (wVar 0) (wC (.int 0))) (wIx (wVar 1) (wC (.int 0)))) (gVar 2))
  w_product_1)
def w_part : WS :=
  (wRet (wTup (wCons (wOp opAnd (wIx (wVar 0) (wC (.int 0))) (wVar 1)) (wCons (wOp opAnd (wIx (wVar 0) (wC (.int 1))) (wVar 1)) (wCons (wC (.int 0)) wNil)))))
def w_shifted : WS :=
  (wRet (wTup (wCons (wOp opShl (wIx (wVar 0) (wC (.int 0))) (wVar 1)) (wCons (wOp opShl (wIx (wVar 0) (wC (.int 1))) (wVar 1)) (wCons (wIx (wVar 0) (wC (.int 2))) wNil)))))
def w_single_1 : WS :=
  (wRet (wTup (wCons (wOp opShl (wOp opAnd (wVar 2) (wC (.int 1))) (wVar 1)) (wCons (wOp opShl (wOp opShr (wVar 2) (wC (.int 1))) (wVar 1)) (wCons (wC (.int 0)) wNil)))))
def w_single : WS :=
  (wSeq (wAsg (wM1 mIndex (wC k_NAMES) (wVar 0)) (gVar 2))
  w_single_1)
def w_rank : WS :=
  (wRet (wTup (wCons (wCall sp_weight (wCons (wVar 0) wNil)) (wCons (wIx (wVar 0) (wC (.int 0))) (wCons (wIx (wVar 0) (wC (.int 1))) wNil)))))
theorem pk_ones : Pk 1 1 sp_ones w_ones := by
  rintro ds h R _ ⟨n, rfl, hR⟩
  refine ⟨pc n + 1, ?_⟩
  have loop : ∀ (k n c : Nat), pc n = k → R (.int ((c + k : Nat) : Int)) h → wWhN w_ones_t1 w_ones_b1 { Fi R with nx := w_ones_2 (Fi R) } (k + 1) ⟨[.f (.int n), .f (.int c)], h⟩ := fun k => by
    induction k with
    | zero =>
      intro n c e hR
      have : n = 0 := by
        rcases Nat.eq_zero_or_pos n with q | q
        · exact q
        · have := pc_pred n q
          omega
      subst this
      exact whn (brF rfl hR)
    | succ k ih =>
      intro n c e hR
      have hn : 0 < n := by
        rcases Nat.eq_zero_or_pos n with q | q
        · subst q
          rw [pc_zero] at e
          omega
        · exact q
      have hp := pc_pred n hn
      refine whn (brT (by simpa using (show n ≠ 0 by omega)) ?_)
      have e1 : Builtin.bitAnd (n : Int) ((n : Int) - 1) = ((n &&& (n - 1) : Nat) : Int) := by
        rw [show (n : Int) - 1 = ((n - 1 : Nat) : Int) by omega, and_nn]
      have x := ih (n &&& (n - 1)) (c + 1) (by omega) (by rw [show c + 1 + k = c + (k + 1) by omega]; exact hR)
      rw [← e1] at x
      exact x
  exact loop (pc n) n 0 rfl (by rw [Nat.zero_add]; exact hR)
theorem pk_weight : Pk 1 0 sp_weight w_weight := by
  rintro ds h R _ ⟨p, rfl, hR⟩
  exact ⟨_, rfl, _, rfl, _, by rw [or_nn], hR⟩
end VL.P

set_option Elab.async false
set_option linter.all false
set_option maxRecDepth 100000
set_option maxHeartbeats 4000000
namespace VL.P
open PySem PySem.Spec PyProof.Rows L2 VL
theorem line4 : (4 : Nat) ≤ sizeLine := by decide
theorem cmul2 (i : Nat) (h : i < 2) : CMulX 2 (i : Int) := cmul 2 1 (by decide) (by omega) (by decide)
theorem pk_letter : Pk 2 0 sp_letter w_letter := by
  rintro ds h R _ ⟨p, q, rfl, hR⟩
  have h1 := Nat.mod_lt (p.x / 2 ^ q) (show 0 < 2 by decide)
  have h2 := Nat.mod_lt (p.z / 2 ^ q) (show 0 < 2 by decide)
  unfold lch at hR
  refine ⟨_, rfl, Int.natCast_nonneg q, _, rfl, Int.natCast_nonneg q, ?_, line4, ?_⟩
  · show CMulX 2 (Builtin.bitAnd ((p.z : Int) / 2 ^ (q : Int).toNat) 1)
    rw [shr_nn, and1_nn]
    exact cmul2 _ h2
  · show ∃ c, atI [73, 88, 90, 89] (Builtin.bitAnd ((p.x : Int) / 2 ^ (q : Int).toNat) 1 + 2 * Builtin.bitAnd ((p.z : Int) / 2 ^ (q : Int).toNat) 1) = some c ∧ R (.str ⟨#[c]⟩) h
    rw [shr_nn, and1_nn, shr_nn, and1_nn]
    rcases m2 _ h1 with e | e <;> rcases m2 _ h2 with e' | e' <;> (rw [e, e'] at hR ⊢; exact ⟨_, rfl, hR⟩)
theorem pk_commutes : Pk 2 0 sp_commutes w_commutes := by
  rintro ds h R _ ⟨p, q, rfl, hR⟩
  refine ⟨_, rfl, _, rfl, _, by rw [and_nn], by decide, _, rfl, _, rfl, _, by rw [and_nn], by decide, ?_⟩
  have e : ∀ a b : Nat, ((((a : Nat) : Int) % 2 == ((b : Nat) : Int) % 2) = (a % 2 == b % 2)) := fun a b => by
    rw [Bool.eq_iff_iff, beq_iff_eq, beq_iff_eq]
    omega
  show R (.bl ((((pc (p.x &&& q.z) : Nat) : Int) % 2 == ((pc (p.z &&& q.x) : Nat) : Int) % 2))) h
  rw [e]
  exact hR
theorem pk_rank : Pk 1 0 sp_rank w_rank := by
  rintro ds h R _ ⟨p, rfl, hR⟩
  exact ⟨p, rfl, _, rfl, _, rfl, hR⟩
theorem pk_part : Pk 2 0 sp_part w_part := by
  rintro ds h R _ ⟨p, m, rfl, hR⟩
  refine ⟨_, rfl, _, rfl, ?_⟩
  show R (.tup [.int (Builtin.bitAnd p.x m), .int (Builtin.bitAnd p.z m), .int 0]) h
  rw [and_nn, and_nn]
  exact hR
theorem pk_shifted : Pk 2 0 sp_shifted w_shifted := by
  rintro ds h R _ ⟨p, q, rfl, h1, h2, h3, hR⟩
  refine ⟨_, rfl, shl_ok (n := 100) (by simpa using h1) (by omega), _, rfl, shl_ok (n := 100) (by simpa using h2) (by omega), _, rfl, ?_⟩
  show R (.tup [.int ((p.x : Int) * 2 ^ (q : Int).toNat), .int ((p.z : Int) * 2 ^ (q : Int).toNat), .int p.s]) h
  rw [shl_nn, shl_nn]
  exact hR
theorem pk_single : Pk 2 1 sp_single w_single := by
  rintro ds h R _ ⟨k, q, hk, hq, rfl, hR⟩
  have c : k = 0 ∨ k = 1 ∨ k = 2 ∨ k = 3 := by omega
  have key : ∀ (c i j m : Nat), i < 2 → j < 2 → Builtin.Str.occurrences (Str.ofString "IXZY") ⟨#[c]⟩ 0 (Str.ofString "IXZY").length 1 = m :: [] → Builtin.bitAnd (m : Nat) 1 = (i : Nat) → ((m : Nat) : Int) / 2 ^ (1 : Int).toNat = (j : Nat) →
      R (Pa.e ⟨i * 2 ^ q, j * 2 ^ q, 0⟩) h → w_single (Fi R) ⟨[.f (.str ⟨#[c]⟩), .f (.int q), .u], h⟩ := fun c i j m hi hj ho e1 e2 hR => by
    refine ⟨m, _, ho, ?_, by decide, ?_, ?_⟩
    · show CShl (Builtin.bitAnd (m : Nat) 1) (q : Int)
      rw [e1]
      exact shl_ok (n := 1) (by omega) (by omega)
    · show CShl (((m : Nat) : Int) / 2 ^ (1 : Int).toNat) (q : Int)
      rw [e2]
      exact shl_ok (n := 1) (by omega) (by omega)
    · show R (.tup [.int (Builtin.bitAnd (m : Nat) 1 * 2 ^ (q : Int).toNat), .int (((m : Nat) : Int) / 2 ^ (1 : Int).toNat * 2 ^ (q : Int).toNat), .int 0]) h
      rw [e1, e2, shl_nn, shl_nn]
      exact hR
  rcases c with rfl | rfl | rfl | rfl
  · exact key 73 0 0 0 (by decide) (by decide) (by decide +kernel) (by decide +kernel) (by decide) hR
  · exact key 88 1 0 1 (by decide) (by decide) (by decide +kernel) (by decide +kernel) (by decide) hR
  · exact key 90 0 1 2 (by decide) (by decide) (by decide +kernel) (by decide +kernel) (by decide) hR
  · exact key 89 1 1 3 (by decide) (by decide) (by decide +kernel) (by decide +kernel) (by decide) hR
end VL.P

set_option Elab.async false
set_option linter.all false
set_option maxRecDepth 100000
set_option maxHeartbeats 4000000
namespace VL.P
open PySem PySem.Spec PyProof.Rows L2 VL
theorem pc_le (n : Nat) : pc n ≤ n := by
  induction n using Nat.strongRecOn with
  | ind n ih =>
    rw [pc_step]
    by_cases h : n = 0
    · subst h; exact Nat.le_refl _
    · have := ih (n / 2) (by omega)
      omega
theorem trn_nn (p q : Pa) : 0 ≤ trn p q / 2 := Int.ediv_nonneg (Int.emod_nonneg _ (by decide)) (by decide)
theorem trn_lt (p q : Pa) : trn p q < 4 := Int.emod_lt_of_pos _ (by decide)
theorem prd_s (p q : Pa) : (prd p q).s < 2 := by
  have := trn_lt p q
  have := trn_nn p q
  show (trn p q / 2).toNat < 2
  omega
theorem pk_product : Pk 2 3 sp_product w_product := by
  rintro ds h R _ ⟨p, q, rfl, hp, hq, hz, hR⟩
  refine ⟨_, rfl, _, rfl, ?_⟩
  change w_product_1 (Fi R) ⟨[.f p.e, .f q.e, .f (.int (Builtin.bitXor p.x q.x)), .u, .u], h⟩
  rw [xor_nn]
  refine ⟨_, rfl, _, rfl, ?_⟩
  change w_product_2 (Fi R) ⟨[.f p.e, .f q.e, .f (.int ((p.x ^^^ q.x : Nat) : Int)), .f (.int (Builtin.bitXor p.z q.z)), .u], h⟩
  rw [xor_nn]
  refine ⟨_, rfl, _, rfl, cmul 2 2 (by decide) (by omega) (by decide), _, rfl, _, rfl, p.x &&& p.z, by rw [and_nn], _, rfl, _, rfl, q.x &&& q.z, by rw [and_nn], ?_⟩
  change w_product_3 (Fi R) ⟨[.f p.e, .f q.e, .f (.int ((p.x ^^^ q.x : Nat) : Int)), .f (.int ((p.z ^^^ q.z : Nat) : Int)), .f (.int (2 * ((p.s : Int) + q.s) + pc (p.x &&& p.z) + pc (q.x &&& q.z)))], h⟩
  have hb : pc (p.z &&& q.x) < 2 ^ 100 := Nat.lt_of_le_of_lt (Nat.le_trans (pc_le _) Nat.and_le_left) hz
  refine ⟨_, rfl, _, rfl, p.z &&& q.x, by rw [and_nn], cmul 2 100 (by decide) (by simpa using hb) (by decide), (p.x ^^^ q.x) &&& (p.z ^^^ q.z), by rw [and_nn], by decide, ?_⟩
  change w_product_4 (Fi R) ⟨[.f p.e, .f q.e, .f (.int ((p.x ^^^ q.x : Nat) : Int)), .f (.int ((p.z ^^^ q.z : Nat) : Int)), .f (.int (trn p q))], h⟩
  refine ⟨cdiv2, ?_⟩
  change R (.tup [.int ((p.x ^^^ q.x : Nat) : Int), .int ((p.z ^^^ q.z : Nat) : Int), .int (trn p q / 2)]) h
  have e : trn p q / 2 = ((prd p q).s : Int) := by
    show _ = (((trn p q / 2).toNat : Nat) : Int)
    have := trn_nn p q
    omega
  rw [e]
  exact hR
/-- a comprehension whose steps are plain -/
theorem lcL_run {g : WG} {tt : WT} {te : WE} {vs : List Nat} {s0 : List Sl} {R : List D → Oh → Prop} {h : Oh} (step : D → Option D) : ∀ (xs acc : List D),
    (∀ x ∈ xs, ∀ C : Option D → Oh → Prop, C (step x) h → g x ⟨wipeS s0 vs, h⟩ fun S1 => tt S1 fun b S2 => Br b (te S2 fun d S3 => wipeS S3.s vs = wipeS s0 vs ∧ C (some d) S3.h) (wipeS S2.s vs = wipeS s0 vs ∧ C none S2.h)) →
    R (acc ++ xs.filterMap step) h → wLcL g tt te vs s0 R xs h acc
  | [], acc, _, hR => by rw [List.filterMap_nil, List.append_nil] at hR; exact hR
  | x :: xs, acc, hs, hR => by
    have ih := fun a => lcL_run (g := g) (tt := tt) (te := te) (vs := vs) (s0 := s0) (R := R) (h := h) step xs a fun y hy => hs y (List.mem_cons_of_mem _ hy)
    refine hs x List.mem_cons_self (fun o h' => wLcL g tt te vs s0 R xs h' (match o with | some d => acc ++ [d] | none => acc)) ?_
    cases e : step x with
    | none =>
      rw [List.filterMap_cons, e] at hR
      exact ih acc hR
    | some d =>
      rw [List.filterMap_cons, e] at hR
      refine ih (acc ++ [d]) ?_
      rw [List.append_assoc]
      exact hR
/-- of whole numbers, those with p -/
def keepI (p : Nat → Bool) : D → Option D
  | .int i => if p i.toNat then some (.int i) else none
  | _ => none
theorem fm_range (l : List Nat) (p : Nat → Bool) : (l.map fun k => D.int (k : Nat)).filterMap (keepI p) = (l.filter p).map fun q => D.int (q : Nat) := by
  induction l with
  | nil => rfl
  | cons a l ih =>
    have e : keepI p (.int (a : Nat)) = if p a then some (.int (a : Nat)) else none := rfl
    rw [List.map_cons, List.filterMap_cons, ih, e, List.filter_cons]
    cases p a <;> rfl
theorem pk_support : Pk 1 2 sp_support w_support := by
  rintro ds h R _ ⟨p, rfl, hx, hz, hR⟩
  refine ⟨_, rfl, _, rfl, ?_⟩
  change w_support_1 (Fi R) ⟨[.f p.e, .f (.int (Builtin.bitOr p.x p.z)), .u], h⟩
  rw [or_nn]
  unfold lets at hR
  have hm : (p.x ||| p.z) < 2 ^ 100 := Nat.or_lt_two_pow hx hz
  generalize p.x ||| p.z = m at hR hm
  have hb : (if m = 0 then 0 else m.log2 + 1) ≤ 100 := by
    split
    · omega
    · rename_i hne
      have := (Nat.log2_lt hne).mpr hm
      omega
  have e1 : ((Builtin.Int.intBits (m : Int) : Nat) : Int).toNat = (if m = 0 then 0 else m.log2 + 1) := by rw [bits_nn, Int.toNat_natCast]
  have e2 : (Builtin.Int.intBits (m : Int) : Nat) ≤ 100 := by rw [bits_nn]; exact hb
  refine ⟨⟨by omega, by omega⟩, rfl, ?_, ?_⟩
  · show ((List.range ((Builtin.Int.intBits (m : Int) : Nat) : Int).toNat).map _).length ≤ 1000000
    rw [List.length_map, List.length_range, e1]
    omega
  · refine lcL_run (keepI fun q => m / 2 ^ q % 2 == 1) _ _ (fun x hx C hC => ?_) ?_
    · obtain ⟨q, hq, rfl⟩ := List.mem_map.mp hx
      refine ⟨Int.natCast_nonneg q, ?_⟩
      have hC' : C (if (m / 2 ^ q % 2 == 1) then some (.int (q : Nat)) else none) h := hC
      show Br ((Builtin.bitAnd ((m : Int) / 2 ^ (q : Int).toNat) 1) != 0) _ _
      rw [shr_nn, and1_nn]
      rcases m2 _ (Nat.mod_lt (m / 2 ^ q) (show 0 < 2 by decide)) with e | e
      · rw [e] at hC' ⊢
        exact brF rfl ⟨rfl, hC'⟩
      · rw [e] at hC' ⊢
        exact brT rfl ⟨rfl, hC'⟩
    · show R (.lst ([] ++ List.filterMap _ ((List.range ((Builtin.Int.intBits (m : Int) : Nat) : Int).toNat).map _))) h
      rw [e1, List.nil_append, fm_range _ fun q => m / 2 ^ q % 2 == 1]
      exact hR
end VL.P

set_option Elab.async false
set_option linter.all false
set_option maxRecDepth 100000
set_option maxHeartbeats 1000000
/-! VN3: vectors, Paulis and gates on them; inner products -/
namespace VL.N
open VL VL.P Q8
/-! ### parities -/
theorem pc_xor : ∀ a b : Nat, pc (a ^^^ b) + 2 * pc (a &&& b) = pc a + pc b := fun a => by
  induction a using Nat.strongRecOn with
  | ind a ih =>
    intro b
    by_cases ha : a = 0
    · subst ha
      rw [Nat.zero_xor, Nat.zero_and, pc_zero]
      omega
    · have x := ih (a / 2) (by omega) (b / 2)
      have p1 := Nat.mod_lt a (show 0 < 2 by decide)
      have p2 := Nat.mod_lt b (show 0 < 2 by decide)
      have e2 := xor2 (a / 2) (b / 2) (a % 2) (b % 2) p1 p2
      have e3 := and2 (a / 2) (b / 2) (a % 2) (b % 2) p1 p2
      rw [Nat.div_add_mod, Nat.div_add_mod] at e2 e3
      rw [e2, e3, pc_step a, pc_step b]
      rcases m2 _ p1 with q | q <;> rcases m2 _ p2 with q' | q' <;> rw [q, q'] <;> (rw [pc2 _ _ (by decide), pc2 _ _ (by decide)]; omega)
theorem xor_and (a b c : Nat) : (a ^^^ b) &&& c = (a &&& c) ^^^ (b &&& c) := Nat.eq_of_testBit_eq fun j => by
  simp only [Nat.testBit_and, Nat.testBit_xor]
  cases a.testBit j <;> cases b.testBit j <;> cases c.testBit j <;> rfl
theorem par_xor (a b c : Nat) : pc ((a ^^^ b) &&& c) % 2 = (pc (a &&& c) + pc (b &&& c)) % 2 := by
  rw [xor_and]
  have := pc_xor (a &&& c) (b &&& c)
  omega
theorem par_xor' (a b c : Nat) : pc (c &&& (a ^^^ b)) % 2 = (pc (c &&& a) + pc (c &&& b)) % 2 := by
  rw [Nat.and_comm, par_xor, Nat.and_comm a, Nat.and_comm b]
def B (x i : Nat) : Nat := x / 2 ^ i % 2
theorem B_lt (x i : Nat) : B x i < 2 := Nat.mod_lt _ (by decide)
theorem B_tb (x i : Nat) : B x i = (x.testBit i).toNat := by
  unfold B
  rw [Nat.testBit_eq_decide_div_mod_eq]
  rcases m2 _ (Nat.mod_lt (x / 2 ^ i) (show 0 < 2 by decide)) with q | q <;> rw [q] <;> rfl
theorem pc_pow (i : Nat) : pc (2 ^ i) = 1 := by
  induction i with
  | zero => rfl
  | succ i ih =>
    have := pc2 (2 ^ i) 0 (by decide)
    rw [Nat.pow_succ, Nat.mul_comm, ← Nat.add_zero (2 * 2 ^ i), this, ih]
theorem pc_one (i y : Nat) : pc (2 ^ i &&& y) = (y.testBit i).toNat := by
  have e : 2 ^ i &&& y = if y.testBit i then 2 ^ i else 0 := Nat.eq_of_testBit_eq fun j => by
    rw [Nat.testBit_and, Nat.testBit_two_pow]
    by_cases h : i = j
    · subst h
      rw [decide_eq_true rfl, Bool.true_and]
      cases y.testBit i with
      | true => rw [if_pos rfl, Nat.testBit_two_pow_self]
      | false => simp
    · rw [decide_eq_false h, Bool.false_and]
      split
      · rw [Nat.testBit_two_pow, decide_eq_false h]
      · rw [Nat.zero_testBit]
  rw [e]
  cases y.testBit i with
  | true => exact pc_pow i
  | false => rfl
theorem xx (a b : Nat) : (a ^^^ b) ^^^ b = a := by rw [Nat.xor_assoc, Nat.xor_self, Nat.xor_zero]
theorem xcm (a b c : Nat) : (a ^^^ b) ^^^ c = (a ^^^ c) ^^^ b := by rw [Nat.xor_assoc, Nat.xor_comm b c, ← Nat.xor_assoc]
theorem tb_fl (k q r : Nat) : (k ^^^ 2 ^ q).testBit r = (k.testBit r ^^ decide (q = r)) := by rw [Nat.testBit_xor, Nat.testBit_two_pow]
theorem tb_same (k q : Nat) : (k ^^^ 2 ^ q).testBit q = !k.testBit q := by rw [tb_fl, decide_eq_true rfl, Bool.xor_true]
theorem tb_other {q r : Nat} (k : Nat) (h : q ≠ r) : (k ^^^ 2 ^ q).testBit r = k.testBit r := by rw [tb_fl, decide_eq_false h, Bool.xor_false]
abbrev Vc := Nat → Q8
def sc (c : Q8) (f : Vc) : Vc := fun k => c * f k
def act (p : Pa) (f : Vc) : Vc := fun k => ph (2 * pc (p.x &&& p.z) + 4 * p.s + 4 * (pc ((k ^^^ p.x) &&& p.z) % 2)) * f (k ^^^ p.x)
def op1 (a b c d : Q8) (q : Nat) (f : Vc) : Vc := fun k => if k.testBit q then c * f (k ^^^ 2 ^ q) + d * f k else a * f k + b * f (k ^^^ 2 ^ q)
def ctl (c : Nat) (g f : Vc) : Vc := fun k => if k.testBit c then g k else f k
/-! ### products of Paulis -/
theorem act_one (x z s : Nat) (f : Vc) : act ⟨x, z, s⟩ f = sc (ph (4 * s)) (act ⟨x, z, 0⟩ f) := funext fun k => by
  show ph _ * f _ = ph _ * (ph _ * f _)
  rw [← mul_assoc, ← ph_add]
  congr 2
  show 2 * pc (x &&& z) + 4 * s + 4 * (pc ((k ^^^ x) &&& z) % 2) = 4 * s + (2 * pc (x &&& z) + 4 * 0 + 4 * (pc ((k ^^^ x) &&& z) % 2))
  omega
def trN (p q : Pa) : Nat := (trn p q).toNat
theorem trN_cast (p q : Pa) : ((trN p q : Nat) : Int) = trn p q := Int.toNat_of_nonneg (Int.emod_nonneg _ (by decide))
theorem act_act (p q : Pa) (f : Vc) : act p (act q f) = sc (ph (2 * trN p q)) (act ⟨p.x ^^^ q.x, p.z ^^^ q.z, 0⟩ f) := funext fun k => by
  show ph _ * (ph _ * f _) = ph _ * (ph _ * f _)
  have e : k ^^^ (p.x ^^^ q.x) = (k ^^^ p.x) ^^^ q.x := (Nat.xor_assoc ..).symm
  show _ = ph (2 * trN p q) * (ph (2 * pc ((p.x ^^^ q.x) &&& (p.z ^^^ q.z)) + 4 * 0 + 4 * (pc ((k ^^^ (p.x ^^^ q.x)) &&& (p.z ^^^ q.z)) % 2)) * f (k ^^^ (p.x ^^^ q.x)))
  rw [e, ← mul_assoc, ← mul_assoc, ← ph_add, ← ph_add]
  congr 1
  refine ph_congr ?_
  have h1 := par_xor' p.z q.z ((k ^^^ p.x) ^^^ q.x)
  have h2 := par_xor (k ^^^ p.x) q.x p.z
  have ht := trN_cast p q
  unfold trn at ht
  rw [Nat.and_comm q.x p.z] at h2
  have l1 := Nat.and_comm p.z q.x
  generalize pc (((k ^^^ p.x) ^^^ q.x) &&& (p.z ^^^ q.z)) = u1 at *
  generalize pc (((k ^^^ p.x) ^^^ q.x) &&& p.z) = u2 at *
  generalize pc (((k ^^^ p.x) ^^^ q.x) &&& q.z) = u3 at *
  generalize pc ((k ^^^ p.x) &&& p.z) = u4 at *
  generalize pc (p.z &&& q.x) = u5 at *
  generalize pc (p.x &&& p.z) = u6 at *
  generalize pc (q.x &&& q.z) = u7 at *
  generalize pc ((p.x ^^^ q.x) &&& (p.z ^^^ q.z)) = u8 at *
  generalize trN p q = t at *
  omega
theorem trn_par (p q : Pa) : trN p q % 2 = if cmt p q = true then 0 else 1 := by
  have ht := trN_cast p q
  unfold trn at ht
  unfold cmt
  have h1 := par_xor p.x q.x (p.z ^^^ q.z)
  have h2 := par_xor' p.z q.z p.x
  have h3 := par_xor' p.z q.z q.x
  rw [Nat.and_comm q.x p.z] at h3
  generalize pc ((p.x ^^^ q.x) &&& (p.z ^^^ q.z)) = u8 at *
  generalize pc (p.x &&& (p.z ^^^ q.z)) = u1 at *
  generalize pc (q.x &&& (p.z ^^^ q.z)) = u2 at *
  generalize pc (p.z &&& q.x) = u5 at *
  generalize pc (p.x &&& q.z) = u6 at *
  generalize pc (p.x &&& p.z) = u7 at *
  generalize pc (q.x &&& q.z) = u9 at *
  generalize trN p q = t at *
  by_cases c : u6 % 2 = u5 % 2
  · rw [show (u6 % 2 == u5 % 2) = true from by rw [c]; exact beq_self_eq_true _, if_pos rfl]; omega
  · rw [show (u6 % 2 == u5 % 2) = false from by simpa using c, if_neg (by decide)]; omega
theorem prd_act (p q : Pa) (f : Vc) : act (prd p q) f = sc (ph (4 * (trN p q / 2))) (act ⟨p.x ^^^ q.x, p.z ^^^ q.z, 0⟩ f) := by
  unfold prd
  rw [act_one]
  congr 3
  have ht := trN_cast p q
  omega
theorem sc_sc (a b : Q8) (f : Vc) : sc a (sc b f) = sc (a * b) f := funext fun k => (mul_assoc ..).symm
theorem prd_cmt {p q : Pa} (h : cmt p q = true) (f : Vc) : act p (act q f) = act (prd p q) f := by
  have t := trn_par p q
  rw [if_pos h] at t
  rw [act_act, prd_act]
  congr 2
  omega
theorem prd_anti {p q : Pa} (h : cmt p q = false) (f : Vc) : act p (act q f) = sc (ph 2) (act (prd p q) f) := by
  have t := trn_par p q
  rw [if_neg (by rw [h]; decide)] at t
  rw [act_act, prd_act, sc_sc, ← ph_add]
  congr 2
  omega
theorem cmt_sw (p q : Pa) (f : Vc) : act p (act q f) = sc (ph (if cmt p q = true then 0 else 4)) (act q (act p f)) := by
  rw [act_act, act_act, sc_sc, ← ph_add, Nat.xor_comm q.x p.x, Nat.xor_comm q.z p.z]
  congr 1
  refine ph_congr ?_
  have h1 := trN_cast p q
  have h2 := trN_cast q p
  unfold trn at h1 h2
  unfold cmt
  rw [Nat.xor_comm q.x p.x, Nat.xor_comm q.z p.z, Nat.and_comm q.z p.x] at h2
  generalize pc ((p.x ^^^ q.x) &&& (p.z ^^^ q.z)) = u8 at *
  generalize pc (p.z &&& q.x) = u5 at *
  generalize pc (p.x &&& q.z) = u6 at *
  generalize pc (p.x &&& p.z) = u7 at *
  generalize pc (q.x &&& q.z) = u9 at *
  generalize trN p q = t at *
  generalize trN q p = t' at *
  by_cases c : u6 % 2 = u5 % 2
  · rw [show (u6 % 2 == u5 % 2) = true from by rw [c]; exact beq_self_eq_true _, if_pos rfl]; omega
  · rw [show (u6 % 2 == u5 % 2) = false from by simpa using c, if_neg (by decide)]; omega
theorem act_id (f : Vc) : act ⟨0, 0, 0⟩ f = f := funext fun k => by
  show ph (2 * pc (0 &&& 0) + 4 * 0 + 4 * (pc ((k ^^^ 0) &&& 0) % 2)) * f (k ^^^ 0) = f k
  rw [Nat.and_zero, Nat.and_zero, Nat.xor_zero]
  exact one_mul _
theorem act_self (p : Pa) (f : Vc) : act p (act p f) = f := by
  rw [act_act, Nat.xor_self, Nat.xor_self, act_id]
  have h1 := trN_cast p p
  unfold trn at h1
  rw [Nat.xor_self, Nat.zero_and, pc_zero, Nat.and_comm p.z p.x] at h1
  funext k
  show ph (2 * trN p p) * f k = f k
  rw [ph_congr (m := 0) (by omega), ph_zero, one_mul]
theorem sc_act (c : Q8) (p : Pa) (f : Vc) : act p (sc c f) = sc c (act p f) := funext fun k => by
  show ph _ * (c * f _) = c * (ph _ * f _)
  grind
/-- X and Z of a qubit -/
def xq (q : Nat) : Pa := ⟨2 ^ q, 0, 0⟩
def zq1 (q : Nat) : Pa := ⟨0, 2 ^ q, 0⟩
theorem act_x (q : Nat) (f : Vc) (k : Nat) : act (xq q) f k = f (k ^^^ 2 ^ q) := by
  show ph (2 * pc (2 ^ q &&& 0) + 4 * 0 + 4 * (pc ((k ^^^ 2 ^ q) &&& 0) % 2)) * f (k ^^^ 2 ^ q) = _
  rw [Nat.and_zero, Nat.and_zero]
  exact one_mul _
theorem act_z (q : Nat) (f : Vc) (k : Nat) : act (zq1 q) f k = if k.testBit q then -f k else f k := by
  show ph (2 * pc (0 &&& 2 ^ q) + 4 * 0 + 4 * (pc ((k ^^^ 0) &&& 2 ^ q) % 2)) * f (k ^^^ 0) = _
  rw [Nat.zero_and, Nat.xor_zero, Nat.and_comm, pc_one]
  cases k.testBit q with
  | true =>
    rw [if_pos rfl]
    show ph 4 * f k = -f k
    have e4 : ph 4 = -1 := w4
    rw [e4]
    grind
  | false => exact one_mul _
end VL.N

set_option Elab.async false
set_option linter.all false
set_option maxRecDepth 100000
set_option maxHeartbeats 1000000
/-! VN4: gates past Paulis; inner products are kept -/
namespace VL.N
open VL VL.P Q8
theorem ph4 : ph 4 = -1 := w4
theorem ph6 : ph 6 = -ph 2 := by
  have e : ph 6 = ph 4 * ph 2 := ph_add 4 2
  rw [e, ph4]
  grind
theorem ph22 : ph 2 * ph 2 = -1 := (ph_add 2 2).symm.trans ph4
theorem cj_ph2 : cj (ph 2) = -ph 2 := by
  have e := ph_cj 2
  have f := ph22
  grind
theorem op1_hom (a b c d : Q8) (q : Nat) (s : Q8) (f : Vc) : op1 a b c d q (sc s f) = sc s (op1 a b c d q f) := funext fun k => by
  show (if k.testBit q then c * (s * f (k ^^^ 2 ^ q)) + d * (s * f k) else a * (s * f k) + b * (s * f (k ^^^ 2 ^ q))) = s * (if k.testBit q then c * f (k ^^^ 2 ^ q) + d * f k else a * f k + b * f (k ^^^ 2 ^ q))
  cases k.testBit q <;> simp only [if_true, if_false, Bool.false_eq_true] <;> grind
section
variable {q r : Nat} {a b c d : Q8} {f : Vc}
theorem op1_x (h : q ≠ r) : act (xq r) (op1 a b c d q f) = op1 a b c d q (act (xq r) f) := funext fun k => by
  rw [act_x]
  unfold op1
  rw [tb_other k (Ne.symm h), act_x, act_x, xcm k (2 ^ r)]
theorem op1_z (h : q ≠ r) : act (zq1 r) (op1 a b c d q f) = op1 a b c d q (act (zq1 r) f) := funext fun k => by
  rw [act_z]
  unfold op1
  rw [act_z, act_z, tb_other k h]
  cases k.testBit q <;> cases k.testBit r <;> simp only [if_true, if_false, Bool.false_eq_true] <;> grind
theorem op1_xs : act (xq q) (op1 a b c d q f) = op1 d c b a q (act (xq q) f) := funext fun k => by
  rw [act_x]
  unfold op1
  rw [tb_same, xx, act_x, act_x, xx]
  cases k.testBit q <;> simp only [Bool.not_true, Bool.not_false, if_true, if_false, Bool.false_eq_true] <;> grind
theorem op1_zs : act (zq1 q) (op1 a b c d q f) = op1 a (-b) (-c) d q (act (zq1 q) f) := funext fun k => by
  rw [act_z]
  unfold op1
  rw [act_z, act_z, tb_same]
  cases k.testBit q <;> simp only [Bool.not_true, Bool.not_false, if_true, if_false, Bool.false_eq_true] <;> grind
end
def gH (q : Nat) : Vc → Vc := op1 h h h (-h) q
def gS (q : Nat) : Vc → Vc := op1 1 0 0 (ph 2) q
def gSI (q : Nat) : Vc → Vc := op1 1 0 0 (ph 6) q
def gX (q : Nat) : Vc → Vc := op1 0 1 1 0 q
def gY (q : Nat) : Vc → Vc := op1 0 (ph 6) (ph 2) 0 q
def gZ (q : Nat) : Vc → Vc := op1 1 0 0 (ph 4) q
def gCX (c t : Nat) (f : Vc) : Vc := ctl c (gX t f) f
def gCZ (c t : Nat) (f : Vc) : Vc := ctl c (gZ t f) f
theorem hX (q : Nat) (f : Vc) : act (xq q) (gH q f) = gH q (act (zq1 q) f) := by
  funext k
  simp only [sc, act_x, act_z, gH, gS, gSI, gX, gY, gZ, op1, tb_same, xx, ph4, ph6]
  have p2 := ph22
  cases k.testBit _ <;> simp only [Bool.not_true, Bool.not_false, if_true, if_false, Bool.false_eq_true] <;> grind
theorem hZ (q : Nat) (f : Vc) : act (zq1 q) (gH q f) = gH q (act (xq q) f) := by
  funext k
  simp only [sc, act_x, act_z, gH, gS, gSI, gX, gY, gZ, op1, tb_same, xx, ph4, ph6]
  have p2 := ph22
  cases k.testBit _ <;> simp only [Bool.not_true, Bool.not_false, if_true, if_false, Bool.false_eq_true] <;> grind
theorem sX (q : Nat) (f : Vc) : act (xq q) (gS q f) = sc (ph 6) (gS q (act (xq q) (act (zq1 q) f))) := by
  funext k
  simp only [sc, act_x, act_z, gH, gS, gSI, gX, gY, gZ, op1, tb_same, xx, ph4, ph6]
  have p2 := ph22
  cases k.testBit _ <;> simp only [Bool.not_true, Bool.not_false, if_true, if_false, Bool.false_eq_true] <;> grind
theorem sZ (q : Nat) (f : Vc) : act (zq1 q) (gS q f) = gS q (act (zq1 q) f) := by
  funext k
  simp only [sc, act_x, act_z, gH, gS, gSI, gX, gY, gZ, op1, tb_same, xx, ph4, ph6]
  have p2 := ph22
  cases k.testBit _ <;> simp only [Bool.not_true, Bool.not_false, if_true, if_false, Bool.false_eq_true] <;> grind
theorem siX (q : Nat) (f : Vc) : act (xq q) (gSI q f) = sc (ph 2) (gSI q (act (xq q) (act (zq1 q) f))) := by
  funext k
  simp only [sc, act_x, act_z, gH, gS, gSI, gX, gY, gZ, op1, tb_same, xx, ph4, ph6]
  have p2 := ph22
  cases k.testBit _ <;> simp only [Bool.not_true, Bool.not_false, if_true, if_false, Bool.false_eq_true] <;> grind
theorem siZ (q : Nat) (f : Vc) : act (zq1 q) (gSI q f) = gSI q (act (zq1 q) f) := by
  funext k
  simp only [sc, act_x, act_z, gH, gS, gSI, gX, gY, gZ, op1, tb_same, xx, ph4, ph6]
  have p2 := ph22
  cases k.testBit _ <;> simp only [Bool.not_true, Bool.not_false, if_true, if_false, Bool.false_eq_true] <;> grind
theorem xX (q : Nat) (f : Vc) : act (xq q) (gX q f) = gX q (act (xq q) f) := by
  funext k
  simp only [sc, act_x, act_z, gH, gS, gSI, gX, gY, gZ, op1, tb_same, xx, ph4, ph6]
  have p2 := ph22
  cases k.testBit _ <;> simp only [Bool.not_true, Bool.not_false, if_true, if_false, Bool.false_eq_true] <;> grind
theorem xZ (q : Nat) (f : Vc) : act (zq1 q) (gX q f) = sc (ph 4) (gX q (act (zq1 q) f)) := by
  funext k
  simp only [sc, act_x, act_z, gH, gS, gSI, gX, gY, gZ, op1, tb_same, xx, ph4, ph6]
  have p2 := ph22
  cases k.testBit _ <;> simp only [Bool.not_true, Bool.not_false, if_true, if_false, Bool.false_eq_true] <;> grind
theorem yX (q : Nat) (f : Vc) : act (xq q) (gY q f) = sc (ph 4) (gY q (act (xq q) f)) := by
  funext k
  simp only [sc, act_x, act_z, gH, gS, gSI, gX, gY, gZ, op1, tb_same, xx, ph4, ph6]
  have p2 := ph22
  cases k.testBit _ <;> simp only [Bool.not_true, Bool.not_false, if_true, if_false, Bool.false_eq_true] <;> grind
theorem yZ (q : Nat) (f : Vc) : act (zq1 q) (gY q f) = sc (ph 4) (gY q (act (zq1 q) f)) := by
  funext k
  simp only [sc, act_x, act_z, gH, gS, gSI, gX, gY, gZ, op1, tb_same, xx, ph4, ph6]
  have p2 := ph22
  cases k.testBit _ <;> simp only [Bool.not_true, Bool.not_false, if_true, if_false, Bool.false_eq_true] <;> grind
theorem zX (q : Nat) (f : Vc) : act (xq q) (gZ q f) = sc (ph 4) (gZ q (act (xq q) f)) := by
  funext k
  simp only [sc, act_x, act_z, gH, gS, gSI, gX, gY, gZ, op1, tb_same, xx, ph4, ph6]
  have p2 := ph22
  cases k.testBit _ <;> simp only [Bool.not_true, Bool.not_false, if_true, if_false, Bool.false_eq_true] <;> grind
theorem zZ (q : Nat) (f : Vc) : act (zq1 q) (gZ q f) = gZ q (act (zq1 q) f) := by
  funext k
  simp only [sc, act_x, act_z, gH, gS, gSI, gX, gY, gZ, op1, tb_same, xx, ph4, ph6]
  have p2 := ph22
  cases k.testBit _ <;> simp only [Bool.not_true, Bool.not_false, if_true, if_false, Bool.false_eq_true] <;> grind
section
variable {c t r : Nat} {f : Vc}
theorem cxXc (h : c ≠ t) : act (xq c) (gCX c t f) = gCX c t (act (xq c) (act (xq t) f)) := funext fun k => by
  have n := Ne.symm h
  simp only [act_x, gCX, ctl, gX, op1, tb_same, tb_other k h, xx, tb_other (k ^^^ 2 ^ c) n, tb_other k n, xcm k (2 ^ t) (2 ^ c)]
  have p2 := ph22
  cases Nat.testBit _ c <;> cases Nat.testBit _ t <;> simp only [Bool.not_true, Bool.not_false, if_true, if_false, Bool.false_eq_true] <;> grind
theorem cxZc (h : c ≠ t) : act (zq1 c) (gCX c t f) = gCX c t (act (zq1 c) f) := funext fun k => by
  have n := Ne.symm h
  simp only [act_z, gCX, ctl, gX, op1, tb_other k n]
  have p2 := ph22
  cases Nat.testBit _ c <;> cases Nat.testBit _ t <;> simp only [Bool.not_true, Bool.not_false, if_true, if_false, Bool.false_eq_true] <;> grind
theorem cxXt (h : c ≠ t) : act (xq t) (gCX c t f) = gCX c t (act (xq t) f) := funext fun k => by
  have n := Ne.symm h
  simp only [act_x, gCX, ctl, gX, op1, tb_same, tb_other k n, xx]
  have p2 := ph22
  cases Nat.testBit _ c <;> cases Nat.testBit _ t <;> simp only [Bool.not_true, Bool.not_false, if_true, if_false, Bool.false_eq_true] <;> grind
theorem cxZt (h : c ≠ t) : act (zq1 t) (gCX c t f) = gCX c t (act (zq1 c) (act (zq1 t) f)) := funext fun k => by
  have n := Ne.symm h
  simp only [act_z, gCX, ctl, gX, op1, tb_same, tb_other k n]
  have p2 := ph22
  cases Nat.testBit _ c <;> cases Nat.testBit _ t <;> simp only [Bool.not_true, Bool.not_false, if_true, if_false, Bool.false_eq_true] <;> grind
theorem cxXr (h : c ≠ t) (h1 : c ≠ r) (h2 : t ≠ r) : act (xq r) (gCX c t f) = gCX c t (act (xq r) f) := funext fun k => by
  simp only [act_x, gCX, ctl, gX, op1, tb_other k (Ne.symm h1), tb_other k (Ne.symm h2), xcm k (2 ^ r)]
theorem cxZr (h : c ≠ t) (h1 : c ≠ r) (h2 : t ≠ r) : act (zq1 r) (gCX c t f) = gCX c t (act (zq1 r) f) := funext fun k => by
  simp only [act_z, gCX, ctl, gX, op1, tb_other k h1, tb_other k h2]
  have p2 := ph22
  cases Nat.testBit _ c <;> cases Nat.testBit _ t <;> cases Nat.testBit _ r <;> simp only [Bool.not_true, Bool.not_false, if_true, if_false, Bool.false_eq_true] <;> grind
theorem czXc (h : c ≠ t) : act (xq c) (gCZ c t f) = gCZ c t (act (xq c) (act (zq1 t) f)) := funext fun k => by
  have n := Ne.symm h
  simp only [act_x, act_z, gCZ, ctl, gZ, op1, tb_same, tb_other k h, xx, ph4]
  have p2 := ph22
  cases Nat.testBit _ c <;> cases Nat.testBit _ t <;> simp only [Bool.not_true, Bool.not_false, if_true, if_false, Bool.false_eq_true] <;> grind
theorem czZc (h : c ≠ t) : act (zq1 c) (gCZ c t f) = gCZ c t (act (zq1 c) f) := funext fun k => by
  have n := Ne.symm h
  simp only [act_z, gCZ, ctl, gZ, op1, tb_other k n, ph4]
  have p2 := ph22
  cases Nat.testBit _ c <;> cases Nat.testBit _ t <;> simp only [Bool.not_true, Bool.not_false, if_true, if_false, Bool.false_eq_true] <;> grind
theorem czXt (h : c ≠ t) : act (xq t) (gCZ c t f) = gCZ c t (act (zq1 c) (act (xq t) f)) := funext fun k => by
  have n := Ne.symm h
  simp only [act_x, act_z, gCZ, ctl, gZ, op1, tb_same, tb_other k n, xx, ph4]
  have p2 := ph22
  cases Nat.testBit _ c <;> cases Nat.testBit _ t <;> simp only [Bool.not_true, Bool.not_false, if_true, if_false, Bool.false_eq_true] <;> grind
theorem czZt (h : c ≠ t) : act (zq1 t) (gCZ c t f) = gCZ c t (act (zq1 t) f) := funext fun k => by
  have n := Ne.symm h
  simp only [act_z, gCZ, ctl, gZ, op1, tb_same, ph4]
  have p2 := ph22
  cases Nat.testBit _ c <;> cases Nat.testBit _ t <;> simp only [Bool.not_true, Bool.not_false, if_true, if_false, Bool.false_eq_true] <;> grind
theorem czXr (h : c ≠ t) (h1 : c ≠ r) (h2 : t ≠ r) : act (xq r) (gCZ c t f) = gCZ c t (act (xq r) f) := funext fun k => by
  simp only [act_x, gCZ, ctl, gZ, op1, tb_other k (Ne.symm h1), tb_other k (Ne.symm h2), xcm k (2 ^ r)]
theorem czZr (h : c ≠ t) (h1 : c ≠ r) (h2 : t ≠ r) : act (zq1 r) (gCZ c t f) = gCZ c t (act (zq1 r) f) := funext fun k => by
  simp only [act_z, gCZ, ctl, gZ, op1, tb_other k h1, tb_other k h2, ph4]
  have p2 := ph22
  cases Nat.testBit _ c <;> cases Nat.testBit _ t <;> cases Nat.testBit _ r <;> simp only [Bool.not_true, Bool.not_false, if_true, if_false, Bool.false_eq_true] <;> grind
end
/-! ### sums -/
def sumN : Nat → (Nat → Q8) → Q8
  | 0, _ => 0
  | n + 1, F => sumN n F + F n
theorem sumN_congr {F G : Nat → Q8} : ∀ n : Nat, (∀ k, k < n → F k = G k) → sumN n F = sumN n G
  | 0, _ => rfl
  | n + 1, h => by
    show sumN n F + F n = sumN n G + G n
    rw [sumN_congr n fun k hk => h k (by omega), h n (by omega)]
theorem sumN_add (F G : Nat → Q8) : ∀ n : Nat, sumN n (fun k => F k + G k) = sumN n F + sumN n G
  | 0 => (add_zero 0).symm
  | n + 1 => by
    show sumN n _ + (F n + G n) = (sumN n F + F n) + (sumN n G + G n)
    rw [sumN_add F G n]
    grind
theorem sumN_mul (c : Q8) (F : Nat → Q8) : ∀ n : Nat, sumN n (fun k => c * F k) = c * sumN n F
  | 0 => (mul_zero c).symm
  | n + 1 => by
    show sumN n _ + c * F n = c * (sumN n F + F n)
    rw [sumN_mul c F n]
    grind
theorem sumN_split (F : Nat → Q8) (a : Nat) : ∀ b : Nat, sumN (a + b) F = sumN a F + sumN b fun k => F (a + k)
  | 0 => (add_zero _).symm
  | b + 1 => by
    show sumN (a + b) F + F (a + b) = sumN a F + (sumN b (fun k => F (a + k)) + F (a + b))
    rw [sumN_split F a b]
    grind
theorem add_xor {n a : Nat} (h : a < 2 ^ n) : 2 ^ n + a = 2 ^ n ^^^ a := by
  have e := Nat.two_pow_add_eq_or_of_lt h 1
  rw [Nat.mul_one] at e
  rw [e]
  have o := or_xor_and (2 ^ n) a
  have z : 2 ^ n &&& a = 0 := Nat.eq_of_testBit_eq fun j => by
    rw [Nat.testBit_and, Nat.testBit_two_pow, Nat.zero_testBit]
    by_cases q : n = j
    · subst q
      rw [Nat.testBit_lt_two_pow h, Bool.and_false]
    · rw [decide_eq_false q, Bool.false_and]
  rw [z] at o
  exact o
theorem xor_lt {n a b : Nat} (ha : a < 2 ^ n) (hb : b < 2 ^ n) : a ^^^ b < 2 ^ n := Nat.xor_lt_two_pow ha hb
theorem sumN_xor (F : Nat → Q8) : ∀ (n x : Nat), x < 2 ^ n → sumN (2 ^ n) (fun k => F (k ^^^ x)) = sumN (2 ^ n) F := fun n => by
  induction n generalizing F with
  | zero =>
    intro x hx
    have : x = 0 := by simp only [Nat.pow_zero] at hx; omega
    subst this
    rfl
  | succ n ih =>
    intro x hx
    have e : 2 ^ (n + 1) = 2 ^ n + 2 ^ n := by rw [Nat.pow_succ]; omega
    rw [e, sumN_split, sumN_split F]
    by_cases c : x < 2 ^ n
    · have e1 := ih F x c
      have e2 := ih (fun k => F (2 ^ n + k)) x c
      rw [e1]
      have e3 : sumN (2 ^ n) (fun k => F ((2 ^ n + k) ^^^ x)) = sumN (2 ^ n) (fun k => F (2 ^ n + (k ^^^ x))) := sumN_congr _ fun k hk => by
        rw [add_xor hk, add_xor (xor_lt hk c), Nat.xor_assoc]
      rw [e3, e2]
    · obtain ⟨y, rfl⟩ : ∃ y, x = 2 ^ n + y := ⟨x - 2 ^ n, by omega⟩
      have hy : y < 2 ^ n := by rw [e] at hx; omega
      have e1 := ih F y hy
      have e2 := ih (fun k => F (2 ^ n + k)) y hy
      have e3 : sumN (2 ^ n) (fun k => F (k ^^^ (2 ^ n + y))) = sumN (2 ^ n) (fun k => F (2 ^ n + (k ^^^ y))) := sumN_congr _ fun k hk => by
        rw [add_xor hy, add_xor (xor_lt hk hy), ← Nat.xor_assoc, Nat.xor_comm k, Nat.xor_assoc]
      have e4 : sumN (2 ^ n) (fun k => F ((2 ^ n + k) ^^^ (2 ^ n + y))) = sumN (2 ^ n) (fun k => F (k ^^^ y)) := sumN_congr _ fun k hk => by
        rw [add_xor hy, add_xor hk]
        congr 1
        rw [Nat.xor_comm (2 ^ n) k, Nat.xor_assoc, ← Nat.xor_assoc (2 ^ n) (2 ^ n), Nat.xor_self, Nat.zero_xor]
      rw [e3, e4, e1, e2, add_comm]
theorem halve {u v : Q8} (e : u + u = v + v) : u = v := by
  have two := hf2
  have e1 : ∀ z : Q8, z = hf * (z + z) := fun z => by grind
  rw [e1 u, e, ← e1 v]
theorem sumN_pair {n q : Nat} (hq : q < n) {T F : Nat → Q8} (e : ∀ k, T k + T (k ^^^ 2 ^ q) = F k + F (k ^^^ 2 ^ q)) : sumN (2 ^ n) T = sumN (2 ^ n) F := by
  have hx : 2 ^ q < 2 ^ n := Nat.pow_lt_pow_right (by decide) hq
  have t1 := sumN_xor T n (2 ^ q) hx
  have t2 := sumN_xor F n (2 ^ q) hx
  have t3 := sumN_add T (fun k => T (k ^^^ 2 ^ q)) (2 ^ n)
  have t4 := sumN_add F (fun k => F (k ^^^ 2 ^ q)) (2 ^ n)
  have t5 : sumN (2 ^ n) (fun k => T k + T (k ^^^ 2 ^ q)) = sumN (2 ^ n) (fun k => F k + F (k ^^^ 2 ^ q)) := sumN_congr _ fun k _ => e k
  rw [t1] at t3
  rw [t2] at t4
  rw [t3, t4] at t5
  clear t1 t2 t3 t4 e
  exact halve t5
def ip (n : Nat) (f g : Vc) : Q8 := sumN (2 ^ n) fun k => f k * cj (g k)
structure Iso (n : Nat) (U : Vc → Vc) : Prop where
  hom : ∀ c f, U (sc c f) = sc c (U f)
  iso : ∀ f g, ip n (U f) (U g) = ip n f g
theorem Iso.id (n : Nat) : Iso n fun f => f := ⟨fun _ _ => rfl, fun _ _ => rfl⟩
theorem Iso.comp {n : Nat} {U W : Vc → Vc} (u : Iso n U) (w : Iso n W) : Iso n fun f => W (U f) := ⟨fun c f => by rw [u.hom, w.hom], fun f g => by rw [w.iso, u.iso]⟩
theorem op1_iso {n q : Nat} (hq : q < n) {a b c d : Q8} (h1 : a * cj a + c * cj c = 1) (h2 : b * cj b + d * cj d = 1) (h3 : a * cj b + c * cj d = 0) (h4 : b * cj a + d * cj c = 0) : Iso n (op1 a b c d q) :=
  ⟨fun s f => op1_hom a b c d q s f, fun f g => sumN_pair hq fun k => by
    simp only [op1, tb_same, xx]
    cases k.testBit q <;> simp only [Bool.not_true, Bool.not_false, if_true, if_false, Bool.false_eq_true, cj_add, cj_mul] <;> grind⟩
theorem cj_m1 : cj (-1) = -1 := by rw [cj_neg, cj_one]
theorem gH_iso {n q : Nat} (hq : q < n) : Iso n (gH q) := by
  have := hh
  refine op1_iso hq ?_ ?_ ?_ ?_ <;> simp only [cj_neg, cj_h] <;> grind
theorem gS_iso {n q : Nat} (hq : q < n) : Iso n (gS q) := by
  have := ph22
  refine op1_iso hq ?_ ?_ ?_ ?_ <;> simp only [cj_one, cj_zero, cj_ph2] <;> grind
theorem gSI_iso {n q : Nat} (hq : q < n) : Iso n (gSI q) := by
  have := ph22
  refine op1_iso hq ?_ ?_ ?_ ?_ <;> simp only [ph6, cj_neg, cj_one, cj_zero, cj_ph2] <;> grind
theorem gX_iso {n q : Nat} (hq : q < n) : Iso n (gX q) := by
  refine op1_iso hq ?_ ?_ ?_ ?_ <;> simp only [cj_one, cj_zero] <;> grind
theorem gY_iso {n q : Nat} (hq : q < n) : Iso n (gY q) := by
  have := ph22
  refine op1_iso hq ?_ ?_ ?_ ?_ <;> simp only [ph6, cj_neg, cj_one, cj_zero, cj_ph2] <;> grind
theorem gZ_iso {n q : Nat} (hq : q < n) : Iso n (gZ q) := by
  refine op1_iso hq ?_ ?_ ?_ ?_ <;> simp only [ph4, cj_neg, cj_one, cj_zero] <;> grind
theorem ctl_iso {n c t : Nat} (h : c ≠ t) (ht : t < n) {a b d e : Q8} (h1 : a * cj a + d * cj d = 1) (h2 : b * cj b + e * cj e = 1) (h3 : a * cj b + d * cj e = 0) (h4 : b * cj a + e * cj d = 0) :
    Iso n fun f => ctl c (op1 a b d e t f) f :=
  ⟨fun s f => funext fun k => by
    show (if k.testBit c then op1 a b d e t (sc s f) k else s * f k) = s * (if k.testBit c then op1 a b d e t f k else f k)
    rw [op1_hom]
    split <;> rfl, fun f g => sumN_pair ht fun k => by
    simp only [ctl, op1, tb_same, tb_other k (Ne.symm h), xx]
    cases k.testBit c <;> cases k.testBit t <;> simp only [Bool.not_true, Bool.not_false, if_true, if_false, Bool.false_eq_true, cj_add, cj_mul] <;> grind⟩
theorem gCX_iso {n c t : Nat} (h : c ≠ t) (ht : t < n) : Iso n (gCX c t) := by
  refine ctl_iso h ht ?_ ?_ ?_ ?_ <;> simp only [cj_one, cj_zero] <;> grind
theorem gCZ_iso {n c t : Nat} (h : c ≠ t) (ht : t < n) : Iso n (gCZ c t) := by
  refine ctl_iso h ht ?_ ?_ ?_ ?_ <;> simp only [ph4, cj_neg, cj_one, cj_zero] <;> grind
theorem act_iso {n : Nat} {p : Pa} (hx : p.x < 2 ^ n) : Iso n (act p) := ⟨fun c f => sc_act c p f, fun f g => by
  unfold ip
  rw [← sumN_xor (fun k => f k * cj (g k)) n p.x hx]
  refine sumN_congr _ fun k _ => ?_
  show (ph _ * f _) * cj (ph _ * g _) = f _ * cj (g _)
  rw [cj_mul]
  have e := ph_cj (2 * pc (p.x &&& p.z) + 4 * p.s + 4 * (pc ((k ^^^ p.x) &&& p.z) % 2))
  grind⟩
theorem act_herm {n : Nat} {p : Pa} (hx : p.x < 2 ^ n) (f g : Vc) : ip n (act p f) g = ip n f (act p g) := by
  rw [← (act_iso hx).iso f (act p g), act_self]
theorem ip_cj (n : Nat) (f g : Vc) : cj (ip n f g) = ip n g f := by
  unfold ip
  generalize 2 ^ n = m
  induction m with
  | zero => exact cj_zero
  | succ m ih =>
    show cj (sumN m _ + _) = sumN m _ + _
    rw [cj_add, ih, cj_mul, cj_cj]
    grind
end VL.N

set_option Elab.async false
set_option linter.all false
set_option maxRecDepth 100000
set_option maxHeartbeats 1000000
/-! VN5: means, turns, frames -/
namespace VL.N
open VL VL.P Q8
/-! ### means -/
def prj (p : Pa) (b : Nat) (f : Vc) : Vc := fun k => hf * (f k + ph (4 * b) * act p f k)
def nrm (n : Nat) (f : Vc) : Q8 := ip n f f
def ev (n : Nat) (f : Vc) (p : Pa) : Q8 := nrm n (prj p 0 f) - nrm n (prj p 1 f)
theorem sumN_sub (F G : Nat → Q8) : ∀ n : Nat, sumN n (fun k => F k - G k) = sumN n F - sumN n G
  | 0 => by show (0 : Q8) = 0 - 0; grind
  | n + 1 => by
    show sumN n _ + (F n - G n) = (sumN n F + F n) - (sumN n G + G n)
    rw [sumN_sub F G n]
    grind
theorem ev_eq (n : Nat) (f : Vc) (p : Pa) : ev n f p = hf * (ip n f (act p f) + ip n (act p f) f) := by
  unfold ev nrm ip
  rw [← sumN_sub, ← sumN_add, ← sumN_mul]
  refine sumN_congr _ fun k _ => ?_
  unfold prj
  have e0 : ph (4 * 0) = 1 := rfl
  have e1 : ph (4 * 1) = -1 := ph4
  rw [e0, e1]
  simp only [cj_add, cj_mul, cj_hf, cj_one, cj_neg]
  have := hf2
  generalize f k = u
  generalize act p f k = v
  generalize cj u = u'
  generalize cj v = v'
  grind
theorem ev_iso {n : Nat} {U : Vc → Vc} (u : Iso n U) {P p : Pa} {f : Vc} (h : act P (U f) = U (act p f)) : ev n (U f) P = ev n f p := by
  rw [ev_eq, ev_eq, h, u.iso, u.iso]
/-! ### turns -/
def tnv (p : Pa) (f : Vc) : Vc := fun k => prj p 0 f k + ph 2 * prj p 1 f k
theorem tnv_eq (p : Pa) (f : Vc) (k : Nat) : tnv p f k = hf * ((1 + ph 2) * f k + (1 - ph 2) * act p f k) := by
  unfold tnv prj
  have e0 : ph (4 * 0) = 1 := rfl
  have e1 : ph (4 * 1) = -1 := ph4
  rw [e0, e1]
  grind
theorem tnv_hom (p : Pa) (c : Q8) (f : Vc) : tnv p (sc c f) = sc c (tnv p f) := funext fun k => by
  show tnv p (sc c f) k = c * tnv p f k
  rw [tnv_eq, tnv_eq, sc_act]
  show hf * ((1 + ph 2) * (c * f k) + (1 - ph 2) * (c * act p f k)) = _
  grind
theorem ip_tnv {n : Nat} {p : Pa} (hx : p.x < 2 ^ n) (f g : Vc) : ip n (tnv p f) (tnv p g) = ip n f g := by
  have h1 := (act_iso hx).iso f g
  have h2 := act_herm hx f g
  have e : ip n (tnv p f) (tnv p g) = hf * (ip n f g) + hf * (ip n (act p f) (act p g)) + hf * ph 2 * (ip n f (act p g)) - hf * ph 2 * (ip n (act p f) g) := by
    unfold ip
    rw [← sumN_mul, ← sumN_mul, ← sumN_mul, ← sumN_mul, ← sumN_add, ← sumN_add, ← sumN_sub]
    refine sumN_congr _ fun k _ => ?_
    rw [tnv_eq, tnv_eq]
    simp only [cj_add, cj_mul, cj_hf, cj_one, cj_sub, cj_ph2]
    have a1 := hf2
    have a2 := ph22
    generalize f k = u
    generalize act p f k = v
    generalize cj (g k) = u'
    generalize cj (act p g k) = v'
    generalize ph 2 = i at *
    have a3 : hf * hf * 2 = hf := by grind
    have q1 : (1 + i) * (1 + -i) = 2 := by grind
    have q2 : (1 - i) * (1 - -i) = 2 := by grind
    have q3 : (1 + i) * (1 - -i) = 2 * i := by grind
    have q4 : (1 - i) * (1 + -i) = -(2 * i) := by grind
    grind
  rw [e, h1, h2]
  have := hf2
  grind
theorem tnv_iso {n : Nat} {p : Pa} (hx : p.x < 2 ^ n) : Iso n (tnv p) := ⟨fun c f => tnv_hom p c f, fun f g => ip_tnv hx f g⟩
theorem sc_one (f : Vc) : sc 1 f = f := funext fun k => one_mul _
/-- what a turn makes of a Pauli -/
def tnp (p f : Pa) : Pa := if cmt f p = true then f else prd f p
theorem act_lin (p : Pa) (a b : Q8) (f g : Vc) : act p (fun k => a * f k + b * g k) = fun k => a * act p f k + b * act p g k := funext fun k => by
  show ph _ * (a * f _ + b * g _) = a * (ph _ * f _) + b * (ph _ * g _)
  grind
theorem tnv_lin (p : Pa) (f : Vc) : tnv p f = fun k => (hf * (1 + ph 2)) * f k + (hf * (1 - ph 2)) * act p f k := funext fun k => by
  rw [tnv_eq]
  grind
theorem act_tnv (q p : Pa) (f : Vc) : act q (tnv p f) = tnv p (act (tnp p q) f) := by
  rw [tnv_lin, act_lin, tnv_lin]
  funext k
  unfold tnp
  by_cases c : cmt q p = true
  · rw [if_pos c, cmt_sw q p f, if_pos c, ph_zero, sc_one]
  · rw [if_neg c]
    have c' : cmt q p = false := by simpa using c
    have e1 : act (prd q p) f = sc (ph 6) (act q (act p f)) := by
      rw [prd_anti c', sc_sc, ← ph_add, show ph (6 + 2) = 1 from ph_eight, sc_one]
    have e2 : act p (act (prd q p) f) = sc (ph 2) (act q f) := by
      rw [e1, sc_act, cmt_sw p q (act p f), act_self, sc_sc, ← ph_add]
      have c2 : cmt p q = false := by
        cases z : cmt p q with
        | false => rfl
        | true =>
          exfalso
          unfold cmt at z c'
          rw [beq_iff_eq] at z
          rw [beq_eq_false_iff_ne] at c'
          apply c'
          rw [Nat.and_comm q.x p.z, Nat.and_comm q.z p.x, z]
      rw [c2]
      congr 1
      exact ph_congr (by decide)
    rw [e2, e1]
    show (hf * (1 + ph 2)) * act q f k + (hf * (1 - ph 2)) * act q (act p f) k = (hf * (1 + ph 2)) * (ph 6 * act q (act p f) k) + (hf * (1 - ph 2)) * (ph 2 * act q f k)
    rw [ph6]
    have := ph22
    grind
/-! ### a Pauli with its sign turned -/
def twp (p : Pa) (b : Nat) : Pa := ⟨p.x, p.z, p.s ^^^ b⟩
theorem act_tw {p : Pa} (h : p.s < 2) (f : Vc) : act (twp p 1) f = sc (ph 4) (act p f) := by
  obtain ⟨x, z, s⟩ := p
  show act ⟨x, z, s ^^^ 1⟩ f = _
  rw [act_one x z (s ^^^ 1), act_one x z s, sc_sc, ← ph_add]
  have h : s < 2 := h
  have c : s = 0 ∨ s = 1 := by omega
  rcases c with rfl | rfl
  · rfl
  · congr 1
    exact ph_congr (by decide)
theorem tw_zero (p : Pa) : twp p 0 = p := by unfold twp; rw [Nat.xor_zero]
/-! ### the frame -/
def ups1 (X : Nat → Pa) (q : Nat) (p : Pa) : Nat → Pa := fun r => if r = q then p else X r
theorem ups1_same (X : Nat → Pa) (q : Nat) (p : Pa) : ups1 X q p q = p := if_pos rfl
theorem ups1_ne (X : Nat → Pa) {q r : Nat} (p : Pa) (h : r ≠ q) : ups1 X q p r = X r := if_neg h
structure PB (n : Nat) (p : Pa) : Prop where
  x : p.x < 2 ^ n
  z : p.z < 2 ^ n
  s : p.s < 2
theorem PB.prd {n : Nat} {p q : Pa} (a : PB n p) (b : PB n q) : PB n (prd p q) := ⟨xor_lt a.x b.x, xor_lt a.z b.z, prd_s p q⟩
theorem PB.tw {n : Nat} {p : Pa} (a : PB n p) {b : Nat} (hb : b < 2) : PB n (twp p b) := ⟨a.x, a.z, by
  have := a.s
  show p.s ^^^ b < 2
  exact Nat.xor_lt_two_pow (n := 1) this hb⟩
structure FI (n : Nat) (U : Vc → Vc) (X Z : Nat → Pa) : Prop where
  iso : Iso n U
  xb : ∀ q, q < n → PB n (X q)
  zb : ∀ q, q < n → PB n (Z q)
  hx : ∀ q, q < n → ∀ f, act (xq q) (U f) = U (act (X q) f)
  hz : ∀ q, q < n → ∀ f, act (zq1 q) (U f) = U (act (Z q) f)
theorem FI.start (n : Nat) : FI n (fun f => f) xq zq1 := ⟨Iso.id n, fun q hq => ⟨Nat.pow_lt_pow_right (by decide) hq, Nat.two_pow_pos n, by show 0 < 2; decide⟩, fun q hq => ⟨Nat.two_pow_pos n, Nat.pow_lt_pow_right (by decide) hq, by show 0 < 2; decide⟩, fun _ _ _ => rfl, fun _ _ _ => rfl⟩
def dl : Vc := fun k => if k = 0 then 1 else 0
theorem sum_dl : ∀ m : Nat, sumN (m + 1) (fun k => dl k * cj (dl k)) = 1
  | 0 => by
    show (0 : Q8) + dl 0 * cj (dl 0) = 1
    rw [show dl 0 = 1 from if_pos rfl, cj_one]
    grind
  | m + 1 => by
    show sumN (m + 1) _ + dl (m + 1) * cj (dl (m + 1)) = 1
    rw [sum_dl m, show dl (m + 1) = 0 from if_neg (by omega), zero_mul, add_zero]
theorem ip_dl (n : Nat) : ip n dl dl = 1 := by
  unfold ip
  obtain ⟨m, hm⟩ : ∃ m, 2 ^ n = m + 1 := ⟨2 ^ n - 1, by have := Nat.two_pow_pos n; omega⟩
  rw [hm]
  exact sum_dl m
theorem one_ne : (1 : Q8) ≠ 0 := fun e => by
  have := congrArg Q8.a e
  rw [o_a, z_a] at this
  exact absurd this (by decide)
theorem not_zero {n : Nat} {U : Vc → Vc} (u : Iso n U) (h : ∀ f, U f = sc (-1) (U f)) : False := by
  have e := u.iso dl dl
  rw [ip_dl] at e
  have z : ∀ k, U dl k = 0 := fun k => by
    have := congrFun (h dl) k
    have q : U dl k = -1 * U dl k := this
    refine halve ?_
    grind
  have s : ip n (U dl) (U dl) = 0 := by
    unfold ip
    generalize 2 ^ n = m
    induction m with
    | zero => rfl
    | succ m ih =>
      show sumN m _ + U dl m * cj (U dl m) = (0 : Q8)
      rw [ih, z m, zero_mul, add_zero]
  exact one_ne (e.symm.trans s)
theorem cmt_of {n : Nat} {U : Vc → Vc} (u : Iso n U) {P Q p q : Pa} (hP : ∀ f, act P (U f) = U (act p f)) (hQ : ∀ f, act Q (U f) = U (act q f)) : cmt p q = cmt P Q := by
  have k : ∀ f, sc (ph (if cmt P Q = true then 0 else 4)) (U (act q (act p f))) = sc (ph (if cmt p q = true then 0 else 4)) (U (act q (act p f))) := fun f => by
    have h1 : act P (act Q (U f)) = U (act p (act q f)) := by rw [hQ, hP]
    have h2 : act Q (act P (U f)) = U (act q (act p f)) := by rw [hP, hQ]
    have h3 := cmt_sw P Q (U f)
    rw [h1, h2, cmt_sw p q f, u.hom] at h3
    exact h3.symm
  have all : ∀ g, sc (ph (if cmt P Q = true then 0 else 4)) (U g) = sc (ph (if cmt p q = true then 0 else 4)) (U g) := fun g => by
    have := k (act p (act q g))
    rwa [act_self, act_self] at this
  cases a : cmt P Q <;> cases b : cmt p q
  · rfl
  · exfalso
    rw [a, b] at all
    refine not_zero u fun f => ?_
    have := all f
    simp only [Bool.false_eq_true, if_false, if_true, ph4, ph_zero, sc_one] at this
    exact this.symm
  · exfalso
    rw [a, b] at all
    refine not_zero u fun f => ?_
    have := all f
    simp only [Bool.false_eq_true, if_false, if_true, ph4, ph_zero, sc_one] at this
    exact this
  · rfl
end VL.N

set_option Elab.async false
set_option linter.all false
set_option maxRecDepth 100000
set_option maxHeartbeats 1000000
/-! VN6: a frame's changes; images -/
namespace VL.N
open VL VL.P Q8
theorem cmt_sym (p q : Pa) : cmt p q = cmt q p := by
  unfold cmt
  rw [Nat.and_comm q.x p.z, Nat.and_comm q.z p.x]
  cases a : (pc (p.x &&& q.z) % 2 == pc (p.z &&& q.x) % 2) <;> cases b : (pc (p.z &&& q.x) % 2 == pc (p.x &&& q.z) % 2) <;> simp_all
theorem cmt_xx (q r : Nat) : cmt (xq q) (xq r) = true := by
  unfold cmt xq
  rw [Nat.and_zero, Nat.zero_and]
  rfl
theorem cmt_zz (q r : Nat) : cmt (zq1 q) (zq1 r) = true := by
  unfold cmt zq1
  rw [Nat.and_zero, Nat.zero_and]
  rfl
theorem cmt_xz {q r : Nat} (h : q ≠ r) : cmt (xq q) (zq1 r) = true := by
  unfold cmt xq zq1
  show (pc (2 ^ q &&& 2 ^ r) % 2 == pc (0 &&& 0) % 2) = true
  rw [pc_one, Nat.testBit_two_pow, decide_eq_false (Ne.symm h)]
  rfl
theorem cmt_xzs (q : Nat) : cmt (xq q) (zq1 q) = false := by
  unfold cmt xq zq1
  show (pc (2 ^ q &&& 2 ^ q) % 2 == pc (0 &&& 0) % 2) = false
  rw [pc_one, Nat.testBit_two_pow, decide_eq_true rfl]
  rfl
section
variable {n : Nat} {U : Vc → Vc} {X Z : Nat → Pa}
theorem FI.cxz (F : FI n U X Z) {q r : Nat} (hq : q < n) (hr : r < n) : cmt (X q) (Z r) = cmt (xq q) (zq1 r) := cmt_of F.iso (F.hx q hq) (F.hz r hr)
theorem FI.cxx (F : FI n U X Z) {q r : Nat} (hq : q < n) (hr : r < n) : cmt (X q) (X r) = true := (cmt_of F.iso (F.hx q hq) (F.hx r hr)).trans (cmt_xx q r)
theorem FI.czz (F : FI n U X Z) {q r : Nat} (hq : q < n) (hr : r < n) : cmt (Z q) (Z r) = true := (cmt_of F.iso (F.hz q hq) (F.hz r hr)).trans (cmt_zz q r)
theorem FI.anti (F : FI n U X Z) {q : Nat} (hq : q < n) : cmt (X q) (Z q) = false := (F.cxz hq hq).trans (cmt_xzs q)
/-- a gate on one qubit behind the frame -/
theorem FI.one (F : FI n U X Z) {q : Nat} (hq : q < n) {a b c d : Q8} (g : Iso n (op1 a b c d q)) {px pz : Pa} (bx : PB n px) (bz : PB n pz)
    (hx : ∀ f, act (xq q) (op1 a b c d q (U f)) = op1 a b c d q (U (act px f))) (hz : ∀ f, act (zq1 q) (op1 a b c d q (U f)) = op1 a b c d q (U (act pz f))) :
    FI n (fun f => op1 a b c d q (U f)) (ups1 X q px) (ups1 Z q pz) where
  iso := F.iso.comp g
  xb := fun r hr => by
    by_cases e : r = q
    · rw [e, ups1_same]; exact bx
    · rw [ups1_ne _ _ e]; exact F.xb r hr
  zb := fun r hr => by
    by_cases e : r = q
    · rw [e, ups1_same]; exact bz
    · rw [ups1_ne _ _ e]; exact F.zb r hr
  hx := fun r hr f => by
    by_cases e : r = q
    · subst e
      rw [ups1_same]; exact hx f
    · rw [ups1_ne _ _ e, op1_x (Ne.symm e), F.hx r hr]
  hz := fun r hr f => by
    by_cases e : r = q
    · subst e
      rw [ups1_same]; exact hz f
    · rw [ups1_ne _ _ e, op1_z (Ne.symm e), F.hz r hr]
theorem FI.H (F : FI n U X Z) {q : Nat} (hq : q < n) : FI n (fun f => gH q (U f)) (ups1 X q (Z q)) (ups1 Z q (X q)) :=
  F.one hq (gH_iso hq) (F.zb q hq) (F.xb q hq) (fun f => by show act (xq q) (gH q (U f)) = gH q _; rw [hX, F.hz q hq]) (fun f => by show act (zq1 q) (gH q (U f)) = gH q _; rw [hZ, F.hx q hq])
theorem sc8 {a b : Nat} (h : (a + b) % 8 = 0) (f : Vc) : sc (ph a) (sc (ph b) f) = f := by
  rw [sc_sc, ← ph_add, ph_congr (m := 0) h, ph_zero, sc_one]
theorem FI.S (F : FI n U X Z) {q : Nat} (hq : q < n) : FI n (fun f => gS q (U f)) (ups1 X q (prd (X q) (Z q))) (ups1 Z q (Z q)) :=
  F.one hq (gS_iso hq) ((F.xb q hq).prd (F.zb q hq)) (F.zb q hq) (fun f => by
    show act (xq q) (gS q (U f)) = gS q _
    rw [sX, F.hz q hq, F.hx q hq, prd_anti (F.anti hq), F.iso.hom, (gS_iso hq).hom, sc8 (by decide)]) (fun f => by show act (zq1 q) (gS q (U f)) = gS q _; rw [sZ, F.hz q hq])
theorem FI.SI (F : FI n U X Z) {q : Nat} (hq : q < n) : FI n (fun f => gSI q (U f)) (ups1 X q (prd (Z q) (X q))) (ups1 Z q (Z q)) :=
  F.one hq (gSI_iso hq) ((F.zb q hq).prd (F.xb q hq)) (F.zb q hq) (fun f => by
    show act (xq q) (gSI q (U f)) = gSI q _
    have a : cmt (X q) (Z q) = false := F.anti hq
    rw [siX, F.hz q hq, F.hx q hq, cmt_sw (X q) (Z q), prd_anti ((cmt_sym _ _).trans a), a, sc_sc, ← ph_add, F.iso.hom, (gSI_iso hq).hom]
    exact sc8 (by decide) _) (fun f => by show act (zq1 q) (gSI q (U f)) = gSI q _; rw [siZ, F.hz q hq])
theorem FI.X' (F : FI n U X Z) {q : Nat} (hq : q < n) : FI n (fun f => gX q (U f)) (ups1 X q (X q)) (ups1 Z q (twp (Z q) 1)) :=
  F.one hq (gX_iso hq) (F.xb q hq) ((F.zb q hq).tw (by decide)) (fun f => by show act (xq q) (gX q (U f)) = gX q _; rw [xX, F.hx q hq]) (fun f => by
    show act (zq1 q) (gX q (U f)) = gX q _; rw [xZ, F.hz q hq, act_tw (F.zb q hq).s, F.iso.hom, (gX_iso hq).hom])
theorem FI.Y (F : FI n U X Z) {q : Nat} (hq : q < n) : FI n (fun f => gY q (U f)) (ups1 X q (twp (X q) 1)) (ups1 Z q (twp (Z q) 1)) :=
  F.one hq (gY_iso hq) ((F.xb q hq).tw (by decide)) ((F.zb q hq).tw (by decide)) (fun f => by
    show act (xq q) (gY q (U f)) = gY q _; rw [yX, F.hx q hq, act_tw (F.xb q hq).s, F.iso.hom, (gY_iso hq).hom]) (fun f => by
    show act (zq1 q) (gY q (U f)) = gY q _; rw [yZ, F.hz q hq, act_tw (F.zb q hq).s, F.iso.hom, (gY_iso hq).hom])
theorem FI.Z' (F : FI n U X Z) {q : Nat} (hq : q < n) : FI n (fun f => gZ q (U f)) (ups1 X q (twp (X q) 1)) (ups1 Z q (Z q)) :=
  F.one hq (gZ_iso hq) ((F.xb q hq).tw (by decide)) (F.zb q hq) (fun f => by
    show act (xq q) (gZ q (U f)) = gZ q _; rw [zX, F.hx q hq, act_tw (F.xb q hq).s, F.iso.hom, (gZ_iso hq).hom]) (fun f => by show act (zq1 q) (gZ q (U f)) = gZ q _; rw [zZ, F.hz q hq])
/-- a gate on two qubits behind the frame -/
theorem FI.two (F : FI n U X Z) {c t : Nat} (hc : c < n) (ht : t < n) (ne : c ≠ t) {G : Vc → Vc} (g : Iso n G) {xc zc xt zt : Pa} (b1 : PB n xc) (b2 : PB n zc) (b3 : PB n xt) (b4 : PB n zt)
    (h1 : ∀ f, act (xq c) (G (U f)) = G (U (act xc f))) (h2 : ∀ f, act (zq1 c) (G (U f)) = G (U (act zc f))) (h3 : ∀ f, act (xq t) (G (U f)) = G (U (act xt f))) (h4 : ∀ f, act (zq1 t) (G (U f)) = G (U (act zt f)))
    (h5 : ∀ r, c ≠ r → t ≠ r → ∀ f, act (xq r) (G f) = G (act (xq r) f)) (h6 : ∀ r, c ≠ r → t ≠ r → ∀ f, act (zq1 r) (G f) = G (act (zq1 r) f)) :
    FI n (fun f => G (U f)) (ups1 (ups1 X c xc) t xt) (ups1 (ups1 Z c zc) t zt) where
  iso := F.iso.comp g
  xb := fun r hr => by
    by_cases e : r = t
    · rw [e, ups1_same]; exact b3
    · rw [ups1_ne _ _ e]
      by_cases e2 : r = c
      · rw [e2, ups1_same]; exact b1
      · rw [ups1_ne _ _ e2]; exact F.xb r hr
  zb := fun r hr => by
    by_cases e : r = t
    · rw [e, ups1_same]; exact b4
    · rw [ups1_ne _ _ e]
      by_cases e2 : r = c
      · rw [e2, ups1_same]; exact b2
      · rw [ups1_ne _ _ e2]; exact F.zb r hr
  hx := fun r hr f => by
    by_cases e : r = t
    · subst e; rw [ups1_same]; exact h3 f
    · rw [ups1_ne _ _ e]
      by_cases e2 : r = c
      · subst e2; rw [ups1_same]; exact h1 f
      · rw [ups1_ne _ _ e2, h5 r (Ne.symm e2) (Ne.symm e), F.hx r hr]
  hz := fun r hr f => by
    by_cases e : r = t
    · subst e; rw [ups1_same]; exact h4 f
    · rw [ups1_ne _ _ e]
      by_cases e2 : r = c
      · subst e2; rw [ups1_same]; exact h2 f
      · rw [ups1_ne _ _ e2, h6 r (Ne.symm e2) (Ne.symm e), F.hz r hr]
theorem FI.CX (F : FI n U X Z) {c t : Nat} (hc : c < n) (ht : t < n) (ne : c ≠ t) : FI n (fun f => gCX c t (U f)) (ups1 (ups1 X c (prd (X c) (X t))) t (X t)) (ups1 (ups1 Z c (Z c)) t (prd (Z c) (Z t))) :=
  F.two hc ht ne (gCX_iso ne ht) ((F.xb c hc).prd (F.xb t ht)) (F.zb c hc) (F.xb t ht) ((F.zb c hc).prd (F.zb t ht))
    (fun f => by rw [cxXc ne, F.hx t ht, F.hx c hc, prd_cmt (F.cxx hc ht)]) (fun f => by rw [cxZc ne, F.hz c hc]) (fun f => by rw [cxXt ne, F.hx t ht])
    (fun f => by rw [cxZt ne, F.hz t ht, F.hz c hc, prd_cmt (F.czz hc ht)]) (fun r h1 h2 f => cxXr ne h1 h2) (fun r h1 h2 f => cxZr ne h1 h2)
theorem FI.CZ (F : FI n U X Z) {c t : Nat} (hc : c < n) (ht : t < n) (ne : c ≠ t) : FI n (fun f => gCZ c t (U f)) (ups1 (ups1 X c (prd (X c) (Z t))) t (prd (Z c) (X t))) (ups1 (ups1 Z c (Z c)) t (Z t)) :=
  F.two hc ht ne (gCZ_iso ne ht) ((F.xb c hc).prd (F.zb t ht)) (F.zb c hc) ((F.zb c hc).prd (F.xb t ht)) (F.zb t ht)
    (fun f => by rw [czXc ne, F.hz t ht, F.hx c hc, prd_cmt ((F.cxz hc ht).trans (cmt_xz ne))]) (fun f => by rw [czZc ne, F.hz c hc])
    (fun f => by rw [czXt ne, F.hx t ht, F.hz c hc, prd_cmt ((cmt_sym _ _).trans ((F.cxz ht hc).trans (cmt_xz (Ne.symm ne))))]) (fun f => by rw [czZt ne, F.hz t ht]) (fun r h1 h2 f => czXr ne h1 h2) (fun r h1 h2 f => czZr ne h1 h2)
/-- a turn ahead of all -/
theorem FI.turn (F : FI n U X Z) {p : Pa} (hp : PB n p) : FI n (fun f => U (tnv p f)) (fun q => tnp p (X q)) (fun q => tnp p (Z q)) where
  iso := (tnv_iso hp.x).comp F.iso
  xb := fun r hr => by
    unfold tnp
    split
    · exact F.xb r hr
    · exact (F.xb r hr).prd hp
  zb := fun r hr => by
    unfold tnp
    split
    · exact F.zb r hr
    · exact (F.zb r hr).prd hp
  hx := fun r hr f => by rw [F.hx r hr, act_tnv]
  hz := fun r hr f => by rw [F.hz r hr, act_tnv]
def flp (p f : Pa) : Pa := twp f (if cmt f p = true then 0 else 1)
theorem act_flp (q p : Pa) (h : q.s < 2) (f : Vc) : act q (act p f) = act p (act (flp p q) f) := by
  rw [cmt_sw]
  unfold flp
  by_cases c : cmt q p = true
  · rw [if_pos c, if_pos c, ph_zero, sc_one, tw_zero]
  · rw [if_neg c, if_neg c, act_tw h, sc_act]
theorem FI.flip (F : FI n U X Z) {p : Pa} (hp : PB n p) : FI n (fun f => U (act p f)) (fun q => flp p (X q)) (fun q => flp p (Z q)) where
  iso := (act_iso hp.x).comp F.iso
  xb := fun r hr => (F.xb r hr).tw (by split <;> decide)
  zb := fun r hr => (F.zb r hr).tw (by split <;> decide)
  hx := fun r hr f => by rw [F.hx r hr, act_flp _ _ (F.xb r hr).s]
  hz := fun r hr f => by rw [F.hz r hr, act_flp _ _ (F.zb r hr).s]
end
/-! ### images -/
/-- one part more: the masks, the turns -/
def mulI (r : (Nat × Nat) × Nat) (p : Pa) : (Nat × Nat) × Nat := ((r.1.1 ^^^ p.x, r.1.2 ^^^ p.z), r.2 + trN ⟨r.1.1, r.1.2, 0⟩ p)
def imQ (X Z : Nat → Pa) (x z q : Nat) (r : (Nat × Nat) × Nat) : (Nat × Nat) × Nat :=
  if x.testBit q then (if z.testBit q then mulI (mulI (r.1, r.2 + 1) (X q)) (Z q) else mulI r (X q)) else (if z.testBit q then mulI r (Z q) else r)
def imN (X Z : Nat → Pa) (x z : Nat) : Nat → (Nat × Nat) × Nat
  | 0 => ((0, 0), 0)
  | q + 1 => imQ X Z x z q (imN X Z x z q)
def wI (r : (Nat × Nat) × Nat) (f : Vc) : Vc := sc (ph (2 * r.2)) (act ⟨r.1.1, r.1.2, 0⟩ f)
theorem wI_mul (r : (Nat × Nat) × Nat) (p : Pa) (f : Vc) : wI r (act p f) = wI (mulI r p) f := by
  unfold wI mulI
  rw [act_act, sc_sc, ← ph_add]
  congr 2
  show 2 * r.2 + 2 * _ = 2 * (r.2 + _)
  omega
theorem wI_sc (r : (Nat × Nat) × Nat) (f : Vc) : wI r (sc (ph 2) f) = wI (r.1, r.2 + 1) f := by
  unfold wI
  rw [sc_act, sc_sc, ← ph_add]
  rfl
theorem mod_bit (x q : Nat) : x % 2 ^ (q + 1) = if x.testBit q then x % 2 ^ q + 2 ^ q else x % 2 ^ q := by
  have e := Nat.mod_pow_succ (x := x) (b := 2) (k := q)
  rw [e, Nat.testBit_eq_decide_div_mod_eq]
  have := Nat.mod_lt (x / 2 ^ q) (show 0 < 2 by decide)
  have c : x / 2 ^ q % 2 = 0 ∨ x / 2 ^ q % 2 = 1 := by omega
  rcases c with c | c <;> rw [c] <;> simp
theorem low_x {x z q : Nat} (hx : x < 2 ^ q) (hz : z < 2 ^ q) (f : Vc) : act ⟨x, z, 0⟩ (act (xq q) f) = act ⟨x + 2 ^ q, z, 0⟩ f := by
  rw [act_act]
  show sc (ph (2 * trN ⟨x, z, 0⟩ (xq q))) (act ⟨x ^^^ 2 ^ q, z ^^^ 0, 0⟩ f) = _
  rw [Nat.xor_zero, Nat.xor_comm, ← add_xor hx, Nat.add_comm]
  have t : trN ⟨x, z, 0⟩ (xq q) = 0 := by
    have ht := trN_cast ⟨x, z, 0⟩ (xq q)
    unfold trn xq at ht
    dsimp only at ht
    have e1 : pc (z &&& 2 ^ q) = 0 := by rw [Nat.and_comm, pc_one, Nat.testBit_lt_two_pow hz]; rfl
    have e2 : (x ^^^ 2 ^ q) &&& (z ^^^ 0) = x &&& z := by
      rw [Nat.xor_zero, xor_and]
      have : 2 ^ q &&& z = 0 := Nat.eq_of_testBit_eq fun j => by
        rw [Nat.testBit_and, Nat.testBit_two_pow, Nat.zero_testBit]
        by_cases e : q = j
        · subst e; rw [Nat.testBit_lt_two_pow hz, Bool.and_false]
        · rw [decide_eq_false e, Bool.false_and]
      rw [this, Nat.xor_zero]
    rw [e1, e2, Nat.and_zero, pc_zero] at ht
    show trN ⟨x, z, 0⟩ ⟨2 ^ q, 0, 0⟩ = 0
    omega
  rw [t]
  exact sc_one _
theorem low_z {x z q : Nat} (hx : x < 2 ^ (q + 1)) (hz : z < 2 ^ q) (f : Vc) : act ⟨x, z, 0⟩ (act (zq1 q) f) = sc (ph (if x.testBit q then 6 else 0)) (act ⟨x, z + 2 ^ q, 0⟩ f) := by
  rw [act_act]
  show sc (ph (2 * trN ⟨x, z, 0⟩ (zq1 q))) (act ⟨x ^^^ 0, z ^^^ 2 ^ q, 0⟩ f) = _
  rw [Nat.xor_zero, Nat.xor_comm z, ← add_xor hz, Nat.add_comm]
  congr 1
  refine ph_congr ?_
  have ht := trN_cast ⟨x, z, 0⟩ (zq1 q)
  unfold trn zq1 at ht
  dsimp only at ht
  have e2 : pc ((x ^^^ 0) &&& (z ^^^ 2 ^ q)) = pc (x &&& z) + (x.testBit q).toNat := by
    rw [Nat.xor_zero, Nat.and_comm x, xor_and]
    have p := pc_xor (z &&& x) (2 ^ q &&& x)
    rw [pc_one] at p
    have d : (z &&& x) &&& (2 ^ q &&& x) = 0 := Nat.eq_of_testBit_eq fun j => by
      rw [Nat.testBit_and, Nat.testBit_and, Nat.testBit_and, Nat.testBit_two_pow, Nat.zero_testBit]
      by_cases e : q = j
      · subst e; rw [Nat.testBit_lt_two_pow hz, Bool.false_and, Bool.false_and]
      · rw [decide_eq_false e, Bool.false_and, Bool.and_false]
    rw [d, pc_zero, Nat.and_comm z x] at p
    rw [Nat.and_comm z x]
    omega
  rw [e2, Nat.zero_and, Nat.and_zero, pc_zero] at ht
  show 2 * trN ⟨x, z, 0⟩ ⟨0, 2 ^ q, 0⟩ % 8 = _
  clear e2
  generalize x.testBit q = b at ht ⊢
  cases b <;> simp only [Bool.toNat_true, Bool.toNat_false, if_true, if_false, Bool.false_eq_true] at ht ⊢ <;> omega
theorem image_at {n : Nat} {U : Vc → Vc} {X Z : Nat → Pa} (F : FI n U X Z) (x z : Nat) : ∀ q, q ≤ n → ∀ f, act ⟨x % 2 ^ q, z % 2 ^ q, 0⟩ (U f) = U (wI (imN X Z x z q) f)
  | 0, _, f => by
    rw [Nat.pow_zero, Nat.mod_one, Nat.mod_one, act_id]
    unfold imN wI
    rw [act_id]
    exact congrArg U (sc_one f).symm
  | q + 1, hq, f => by
    have hq' : q < n := by omega
    have ih := image_at F x z q (by omega)
    have lx : x % 2 ^ q < 2 ^ q := Nat.mod_lt _ (Nat.two_pow_pos q)
    have lz : z % 2 ^ q < 2 ^ q := Nat.mod_lt _ (Nat.two_pow_pos q)
    have lx2 : x % 2 ^ q < 2 ^ (q + 1) := by rw [Nat.pow_succ]; omega
    have lx3 : x % 2 ^ q + 2 ^ q < 2 ^ (q + 1) := by rw [Nat.pow_succ]; omega
    have tl : (x % 2 ^ q).testBit q = false := Nat.testBit_lt_two_pow lx
    have th : (x % 2 ^ q + 2 ^ q).testBit q = true := by
      rw [Nat.add_comm, Nat.testBit_two_pow_add_eq, tl]
      rfl
    rw [mod_bit x q, mod_bit z q]
    show _ = U (wI (imQ X Z x z q (imN X Z x z q)) f)
    unfold imQ
    cases hx : x.testBit q <;> cases hz : z.testBit q <;> simp only [if_true, if_false, Bool.false_eq_true]
    · exact ih f
    · have e := low_z lx2 lz (U f)
      rw [tl, if_neg (by decide), ph_zero, sc_one] at e
      rw [← e, F.hz q hq', ih, wI_mul]
    · rw [← low_x lx lz, F.hx q hq', ih, wI_mul]
    · have e := low_z lx3 lz (U f)
      rw [th, if_pos rfl] at e
      have e2 : act ⟨x % 2 ^ q + 2 ^ q, z % 2 ^ q + 2 ^ q, 0⟩ (U f) = sc (ph 2) (act ⟨x % 2 ^ q + 2 ^ q, z % 2 ^ q, 0⟩ (act (zq1 q) (U f))) := by
        rw [e, sc8 (by decide)]
      rw [e2, ← low_x lx lz, F.hz q hq', F.hx q hq', ih, ← F.iso.hom]
      congr 1
      rw [← wI_mul, ← wI_mul, ← wI_sc]
      unfold wI
      rw [sc_act, sc_sc, sc_sc, mul_comm]
end VL.N

set_option Elab.async false
set_option linter.all false
set_option maxRecDepth 100000
set_option maxHeartbeats 1000000
/-! VN7: sizes of exact numbers; states as lists -/
namespace VL.N
open VL VL.P Q8
def nn (q : Qd) : Int := q.a * q.a + q.b * q.b + q.c * q.c + q.d * q.d
theorem sqn (a : Int) : 0 ≤ a * a := by
  rcases Int.le_total 0 a with h | h
  · exact Int.mul_nonneg h h
  · exact Int.mul_nonneg_of_nonpos_of_nonpos h h
theorem nn_nn (q : Qd) : 0 ≤ nn q := by
  have := sqn q.a; have := sqn q.b; have := sqn q.c; have := sqn q.d
  unfold nn
  omega
theorem nn_up (q : Qd) : nn (up q) = 2 * nn q := by
  unfold nn up
  grind
theorem nn_neg (q : Qd) : nn q.neg = nn q := by
  unfold nn Qd.neg
  grind
theorem sq2 (a b : Int) : (a + b) * (a + b) ≤ 2 * (a * a) + 2 * (b * b) := by
  have := sqn (a - b)
  grind
theorem nn_add (x y : Qd) : nn (x.add y) ≤ 2 * nn x + 2 * nn y := by
  have h1 := sq2 x.a y.a
  have h2 := sq2 x.b y.b
  have h3 := sq2 x.c y.c
  have h4 := sq2 x.d y.d
  unfold nn Qd.add
  dsimp only
  omega
theorem cs4 (a b c d e f g k : Int) : (a * e + b * f + c * g + d * k) * (a * e + b * f + c * g + d * k) ≤ (a * a + b * b + c * c + d * d) * (e * e + f * f + g * g + k * k) := by
  have h1 := sqn (a * f - b * e)
  have h2 := sqn (a * g - c * e)
  have h3 := sqn (a * k - d * e)
  have h4 := sqn (b * g - c * f)
  have h5 := sqn (b * k - d * f)
  have h6 := sqn (c * k - d * g)
  grind
theorem nn_mul (x y : Qd) : nn (mulq x y) ≤ 4 * (nn x * nn y) := by
  obtain ⟨a, b, c, d⟩ := x
  obtain ⟨e, f, g, k⟩ := y
  have h1 := cs4 a b c d e (-k) (-g) (-f)
  have h2 := cs4 a b c d f e (-k) (-g)
  have h3 := cs4 a b c d g f e (-k)
  have h4 := cs4 a b c d k g f e
  unfold nn mulq
  dsimp only
  grind
theorem nn_ups : ∀ (n : Nat) (q : Qd), nn (ups n q) = 2 ^ n * nn q
  | 0, q => by show nn q = 2 ^ 0 * nn q; omega
  | n + 1, q => by
    show nn (ups n (up q)) = _
    rw [nn_ups n, nn_up, Int.pow_succ]
    grind
theorem nn_dns : ∀ (l : Nat) (q : Qd), nn (dns l q).q * 2 ^ l = nn q * 2 ^ (dns l q).k.toNat
  | 0, q => rfl
  | l + 1, q => by
    unfold dns
    split
    · rename_i e
      have ih := nn_dns l (dn q)
      have h := nn_up (dn q)
      rw [up_dn e] at h
      rw [Int.pow_succ, h]
      grind
    · rfl
/-- a size: the squares' sum below 2^c, over 2^k; k at most K -/
structure Sz (c K : Nat) (x : Nm) : Prop where
  k0 : 0 ≤ x.k
  kK : x.k ≤ K
  nb : nn x.q ≤ 2 ^ c * 2 ^ x.k.toNat
theorem p2 (n : Nat) : (0 : Int) < 2 ^ n := Int.pow_pos (by decide)
theorem Sz.mono {c K c' K' : Nat} {x : Nm} (s : Sz c K x) (h1 : c ≤ c') (h2 : K ≤ K') : Sz c' K' x := ⟨s.k0, by have := s.kK; omega, by
  refine Int.le_trans s.nb (Int.mul_le_mul_of_nonneg_right ?_ (Int.le_of_lt (p2 _)))
  have : (2 : Nat) ^ c ≤ 2 ^ c' := Nat.pow_le_pow_right (by decide) h1
  exact_mod_cast this⟩
theorem Sz.fm {q : Qd} {k : Int} {c K : Nat} (hk : 0 ≤ k) (hK : k ≤ K) (h : nn q ≤ 2 ^ c * 2 ^ k.toNat) : Sz c K (fm q k) := by
  have hf := fm_k q k
  refine ⟨hf.1, by omega, ?_⟩
  unfold N.fm
  split
  · show nn zq ≤ _
    have := p2 c
    have := p2 (0 : Int).toNat
    exact Int.le_of_lt (Int.mul_pos (p2 _) (p2 _))
  · rw [show (-k).toNat = 0 by omega]
    have e := nn_dns k.toNat q
    show nn (dns k.toNat q).q ≤ 2 ^ c * 2 ^ (dns k.toNat q).k.toNat
    generalize (dns k.toNat q).k.toNat = j at e ⊢
    generalize nn (dns k.toNat q).q = u at e ⊢
    have pj := p2 j
    have pk := p2 k.toNat
    have e2 : u * 2 ^ k.toNat ≤ (2 ^ c * 2 ^ j) * 2 ^ k.toNat := by
      rw [e]
      have := Int.mul_le_mul_of_nonneg_right h (Int.le_of_lt pj)
      grind
    exact Int.le_of_mul_le_mul_right e2 pk
theorem rsd_nn (x : Nm) (h0 : 0 ≤ x.k) {c : Nat} (h : nn x.q ≤ 2 ^ c * 2 ^ x.k.toNat) {N : Int} (hN : x.k ≤ N) : nn (rsd x N) ≤ 2 ^ c * 2 ^ N.toNat := by
  unfold rsd
  rw [nn_ups]
  have e : N.toNat = (N - x.k).toNat + x.k.toNat := by omega
  rw [e, Int.pow_add]
  have := Int.mul_le_mul_of_nonneg_left h (Int.le_of_lt (p2 (N - x.k).toNat))
  grind
theorem Sz.pls {c K : Nat} {x y : Nm} (hx : Sz c K x) (hy : Sz c K y) : Sz (c + 2) K (pls x y) := by
  have hm := mx_ge x.k y.k
  have h0 : 0 ≤ mx x.k y.k := by have := hx.k0; omega
  have h1 : mx x.k y.k ≤ K := mx_bd hx.kK hy.kK
  refine Sz.fm h0 h1 ?_
  have a := rsd_nn x hx.k0 hx.nb hm.1
  have b := rsd_nn y hy.k0 hy.nb hm.2
  have d := nn_add (rsd x (mx x.k y.k)) (rsd y (mx x.k y.k))
  have e : (2 : Int) ^ (c + 2) = 4 * 2 ^ c := by rw [Int.pow_add]; omega
  rw [e]
  grind
theorem Sz.tms {c K c' K' : Nat} {x y : Nm} (hx : Sz c K x) (hy : Sz c' K' y) : Sz (c + c' + 2) (K + K') (tms x y) := by
  have x0 := hx.k0
  have y0 := hy.k0
  have xK := hx.kK
  have yK := hy.kK
  refine Sz.fm (by omega) (by omega) ?_
  have m := nn_mul x.q y.q
  have e : (x.k + y.k).toNat = x.k.toNat + y.k.toNat := by omega
  rw [e, Int.pow_add, Int.pow_add, Int.pow_add]
  have a := hx.nb
  have b := hy.nb
  have n1 := nn_nn x.q
  have n2 := nn_nn y.q
  have t := Int.mul_le_mul a b n2 (Int.le_of_lt (Int.mul_pos (p2 _) (p2 _)))
  have e2 : (2 : Int) ^ 2 = 4 := rfl
  rw [e2]
  grind
theorem Sz.ngt {c K : Nat} {x : Nm} (hx : Sz c K x) : Sz c K (ngt x) := ⟨hx.k0, hx.kK, by show nn x.q.neg ≤ _; rw [nn_neg]; exact hx.nb⟩
theorem Sz.cnj {c K : Nat} {x : Nm} (hx : Sz c K x) : Sz c K (cnj x) := ⟨hx.k0, hx.kK, by
  have e : nn (N.cnj x).q = nn x.q := by unfold nn N.cnj; grind
  rw [e]; exact hx.nb⟩
theorem Sz.rt (n : Int) : Sz 0 0 (rt n) := ⟨Int.le_refl _, Int.le_refl _, by
  show nn (N.rt n).q ≤ 1 * 1
  unfold N.rt nn
  have h4 : n % 4 = 0 ∨ n % 4 = 1 ∨ n % 4 = 2 ∨ n % 4 = 3 := by omega
  dsimp only
  generalize hs : (if n % 8 < 4 then (1 : Int) else -1) = s
  have h2 : s = 1 ∨ s = -1 := by rw [← hs]; split; exact .inl rfl; exact .inr rfl
  clear hs
  rcases h2 with rfl | rfl <;> rcases h4 with e | e | e | e <;> rw [e] <;> decide⟩
theorem nf_neg {x : Nm} (h : nf x = true) : nf (ngt x) = true := by
  unfold nf at h ⊢
  show (decide (0 ≤ x.k) && _) = true
  rw [Bool.and_eq_true] at h ⊢
  refine ⟨h.1, ?_⟩
  have h2 := h.2
  have z : (x.q.neg = zq) ↔ x.q = zq := by
    constructor
    · intro e
      have h1 := congrArg Qd.a e
      have h2 := congrArg Qd.b e
      have h3 := congrArg Qd.c e
      have h4 := congrArg Qd.d e
      simp only [Qd.neg, zq] at h1 h2 h3 h4
      exact Qd.ext (by simp only [zq]; omega) (by simp only [zq]; omega) (by simp only [zq]; omega) (by simp only [zq]; omega)
    · intro e
      rw [e]
      rfl
  by_cases c : x.q = zq
  · rw [if_pos c] at h2
    show (if x.q.neg = zq then _ else _) = true
    rw [if_pos (z.mpr c)]
    exact h2
  · rw [if_neg c] at h2
    show (if x.q.neg = zq then _ else _) = true
    rw [if_neg fun e => c (z.mp e)]
    rw [Bool.or_eq_true, Bool.or_eq_true, decide_eq_true_eq, decide_eq_true_eq, decide_eq_true_eq] at h2 ⊢
    show (x.k = 0 ∨ (-x.q.b - -x.q.d) % 2 = 1) ∨ (-x.q.a + -x.q.c) % 2 = 1
    omega
theorem nf_rt (n : Int) : nf (rt n) = true := by
  unfold rt nf
  have h4 : n % 4 = 0 ∨ n % 4 = 1 ∨ n % 4 = 2 ∨ n % 4 = 3 := by omega
  dsimp only
  generalize hs : (if n % 8 < 4 then (1 : Int) else -1) = s
  have h2 : s = 1 ∨ s = -1 := by rw [← hs]; split; exact .inl rfl; exact .inr rfl
  clear hs
  rcases h2 with rfl | rfl <;> rcases h4 with e | e | e | e <;> rw [e] <;> decide
theorem Sz.bd {c K : Nat} {x : Nm} (h : Sz c K x) {m : Nat} (hm : c + K < m) : Bd m x.q := by
  have b := h.nb
  have n1 : nn x.q < 2 ^ m := by
    refine Int.lt_of_le_of_lt b ?_
    rw [← Int.pow_add]
    have : (2 : Nat) ^ (c + x.k.toNat) < 2 ^ m := Nat.pow_lt_pow_right (by decide) (by have := h.kK; have := h.k0; omega)
    exact_mod_cast this
  have q : ∀ a : Int, a * a ≤ nn x.q → a.natAbs < 2 ^ m := fun a ha => by
    have e1 : a * a = ((a.natAbs * a.natAbs : Nat) : Int) := Int.natAbs_mul_self.symm
    have e2 : ((a.natAbs * a.natAbs : Nat) : Int) < ((2 ^ m : Nat) : Int) := by
      rw [← e1]
      refine Int.lt_of_le_of_lt ha ?_
      exact_mod_cast n1
    have e3 : a.natAbs * a.natAbs < 2 ^ m := by exact_mod_cast e2
    rcases Nat.eq_zero_or_pos a.natAbs with z | z
    · rw [z]; exact Nat.two_pow_pos m
    · exact Nat.lt_of_le_of_lt (Nat.le_mul_of_pos_left _ z) e3
  have s1 := sqn x.q.a
  have s2 := sqn x.q.b
  have s3 := sqn x.q.c
  have s4 := sqn x.q.d
  unfold nn at q
  exact ⟨q _ (by omega), q _ (by omega), q _ (by omega), q _ (by omega)⟩
/-! ### states -/
def z0 : Nm := ⟨zq, 0⟩
def o1 : Nm := ⟨⟨1, 0, 0, 0⟩, 0⟩
structure Num (c K : Nat) (x : Nm) : Prop where
  sz : Sz c K x
  nf : nf x = true
theorem Num.mono {c K c' K' : Nat} {x : Nm} (s : Num c K x) (h1 : c ≤ c') (h2 : K ≤ K') : Num c' K' x := ⟨s.sz.mono h1 h2, s.nf⟩
theorem Num.pls {c K : Nat} {x y : Nm} (hx : Num c K x) (hy : Num c K y) : Num (c + 2) K (pls x y) := ⟨hx.sz.pls hy.sz, nf_fm _ _⟩
theorem Num.tms {c K c' K' : Nat} {x y : Nm} (hx : Sz c K x) (hy : Sz c' K' y) : Num (c + c' + 2) (K + K') (tms x y) := ⟨hx.tms hy, nf_fm _ _⟩
theorem Num.ngt {c K : Nat} {x : Nm} (hx : Num c K x) : Num c K (ngt x) := ⟨hx.sz.ngt, nf_neg hx.nf⟩
theorem Num.z0 (c K : Nat) : Num c K z0 := ⟨⟨Int.le_refl _, by show (0 : Int) ≤ K; omega, by
  show nn zq ≤ _
  exact Int.le_of_lt (Int.mul_pos (p2 _) (p2 _))⟩, rfl⟩
theorem Num.o1 (c K : Nat) : Num c K o1 := ⟨⟨Int.le_refl _, by show (0 : Int) ≤ K; omega, by
  show (1 : Int) ≤ 2 ^ c * 1
  have := p2 c
  omega⟩, rfl⟩
structure St (n c K : Nat) (s : List Nm) : Prop where
  len : s.length = 2 ^ n
  num : ∀ x ∈ s, Num c K x
theorem St.mono {n c K c' K' : Nat} {s : List Nm} (h : St n c K s) (h1 : c ≤ c') (h2 : K ≤ K') : St n c' K' s := ⟨h.len, fun x hx => (h.num x hx).mono h1 h2⟩
def at0 (s : List Nm) (k : Nat) : Nm := s.getD k z0
def vec (s : List Nm) : Vc := fun k => val (at0 s k)
theorem val_z0 : val z0 = 0 := by unfold val z0; rw [show qv (⟨zq, 0⟩ : Nm).q = 0 from rfl, zero_mul]
theorem val_o1 : val o1 = 1 := by apply Q8.ext <;> decide +kernel
theorem at0_num {n c K : Nat} {s : List Nm} (h : St n c K s) (k : Nat) : Num c K (at0 s k) := by
  unfold at0
  rw [List.getD_eq_getElem?_getD]
  cases e : s[k]? with
  | none => exact Num.z0 c K
  | some x => exact h.num x (List.mem_of_getElem? e)
theorem vec_out {n c K : Nat} {s : List Nm} (h : St n c K s) {k : Nat} (hk : ¬ k < 2 ^ n) : vec s k = 0 := by
  unfold vec at0
  rw [List.getD_eq_getElem?_getD, List.getElem?_eq_none (by rw [h.len]; omega)]
  exact val_z0
def tabL (m : Nat) (F : Nat → Nm) : List Nm := (List.range m).map F
theorem tab_at (m : Nat) (F : Nat → Nm) (k : Nat) : at0 (tabL m F) k = if k < m then F k else z0 := by
  unfold at0 tabL
  rw [List.getD_eq_getElem?_getD, List.getElem?_map]
  by_cases h : k < m
  · rw [if_pos h, List.getElem?_range h]
    rfl
  · rw [if_neg h, List.getElem?_eq_none (by rw [List.length_range]; omega)]
    rfl
theorem tab_st {n c K : Nat} {F : Nat → Nm} (h : ∀ k, k < 2 ^ n → Num c K (F k)) : St n c K (tabL (2 ^ n) F) := ⟨by unfold tabL; rw [List.length_map, List.length_range], fun x hx => by
  obtain ⟨k, hk, rfl⟩ := List.mem_map.mp hx
  exact h k (List.mem_range.mp hk)⟩
theorem tab_vec {n : Nat} {F : Nat → Nm} {f : Vc} (h : ∀ k, k < 2 ^ n → val (F k) = f k) (h0 : ∀ k, ¬ k < 2 ^ n → f k = 0) : vec (tabL (2 ^ n) F) = f := funext fun k => by
  unfold vec
  rw [tab_at]
  by_cases c : k < 2 ^ n
  · rw [if_pos c]; exact h k c
  · rw [if_neg c, h0 k c]; exact val_z0
theorem st_tab {n c K : Nat} {s : List Nm} (h : St n c K s) : s = tabL (2 ^ n) (at0 s) := by
  refine List.ext_getElem? fun k => ?_
  unfold tabL
  rw [List.getElem?_map]
  by_cases c : k < 2 ^ n
  · rw [List.getElem?_range c, List.getElem?_eq_getElem (by rw [h.len]; exact c)]
    show some _ = some (s.getD k z0)
    rw [List.getD_eq_getElem?_getD, List.getElem?_eq_getElem (by rw [h.len]; exact c)]
    rfl
  · rw [List.getElem?_eq_none (by rw [h.len]; omega), List.getElem?_eq_none (by rw [List.length_range]; omega)]
    rfl
theorem vec_inj {n c K c' K' : Nat} {s t : List Nm} (hs : St n c K s) (ht : St n c' K' t) (e : vec s = vec t) : s = t := by
  rw [st_tab hs, st_tab ht]
  unfold tabL
  refine List.map_congr_left fun k _ => ?_
  have a := at0_num hs k
  have b := at0_num ht k
  exact val_inj a.nf b.nf a.sz.k0 b.sz.k0 (congrFun e k)
end VL.N

set_option Elab.async false
set_option linter.all false
set_option maxRecDepth 100000
set_option maxHeartbeats 1000000
/-! VN8: states and the law's own matrices: promises -/
namespace VL.N
open PySem PySem.Spec VL VL.P Q8
def k_FACTORS : List (Str × D) := [("Z", (.int 4)), ("S", (.int 2)), ("SI", (.int 6)), ("T", (.int 1)), ("TI", (.int 7))]
def k_PAIRS : D := (.tup [(.str "CX"), (.str "CZ")])
def stD (s : List Nm) : D := .lst (s.map Nm.e)
/-- gates on one qubit, on two -/
inductive G1 where
  | H | S | SI | X | Y | Z | T | TI
  deriving DecidableEq
def G1.nm : G1 → Str
  | .H => "H" | .S => "S" | .SI => "SI" | .X => "X" | .Y => "Y" | .Z => "Z" | .T => "T" | .TI => "TI"
def G1.fc : G1 → Nat
  | .S => 2 | .SI => 6 | .Z => 4 | .T => 1 | .TI => 7 | _ => 0
def gF (m q : Nat) : Vc → Vc := op1 1 0 0 (ph m) q
def G1.op : G1 → Nat → Vc → Vc
  | .H => gH | .X => gX | .Y => gY | g => gF g.fc
inductive G2 where
  | CX | CZ
  deriving DecidableEq
def G2.nm : G2 → Str
  | .CX => "CX" | .CZ => "CZ"
def G2.op : G2 → Nat → Nat → Vc → Vc
  | .CX => gCX | .CZ => gCZ
structure M2x where
  a : Nm
  b : Nm
  c : Nm
  d : Nm
def M2x.e (m : M2x) : D := .lst [.lst [m.a.e, m.b.e], .lst [m.c.e, m.d.e]]
structure M2x.Ok (m : M2x) : Prop where
  a : Sz 0 1 m.a
  b : Sz 0 1 m.b
  c : Sz 0 1 m.c
  d : Sz 0 1 m.d
def r1 : Nm := ⟨⟨1, 0, 0, 0⟩, 1⟩
def n1 : Nm := ⟨⟨-1, 0, 0, 0⟩, 1⟩
def hf2n : Nm := ⟨⟨1, 0, 0, 0⟩, 2⟩
def G1.mat : G1 → M2x
  | .H => ⟨r1, r1, r1, n1⟩
  | .X => ⟨z0, o1, o1, z0⟩
  | .Y => ⟨z0, rt 6, rt 2, z0⟩
  | g => ⟨o1, z0, z0, rt g.fc⟩
def lt4 (k : Nat) : Str := ⟨#[lch k (k / 2)]⟩
/-- the letter of a qubit -/
def ltr (p : Pa) (q : Nat) : Str := ⟨#[lch (p.x / 2 ^ q) (p.z / 2 ^ q)]⟩
/-! ### the program's states -/
abbrev sp_ones_states : Spc := sp_ones
def sp_zeros : Spc := fun ds h R _ => ∃ m : Nat, ds = [.int m] ∧ m ≤ 15 ∧ ∀ s', St m 0 0 s' → vec s' = dl → R (stD s') h
def sp_mixed : Spc := fun ds h R _ => ∃ (n c K : Nat) (s : List Nm) (q : Nat), ds = [stD s, .int (2 ^ q : Nat)] ∧ St n c K s ∧ n ≤ 15 ∧ c + K ≤ 3000 ∧ q < n ∧
  ∀ s', St n (c + 4) (K + 1) s' → vec s' = gH q (vec s) → R (stD s') h
def sp_gate : Spc := fun ds h R _ => ∃ (n c K : Nat) (s : List Nm), St n c K s ∧ n ≤ 15 ∧ c + K ≤ 3000 ∧
  ((∃ (g : G1) (q : Nat), ds = [stD s, .str g.nm, .tup [.int q]] ∧ q < n ∧ ∀ s', St n (c + 4) (K + 1) s' → vec s' = g.op q (vec s) → R (stD s') h) ∨
   (∃ (g : G2) (u t : Nat), ds = [stD s, .str g.nm, .tup [.int u, .int t]] ∧ u < n ∧ t < n ∧ u ≠ t ∧ ∀ s', St n (c + 4) (K + 1) s' → vec s' = g.op u t (vec s) → R (stD s') h))
def sp_acted : Spc := fun ds h R _ => ∃ (n c K : Nat) (s : List Nm) (p : Pa), ds = [stD s, p.e] ∧ St n c K s ∧ n ≤ 15 ∧ c + K ≤ 3000 ∧ PB n p ∧
  ∀ s', St n (c + 2) K s' → vec s' = act p (vec s) → R (stD s') h
def sp_projected : Spc := fun ds h R _ => ∃ (n c K : Nat) (s : List Nm) (p : Pa) (b : Nat), ds = [stD s, p.e, .int b] ∧ b < 2 ∧ St n c K s ∧ n ≤ 15 ∧ c + K ≤ 3000 ∧ PB n p ∧
  ∀ s', St n (c + 8) (K + 2) s' → vec s' = prj p b (vec s) → R (stD s') h
def sp_norm : Spc := fun ds h R _ => ∃ (n c K : Nat) (s : List Nm), ds = [stD s] ∧ St n c K s ∧ n ≤ 15 ∧ c + K ≤ 3100 ∧
  ∀ v : Nm, nf v = true → 0 ≤ v.k → val v = nrm n (vec s) → R v.e h
def sp_expected : Spc := fun ds h R _ => ∃ (n c K : Nat) (s : List Nm) (p : Pa), ds = [stD s, p.e] ∧ St n c K s ∧ n ≤ 15 ∧ c + K ≤ 3000 ∧ PB n p ∧
  ∀ v : Nm, nf v = true → 0 ≤ v.k → val v = ev n (vec s) p → R v.e h
/-! ### the law's own matrices -/
def sp__law_matrix : Spc := fun ds h R _ => ∃ g : G1, ds = [.str g.nm] ∧ R g.mat.e h
def sp__law_one : Spc := fun ds h R _ => ∃ (n c K : Nat) (s : List Nm) (m : M2x) (q : Nat), ds = [stD s, m.e, .int q] ∧ St n c K s ∧ n ≤ 15 ∧ c + K ≤ 3000 ∧ m.Ok ∧ q < n ∧
  ∀ s', St n (c + 4) (K + 1) s' → vec s' = op1 (val m.a) (val m.b) (val m.c) (val m.d) q (vec s) → R (stD s') h
def sp__law_gate : Spc := sp_gate
def sp__law_letter : Spc := fun ds h R _ => ∃ (p : Pa) (q : Nat), ds = [p.e, .int q] ∧ q ≤ 1000 ∧ R (.str (ltr p q)) h
def sp__law_acted : Spc := fun ds h R _ => ∃ (n c K : Nat) (s : List Nm) (p : Pa), ds = [stD s, p.e, .int n] ∧ St n c K s ∧ n ≤ 15 ∧ c + K ≤ 2900 ∧ PB n p ∧
  ∀ s', St n (c + 4 * n + 2) (K + n) s' → vec s' = act p (vec s) → R (stD s') h
def sp__law_projected : Spc := fun ds h R _ => ∃ (n c K : Nat) (s : List Nm) (p : Pa) (b : Nat), ds = [stD s, p.e, .int b, .int n] ∧ b < 2 ∧ St n c K s ∧ n ≤ 15 ∧ c + K ≤ 2800 ∧ PB n p ∧
  ∀ s', St n (c + 4 * n + 12) (K + n + 2) s' → vec s' = prj p b (vec s) → R (stD s') h
def sp__law_turned : Spc := fun ds h R _ => ∃ (n c K : Nat) (s : List Nm) (p : Pa), ds = [stD s, p.e, .int n] ∧ St n c K s ∧ n ≤ 15 ∧ c + K ≤ 2800 ∧ PB n p ∧
  ∀ s', St n (c + 4 * n + 20) (K + n + 2) s' → vec s' = tnv p (vec s) → R (stD s') h
end VL.N

set_option Elab.async false
set_option linter.all false
set_option maxRecDepth 100000
namespace VL.N
open PySem PySem.Spec L2 VL VL.P
def w_formed_b1 : WS :=
  (wAsg (wTup (wCons (wOp opSub (wVar 1) (wVar 3)) (wCons (wOp opAdd (wVar 0) (wVar 2)) (wCons (wOp opAdd (wVar 1) (wVar 3)) (wCons (wOp opSub (wVar 2) (wVar 0)) (wCons (wOp opAdd (wVar 4) (wC (.int 1))) wNil)))))) (gTp 5 (gsCons (gVar 0) (gsCons (gVar 1) (gsCons (gVar 2) (gsCons (gVar 3) (gsCons (gVar 4) gsNil)))))))
def w_formed_t1 : WT :=
  (wBb (wOp opLt (wVar 4) (wC (.int 0))))
def w_formed_b2 : WS :=
  (wAsg (wTup (wCons (wOp opDiv (wOp opSub (wVar 1) (wVar 3)) (wC (.int 2))) (wCons (wOp opDiv (wOp opAdd (wVar 0) (wVar 2)) (wC (.int 2))) (wCons (wOp opDiv (wOp opAdd (wVar 1) (wVar 3)) (wC (.int 2))) (wCons (wOp opDiv (wOp opSub (wVar 2) (wVar 0)) (wC (.int 2))) (wCons (wOp opSub (wVar 4) (wC (.int 1))) wNil)))))) (gTp 5 (gsCons (gVar 0) (gsCons (gVar 1) (gsCons (gVar 2) (gsCons (gVar 3) (gsCons (gVar 4) gsNil)))))))
def w_formed_t2 : WT :=
  (wAnd (wBb (wOp opGt (wVar 4) (wC (.int 0)))) (wAnd (wBb (wOp opEq (wOp opAnd (wOp opSub (wVar 1) (wVar 3)) (wC (.int 1))) (wC (.int 0)))) (wBb (wOp opEq (wOp opAnd (wOp opAdd (wVar 0) (wVar 2)) (wC (.int 1))) (wC (.int 0))))))
def w_formed_3 : WS :=
  (wRet (wTup (wCons (wVar 0) (wCons (wVar 1) (wCons (wVar 2) (wCons (wVar 3) (wCons (wVar 4) wNil)))))))
def w_formed_2 : WS :=
  (wSeq (wWhile w_formed_t2 w_formed_b2)
  w_formed_3)
def w_formed_1 : WS :=
  (wSeq (wWhile w_formed_t1 w_formed_b1)
  w_formed_2)
def w_formed : WS :=
  (wSeq (wIfS (wAnd (wBb (wOp opEq (wVar 0) (wC (.int 0)))) (wAnd (wBb (wOp opEq (wVar 1) (wC (.int 0)))) (wAnd (wBb (wOp opEq (wVar 2) (wC (.int 0)))) (wBb (wOp opEq (wVar 3) (wC (.int 0))))))) (wRet (wC k_ZERO)) wNext)
  w_formed_1)
def w_raised_b1 : WS :=
  (wAsg (wTup (wCons (wOp opSub (wVar 3) (wVar 5)) (wCons (wOp opAdd (wVar 2) (wVar 4)) (wCons (wOp opAdd (wVar 3) (wVar 5)) (wCons (wOp opSub (wVar 4) (wVar 2)) (wCons (wOp opAdd (wVar 6) (wC (.int 1))) wNil)))))) (gTp 5 (gsCons (gVar 2) (gsCons (gVar 3) (gsCons (gVar 4) (gsCons (gVar 5) (gsCons (gVar 6) gsNil)))))))
def w_raised_t1 : WT :=
  (wBb (wOp opLt (wVar 6) (wVar 1)))
def w_raised_2 : WS :=
  (wRet (wTup (wCons (wVar 2) (wCons (wVar 3) (wCons (wVar 4) (wCons (wVar 5) wNil))))))
def w_raised_1 : WS :=
  (wSeq (wWhile w_raised_t1 w_raised_b1)
  w_raised_2)
def w_raised : WS :=
  (wSeq (wAsg (wVar 0) (gTp 5 (gsCons (gVar 2) (gsCons (gVar 3) (gsCons (gVar 4) (gsCons (gVar 5) (gsCons (gVar 6) gsNil)))))))
  w_raised_1)
def w_plus_3 : WS :=
  (wRet (wCall sp_formed (wCons (wOp opAdd (wIx (wVar 3) (wC (.int 0))) (wIx (wVar 4) (wC (.int 0)))) (wCons (wOp opAdd (wIx (wVar 3) (wC (.int 1))) (wIx (wVar 4) (wC (.int 1)))) (wCons (wOp opAdd (wIx (wVar 3) (wC (.int 2))) (wIx (wVar 4) (wC (.int 2)))) (wCons (wOp opAdd (wIx (wVar 3) (wC (.int 3))) (wIx (wVar 4) (wC (.int 3)))) (wCons (wVar 2) wNil)))))))
def w_plus_2 : WS :=
  (wSeq (wAsg (wCall sp_raised (wCons (wVar 1) (wCons (wVar 2) wNil))) (gVar 4))
  w_plus_3)
def w_plus_1 : WS :=
  (wSeq (wAsg (wCall sp_raised (wCons (wVar 0) (wCons (wVar 2) wNil))) (gVar 3))
  w_plus_2)
def w_plus : WS :=
  (wSeq (wAsg (wCB bMax (wCons (wIx (wVar 0) (wC (.int 4))) (wCons (wIx (wVar 1) (wC (.int 4))) wNil))) (gVar 2))
  w_plus_1)
def w_negative : WS :=
  (wRet (wTup (wCons (wUn opNeg (wIx (wVar 0) (wC (.int 0)))) (wCons (wUn opNeg (wIx (wVar 0) (wC (.int 1)))) (wCons (wUn opNeg (wIx (wVar 0) (wC (.int 2)))) (wCons (wUn opNeg (wIx (wVar 0) (wC (.int 3)))) (wCons (wIx (wVar 0) (wC (.int 4))) wNil)))))))
def w_minus : WS :=
  (wRet (wCall sp_plus (wCons (wVar 0) (wCons (wCall sp_negative (wCons (wVar 1) wNil)) wNil))))
def w_times_2 : WS :=
  (wRet (wCall sp_formed (wCons (wOp opSub (wOp opSub (wOp opSub (wOp opMulS (wVar 2) (wVar 7)) (wOp opMulS (wVar 3) (wVar 10))) (wOp opMulS (wVar 4) (wVar 9))) (wOp opMulS (wVar 5) (wVar 8))) (wCons (wOp opSub (wOp opSub (wOp opAdd (wOp opMulS (wVar 2) (wVar 8)) (wOp opMulS (wVar 3) (wVar 7))) (wOp opMulS (wVar 4) (wVar 10))) (wOp opMulS (wVar 5) (wVar 9))) (wCons (wOp opSub (wOp opAdd (wOp opAdd (wOp opMulS (wVar 2) (wVar 9)) (wOp opMulS (wVar 3) (wVar 8))) (wOp opMulS (wVar 4) (wVar 7))) (wOp opMulS (wVar 5) (wVar 10))) (wCons (wOp opAdd (wOp opAdd (wOp opAdd (wOp opMulS (wVar 2) (wVar 10)) (wOp opMulS (wVar 3) (wVar 9))) (wOp opMulS (wVar 4) (wVar 8))) (wOp opMulS (wVar 5) (wVar 7))) (wCons (wOp opAdd (wVar 6) (wVar 11)) wNil)))))))
def w_times_1 : WS :=
  (wSeq (wAsg (wVar 1) (gTp 5 (gsCons (gVar 7) (gsCons (gVar 8) (gsCons (gVar 9) (gsCons (gVar 10) (gsCons (gVar 11) gsNil)))))))
  w_times_2)
def w_times : WS :=
  (wSeq (wAsg (wVar 0) (gTp 5 (gsCons (gVar 2) (gsCons (gVar 3) (gsCons (gVar 4) (gsCons (gVar 5) (gsCons (gVar 6) gsNil)))))))
  w_times_1)
def w_conjugate_1 : WS :=
  (wRet (wTup (wCons (wVar 1) (wCons (wUn opNeg (wVar 4)) (wCons (wUn opNeg (wVar 3)) (wCons (wUn opNeg (wVar 2)) (wCons (wVar 5) wNil)))))))
def w_conjugate : WS :=
  (wSeq (wAsg (wVar 0) (gTp 5 (gsCons (gVar 1) (gsCons (gVar 2) (gsCons (gVar 3) (gsCons (gVar 4) (gsCons (gVar 5) gsNil)))))))
  w_conjugate_1)
def w_root_2 : WS :=
  (wRet (wTup (wCons (wIxO 1 (wC (.int 0))) (wCons (wIxO 1 (wC (.int 1))) (wCons (wIxO 1 (wC (.int 2))) (wCons (wIxO 1 (wC (.int 3))) (wCons (wC (.int 0)) wNil)))))))
def w_root_1 : WS :=
  (wSeq (wAsg (wIf (wBb (wOp opEq (wOp opAnd (wVar 0) (wC (.int 4))) (wC (.int 0)))) (wC (.int 1)) (wUn opNeg (wC (.int 1)))) (gIxO 1 (wOp opAnd (wVar 0) (wC (.int 3)))))
  w_root_2)
def w_root : WS :=
  (wSeq (wSetO 1 (wLst (wCons (wC (.int 0)) (wCons (wC (.int 0)) (wCons (wC (.int 0)) (wCons (wC (.int 0)) wNil))))))
  w_root_1)
def w_total_b1 : WS :=
  (wAsg (wCall sp_plus (wCons (wVar 1) (wCons (wVar 2) wNil))) (gVar 1))
def w_total_2 : WS :=
  (wRet (wVar 1))
def w_total_1 : WS :=
  (wSeq (wFor (wItL (wVar 0)) (gVar 2) w_total_b1)
  w_total_2)
def w_total : WS :=
  (wSeq (wAsg (wC k_ZERO) (gVar 1))
  w_total_1)
def w_ones_states_b1_1 : WS :=
  (wAug 1 opAddI (wC (.int 1)))
def w_ones_states_b1 : WS :=
  (wSeq (wAug 0 opAnd (wOp opSub (wVar 0) (wC (.int 1))))
  w_ones_states_b1_1)
def w_ones_states_t1 : WT :=
  (wBb (wOp opGt (wVar 0) (wC (.int 0))))
def w_ones_states_2 : WS :=
  (wRet (wVar 1))
def w_ones_states_1 : WS :=
  (wSeq (wWhile w_ones_states_t1 w_ones_states_b1)
  w_ones_states_2)
def w_ones_states : WS :=
  (wSeq (wAsg (wC (.int 0)) (gVar 1))
  w_ones_states_1)
def w_zeros : WS :=
  (wRet (wOp opAdd (wLst (wCons (wC k_ONE) wNil)) (wOp opRep (wLst (wCons (wC k_ZERO) wNil)) (wOp opSub (wOp opShl (wC (.int 1)) (wVar 0)) (wC (.int 1))))))
def w_mixed_b1_2 : WS :=
  (wApp 2 (wCall sp_times (wCons (wC k_ROOT) (wCons (wIf (wBb (wOp opEq (wOp opAnd (wVar 3) (wVar 1)) (wC (.int 0)))) (wCall sp_plus (wCons (wVar 4) (wCons (wVar 5) wNil))) (wCall sp_minus (wCons (wVar 4) (wCons (wVar 5) wNil)))) wNil))))
def w_mixed_b1_1 : WS :=
  (wSeq (wAsg (wIx (wVar 0) (wOp opOr (wVar 3) (wVar 1))) (gVar 5))
  w_mixed_b1_2)
def w_mixed_b1 : WS :=
  (wSeq (wAsg (wIx (wVar 0) (wOp opAnd (wVar 3) (wUn opInv (wVar 1)))) (gVar 4))
  w_mixed_b1_1)
def w_mixed_2 : WS :=
  (wRet (wVar 2))
def w_mixed_1 : WS :=
  (wSeq (wFor (wRng1 (wCons (wCB bLen (wCons (wVar 0) wNil)) wNil)) (gVar 3) w_mixed_b1)
  w_mixed_2)
def w_mixed : WS :=
  (wSeq (wSetO 2 (wLst wNil))
  w_mixed_1)
def w_gate_8 : WS :=
  (wRet (wLc (wItR (wVar 4)) (gVar 7) wYes (wIf (wB (wOp opAnd (wVar 7) (wVar 3))) (wCall sp_times (wCons (wVar 5) (wCons (wIx (wVar 0) (wVar 7)) wNil))) (wIx (wVar 0) (wVar 7))) [7]))
def w_gate_7 : WS :=
  (wSeq (wAsg (wCall sp_root (wCons (wTab k_FACTORS (wVar 1)) wNil)) (gVar 5))
  w_gate_8)
def w_gate_6 : WS :=
  (wSeq (wIfS (wBb (wTabIn false k_FACTORS (wVar 1))) (wRaise "NotValid") wNext)
  w_gate_7)
def w_gate_5 : WS :=
  (wSeq (wIfS (wBb (wOp opEq (wVar 1) (wC (.str "Y")))) (wRet (wLc (wItR (wVar 4)) (gVar 7) wYes (wCall sp_times (wCons (wCall sp_root (wCons (wIf (wB (wOp opAnd (wVar 7) (wVar 3))) (wC (.int 2)) (wC (.int 6))) wNil)) (wCons (wIx (wVar 0) (wOp opXor (wVar 7) (wVar 3))) wNil))) [7])) wNext)
  w_gate_6)
def w_gate_4 : WS :=
  (wSeq (wIfS (wBb (wOp opEq (wVar 1) (wC (.str "X")))) (wRet (wLc (wItR (wVar 4)) (gVar 7) wYes (wIx (wVar 0) (wOp opXor (wVar 7) (wVar 3))) [7])) wNext)
  w_gate_5)
def w_gate_3 : WS :=
  (wSeq (wIfS (wBb (wOp opEq (wVar 1) (wC (.str "H")))) (wRet (wCall sp_mixed (wCons (wVar 0) (wCons (wVar 3) wNil)))) wNext)
  w_gate_4)
def w_gate_2 : WS :=
  (wSeq (wIfS (wBb (wOp opInD (wVar 1) (wC k_PAIRS))) (wSeq (wAsg (wOp opShl (wC (.int 1)) (wIx (wVar 2) (wC (.int 1)))) (gVar 6))
  (wSeq (wIfS (wBb (wOp opEq (wVar 1) (wC (.str "CX")))) (wRet (wLc (wItR (wVar 4)) (gVar 7) wYes (wIx (wVar 0) (wIf (wB (wOp opAnd (wVar 7) (wVar 3))) (wOp opXor (wVar 7) (wVar 6)) (wVar 7))) [7])) wNext)
  (wRet (wLc (wItR (wVar 4)) (gVar 7) wYes (wIf (wAnd (wB (wOp opAnd (wVar 7) (wVar 3))) (wB (wOp opAnd (wVar 7) (wVar 6)))) (wCall sp_negative (wCons (wIx (wVar 0) (wVar 7)) wNil)) (wIx (wVar 0) (wVar 7))) [7])))) wNext)
  w_gate_3)
def w_gate_1 : WS :=
  (wSeq (wAsg (wRngV (wCB bLen (wCons (wVar 0) wNil))) (gVar 4))
  w_gate_2)
def w_gate : WS :=
  (wSeq (wAsg (wOp opShl (wC (.int 1)) (wIx (wVar 2) (wC (.int 0)))) (gVar 3))
  w_gate_1)
def w_acted_b1_2 : WS :=
  (wApp 3 (wCall sp_times (wCons (wCall sp_root (wCons (wOp opAdd (wVar 2) (wOp opMulS (wC (.int 4)) (wVar 9))) wNil)) (wCons (wIx (wVar 0) (wVar 8)) wNil))))
def w_acted_b1_1 : WS :=
  (wSeq (wAsg (wOp opAnd (wCall sp_ones_states (wCons (wOp opAnd (wVar 8) (wVar 6)) wNil)) (wC (.int 1))) (gVar 9))
  w_acted_b1_2)
def w_acted_b1 : WS :=
  (wSeq (wAsg (wOp opXor (wVar 4) (wVar 5)) (gVar 8))
  w_acted_b1_1)
def w_acted_4 : WS :=
  (wRet (wVar 3))
def w_acted_3 : WS :=
  (wSeq (wFor (wRng1 (wCons (wCB bLen (wCons (wVar 0) wNil)) wNil)) (gVar 4) w_acted_b1)
  w_acted_4)
def w_acted_2 : WS :=
  (wSeq (wSetO 3 (wLst wNil))
  w_acted_3)
def w_acted_1 : WS :=
  (wSeq (wAsg (wOp opAdd (wOp opMulS (wC (.int 2)) (wCall sp_ones_states (wCons (wOp opAnd (wVar 5) (wVar 6)) wNil))) (wOp opMulS (wC (.int 4)) (wVar 7))) (gVar 2))
  w_acted_2)
def w_acted : WS :=
  (wSeq (wAsg (wVar 1) (gTp 3 (gsCons (gVar 5) (gsCons (gVar 6) (gsCons (gVar 7) gsNil)))))
  w_acted_1)
def w_projected_2 : WS :=
  (wRet (wLc (wItL (wVar 4)) (gVar 6) wYes (wCall sp_times (wCons (wC k_HALF) (wCons (wVar 6) wNil))) [6]))
def w_projected_1 : WS :=
  (wSeq (wAsg (wLc (wRng1 (wCons (wCB bLen (wCons (wVar 0) wNil)) wNil)) (gVar 5) wYes (wIf (wB (wVar 2)) (wCall sp_minus (wCons (wIx (wVar 0) (wVar 5)) (wCons (wIx (wVar 3) (wVar 5)) wNil))) (wCall sp_plus (wCons (wIx (wVar 0) (wVar 5)) (wCons (wIx (wVar 3) (wVar 5)) wNil)))) [5]) (gVar 4))
  w_projected_2)
def w_projected : WS :=
  (wSeq (wAsg (wCall sp_acted (wCons (wVar 0) (wCons (wVar 1) wNil))) (gVar 3))
  w_projected_1)
def w_norm : WS :=
  (wRet (wCall sp_total (wCons (wLc (wItL (wVar 0)) (gVar 1) wYes (wCall sp_times (wCons (wVar 1) (wCons (wCall sp_conjugate (wCons (wVar 1) wNil)) wNil))) [1]) wNil)))
def w_expected : WS :=
  (wRet (wCall sp_minus (wCons (wCall sp_norm (wCons (wCall sp_projected (wCons (wVar 0) (wCons (wVar 1) (wCons (wC (.int 0)) wNil)))) wNil)) (wCons (wCall sp_norm (wCons (wCall sp_projected (wCons (wVar 0) (wCons (wVar 1) (wCons (wC (.int 1)) wNil)))) wNil)) wNil))))
def w__law_matrix_6 : WS :=
  (wRet (wLst (wCons (wLst (wCons (wVar 3) (wCons (wVar 4) wNil))) (wCons (wLst (wCons (wVar 4) (wCons (wCall sp_root (wCons (wDGet (wVar 2) (wVar 0)) wNil)) wNil))) wNil))))
def w__law_matrix_5 : WS :=
  (wSeq (wIfS (wBb (wOp opEq (wVar 0) (wC (.str "Y")))) (wRet (wLst (wCons (wLst (wCons (wVar 4) (wCons (wCall sp_root (wCons (wC (.int 6)) wNil)) wNil))) (wCons (wLst (wCons (wCall sp_root (wCons (wC (.int 2)) wNil)) (wCons (wVar 4) wNil))) wNil)))) wNext)
  w__law_matrix_6)
def w__law_matrix_4 : WS :=
  (wSeq (wIfS (wBb (wOp opEq (wVar 0) (wC (.str "X")))) (wRet (wLst (wCons (wLst (wCons (wVar 4) (wCons (wVar 3) wNil))) (wCons (wLst (wCons (wVar 3) (wCons (wVar 4) wNil))) wNil)))) wNext)
  w__law_matrix_5)
def w__law_matrix_3 : WS :=
  (wSeq (wIfS (wBb (wOp opEq (wVar 0) (wC (.str "H")))) (wRet (wLst (wCons (wLst (wCons (wVar 5) (wCons (wVar 5) wNil))) (wCons (wLst (wCons (wVar 5) (wCons (wVar 1) wNil))) wNil)))) wNext)
  w__law_matrix_4)
def w__law_matrix_2 : WS :=
  (wSeq (wAsg (wDLit [((wC (.str "Z")), (wC (.int 4))), ((wC (.str "S")), (wC (.int 2))), ((wC (.str "SI")), (wC (.int 6))), ((wC (.str "T")), (wC (.int 1))), ((wC (.str "TI")), (wC (.int 7)))]) (gVar 2))
  w__law_matrix_3)
def w__law_matrix_1 : WS :=
  (wSeq (wAsg (wTup (wCons (wUn opNeg (wC (.int 1))) (wCons (wC (.int 0)) (wCons (wC (.int 0)) (wCons (wC (.int 0)) (wCons (wC (.int 1)) wNil)))))) (gVar 1))
  w__law_matrix_2)
def w__law_matrix : WS :=
  (wSeq (wAsg (wTup (wCons (wTup (wCons (wC (.int 1)) (wCons (wC (.int 0)) (wCons (wC (.int 0)) (wCons (wC (.int 0)) (wCons (wC (.int 0)) wNil)))))) (wCons (wTup (wCons (wC (.int 0)) (wCons (wC (.int 0)) (wCons (wC (.int 0)) (wCons (wC (.int 0)) (wCons (wC (.int 0)) wNil)))))) (wCons (wTup (wCons (wC (.int 1)) (wCons (wC (.int 0)) (wCons (wC (.int 0)) (wCons (wC (.int 0)) (wCons (wC (.int 1)) wNil)))))) wNil)))) (gTp 3 (gsCons (gVar 3) (gsCons (gVar 4) (gsCons (gVar 5) gsNil)))))
  w__law_matrix_1)
def w__law_one_b1_3 : WS :=
  (wApp 3 (wCall sp_plus (wCons (wCall sp_times (wCons (wIx (wVar 7) (wC (.int 0))) (wCons (wIx (wVar 0) (wVar 6)) wNil))) (wCons (wCall sp_times (wCons (wIx (wVar 7) (wC (.int 1))) (wCons (wIx (wVar 0) (wOp opAdd (wVar 6) (wOp opShl (wC (.int 1)) (wVar 2)))) wNil))) wNil))))
def w__law_one_b1_2 : WS :=
  (wSeq (wAsg (wIx (wVar 1) (wVar 5)) (gVar 7))
  w__law_one_b1_3)
def w__law_one_b1_1 : WS :=
  (wSeq (wAsg (wOp opSub (wVar 4) (wOp opMulS (wVar 5) (wOp opShl (wC (.int 1)) (wVar 2)))) (gVar 6))
  w__law_one_b1_2)
def w__law_one_b1 : WS :=
  (wSeq (wAsg (wOp opMod (wOp opDiv (wVar 4) (wOp opShl (wC (.int 1)) (wVar 2))) (wC (.int 2))) (gVar 5))
  w__law_one_b1_1)
def w__law_one_2 : WS :=
  (wRet (wVar 3))
def w__law_one_1 : WS :=
  (wSeq (wFor (wRng1 (wCons (wCB bLen (wCons (wVar 0) wNil)) wNil)) (gVar 4) w__law_one_b1)
  w__law_one_2)
def w__law_one : WS :=
  (wSeq (wSetO 3 (wLst wNil))
  w__law_one_1)
def w__law_gate_2 : WS :=
  (wRet (wLc (wRng1 (wCons (wCB bLen (wCons (wVar 0) wNil)) wNil)) (gVar 4) wYes (wIf (wBb (wOp opEq (wOp opMod (wOp opDiv (wVar 4) (wOp opShl (wC (.int 1)) (wIx (wVar 2) (wC (.int 0))))) (wC (.int 2))) (wC (.int 1)))) (wIx (wVar 3) (wVar 4)) (wIx (wVar 0) (wVar 4))) [4]))
def w__law_gate_1 : WS :=
  (wSeq (wAsg (wCall sp__law_one (wCons (wVar 0) (wCons (wCall sp__law_matrix (wCons (wDGet (wDLit [((wC (.str "CX")), (wC (.str "X"))), ((wC (.str "CZ")), (wC (.str "Z")))]) (wVar 1)) wNil)) (wCons (wIx (wVar 2) (wC (.int 1))) wNil)))) (gVar 3))
  w__law_gate_2)
def w__law_gate : WS :=
  (wSeq (wIfS (wBb (wOp opNotInD (wVar 1) (wTup (wCons (wC (.str "CX")) (wCons (wC (.str "CZ")) wNil))))) (wRet (wCall sp__law_one (wCons (wVar 0) (wCons (wCall sp__law_matrix (wCons (wVar 1) wNil)) (wCons (wIx (wVar 2) (wC (.int 0))) wNil))))) wNext)
  w__law_gate_1)
def w__law_letter : WS :=
  (wRet (wIx (wC (.str "IXZY")) (wOp opAdd (wOp opMod (wOp opDiv (wIx (wVar 0) (wC (.int 0))) (wOp opShl (wC (.int 1)) (wVar 1))) (wC (.int 2))) (wOp opMulS (wC (.int 2)) (wOp opMod (wOp opDiv (wIx (wVar 0) (wC (.int 1))) (wOp opShl (wC (.int 1)) (wVar 1))) (wC (.int 2)))))))
def w__law_acted_b1_1 : WS :=
  (wIfS (wBb (wOp opNe (wVar 5) (wC (.str "I")))) (wAsg (wCall sp__law_one (wCons (wVar 3) (wCons (wCall sp__law_matrix (wCons (wVar 5) wNil)) (wCons (wVar 4) wNil)))) (gVar 3)) wNext)
def w__law_acted_b1 : WS :=
  (wSeq (wAsg (wCall sp__law_letter (wCons (wVar 1) (wCons (wVar 4) wNil))) (gVar 5))
  w__law_acted_b1_1)
def w__law_acted_2 : WS :=
  (wRet (wLc (wItL (wVar 3)) (gVar 6) wYes (wCall sp_times (wCons (wCall sp_root (wCons (wOp opMulS (wC (.int 4)) (wIx (wVar 1) (wC (.int 2)))) wNil)) (wCons (wVar 6) wNil))) [6]))
def w__law_acted_1 : WS :=
  (wSeq (wFor (wRng1 (wCons (wVar 2) wNil)) (gVar 4) w__law_acted_b1)
  w__law_acted_2)
def w__law_acted : WS :=
  (wSeq (wAsg (wVar 0) (gVar 3))
  w__law_acted_1)
def w__law_projected_1 : WS :=
  (wRet (wLc (wRng1 (wCons (wCB bLen (wCons (wVar 0) wNil)) wNil)) (gVar 5) wYes (wCall sp_times (wCons (wTup (wCons (wC (.int 1)) (wCons (wC (.int 0)) (wCons (wC (.int 0)) (wCons (wC (.int 0)) (wCons (wC (.int 2)) wNil)))))) (wCons (wCall sp_plus (wCons (wIx (wVar 0) (wVar 5)) (wCons (wCall sp_times (wCons (wCall sp_root (wCons (wOp opMulS (wC (.int 4)) (wVar 2)) wNil)) (wCons (wIx (wVar 4) (wVar 5)) wNil))) wNil))) wNil))) [5]))
def w__law_projected : WS :=
  (wSeq (wAsg (wCall sp__law_acted (wCons (wVar 0) (wCons (wVar 1) (wCons (wVar 3) wNil)))) (gVar 4))
  w__law_projected_1)
def w__law_turned_2 : WS :=
  (wRet (wLc (wRng1 (wCons (wCB bLen (wCons (wVar 0) wNil)) wNil)) (gVar 5) wYes (wCall sp_plus (wCons (wIx (wVar 3) (wVar 5)) (wCons (wCall sp_times (wCons (wCall sp_root (wCons (wC (.int 2)) wNil)) (wCons (wIx (wVar 4) (wVar 5)) wNil))) wNil))) [5]))
def w__law_turned_1 : WS :=
  (wSeq (wAsg (wCall sp__law_projected (wCons (wVar 0) (wCons (wVar 1) (wCons (wC (.int 1)) (wCons (wVar 2) wNil))))) (gVar 4))
  w__law_turned_2)
def w__law_turned : WS :=
  (wSeq (wAsg (wCall sp__law_projected (wCons (wVar 0) (wCons (wVar 1) (wCons (wC (.int 0)) (wCons (wVar 2) wNil))))) (gVar 3))
  w__law_turned_1)
end VL.N

set_option Elab.async false
set_option linter.all false
set_option maxRecDepth 100000
set_option maxHeartbeats 4000000
/-! VN9: exact numbers, each body keeps its promise -/
namespace VL.N
open PySem PySem.Spec PyProof.Rows L2 VL VL.P
theorem pk_formed : Pk 5 0 sp_formed w_formed := by
  rintro ds h R _ ⟨a, b, c, d, k, rfl, hR⟩
  have zero : (⟨a, b, c, d⟩ : Qd) = zq → R k_ZERO h := fun e => by
    unfold fm at hR
    rw [if_pos e] at hR
    exact hR
  have rest : (⟨a, b, c, d⟩ : Qd) ≠ zq → w_formed_1 (Fi R) ⟨[.f (.int a), .f (.int b), .f (.int c), .f (.int d), .f (.int k)], h⟩ := fun ne => by
    unfold fm at hR
    rw [if_neg ne] at hR
    have down : ∀ (l : Nat) (q : Qd), R (dns l q).e h → wWhN w_formed_t2 w_formed_b2 { Fi R with nx := w_formed_3 (Fi R) } (l + 1) ⟨[.f (.int q.a), .f (.int q.b), .f (.int q.c), .f (.int q.d), .f (.int (l : Int))], h⟩ := fun l => by
      induction l with
      | zero =>
        intro q hR
        refine whn (brF (decide_eq_false (p := (0 : Int) < ((0 : Nat) : Int)) (by omega)) ?_)
        exact brF rfl hR
      | succ l ih =>
        intro q hR
        refine whn (brT (decide_eq_true (p := (0 : Int) < ((l + 1 : Nat) : Int)) (by omega)) ?_)
        have hd : dns (l + 1) q = if evn q then dns l (dn q) else ⟨q, l + 1⟩ := rfl
        rw [hd] at hR
        refine br (fun e1 => ?_) (fun e1 => ?_)
        · rw [bitAnd_m1] at e1
          refine br (fun e2 => ?_) (fun e2 => ?_)
          · rw [bitAnd_m1] at e2
            rw [if_pos (by unfold evn; rw [e1, e2]; rfl)] at hR
            refine ⟨cdiv2, cdiv2, cdiv2, cdiv2, rfl, ?_⟩
            have e3 : ((l + 1 : Nat) : Int) - 1 = (l : Int) := by omega
            have := ih (dn q) hR
            rw [← e3] at this
            exact this
          · rw [bitAnd_m1] at e2
            rw [if_neg (by unfold evn; rw [e2]; simp)] at hR
            exact hR
        · rw [bitAnd_m1] at e1
          rw [if_neg (by unfold evn; rw [e1]; simp)] at hR
          exact brF rfl hR
    have lift : ∀ (m : Nat) (k : Int) (q : Qd), (-k).toNat = m → R (dns k.toNat (ups m q)).e h → wWhN w_formed_t1 w_formed_b1 { Fi R with nx := w_formed_2 (Fi R) } (m + 1) ⟨[.f (.int q.a), .f (.int q.b), .f (.int q.c), .f (.int q.d), .f (.int k)], h⟩ := fun m => by
      induction m with
      | zero =>
        intro k q hm hR
        refine whn (brF (decide_eq_false (p := k < 0) (by omega)) ?_)
        refine ⟨k.toNat + 1, ?_⟩
        have hk : k = (k.toNat : Int) := by omega
        have := down k.toNat q hR
        rw [← hk] at this
        exact this
      | succ m ih =>
        intro k q hm hR
        refine whn (brT (decide_eq_true (p := k < 0) (by omega)) ?_)
        refine ⟨rfl, ?_⟩
        have e3 : (k + 1).toNat = k.toNat := by omega
        exact ih (k + 1) (up q) (by omega) (by rw [e3]; exact hR)
    exact ⟨(-k).toNat + 1, lift _ k ⟨a, b, c, d⟩ rfl hR⟩
  refine br (fun e1 => ?_) (fun e1 => ?_)
  · refine br (fun e2 => ?_) (fun e2 => ?_)
    · refine br (fun e3 => ?_) (fun e3 => ?_)
      · refine br (fun e4 => ?_) (fun e4 => ?_)
        · refine zero ?_
          rw [beq_iff_eq] at e1 e2 e3 e4
          subst e1 e2 e3 e4
          rfl
        · exact rest fun z => by cases z; cases e4
      · exact brF rfl (rest fun z => by cases z; cases e3)
    · exact brF rfl (rest fun z => by cases z; cases e2)
  · exact brF rfl (rest fun z => by cases z; cases e1)
theorem pk_raised : Pk 2 5 sp_raised w_raised := by
  rintro ds h R _ ⟨x, k, rfl, hR⟩
  refine ⟨rfl, ?_⟩
  have lift : ∀ (m : Nat) (j : Int) (q : Qd), (k - j).toNat = m → R (ups m q).e h → wWhN w_raised_t1 w_raised_b1 { Fi R with nx := w_raised_2 (Fi R) } (m + 1) ⟨[.f x.e, .f (.int k), .f (.int q.a), .f (.int q.b), .f (.int q.c), .f (.int q.d), .f (.int j)], h⟩ := fun m => by
    induction m with
    | zero =>
      intro j q hm hR
      refine whn (brF (decide_eq_false (p := j < k) (by omega)) ?_)
      exact hR
    | succ m ih =>
      intro j q hm hR
      refine whn (brT (decide_eq_true (p := j < k) (by omega)) ?_)
      refine ⟨rfl, ?_⟩
      exact ih (j + 1) (up q) (by omega) hR
  exact ⟨_, lift _ x.k x.q rfl hR⟩
theorem pk_plus : Pk 2 3 sp_plus w_plus := by
  rintro ds h R _ ⟨x, y, rfl, hR⟩
  refine ⟨_, rfl, _, rfl, ?_⟩
  refine ⟨x, _, rfl, ?_⟩
  refine ⟨y, _, rfl, ?_⟩
  refine ⟨_, rfl, _, rfl, _, rfl, _, rfl, _, rfl, _, rfl, _, rfl, _, rfl, ?_⟩
  exact ⟨_, _, _, _, _, rfl, hR⟩
theorem pk_negative : Pk 1 0 sp_negative w_negative := by
  rintro ds h R _ ⟨x, rfl, hR⟩
  exact ⟨_, rfl, _, rfl, _, rfl, _, rfl, _, rfl, hR⟩
theorem pk_minus : Pk 2 0 sp_minus w_minus := by
  rintro ds h R _ ⟨x, y, rfl, hR⟩
  exact ⟨y, rfl, x, ngt y, rfl, hR⟩
theorem bmul {i j : Int} (a : i.natAbs < 2 ^ 4000) (b : j.natAbs < 2 ^ 4000) : CMulX i j := cmul 4000 4000 a b (by decide)
theorem pk_times : Pk 2 10 sp_times w_times := by
  rintro ds h R _ ⟨x, y, rfl, ⟨x1, x2, x3, x4⟩, ⟨y1, y2, y3, y4⟩, hR⟩
  refine ⟨rfl, rfl, ?_⟩
  change w_times_2 (Fi R) ⟨[.f x.e, .f y.e, .f (.int x.q.a), .f (.int x.q.b), .f (.int x.q.c), .f (.int x.q.d), .f (.int x.k), .f (.int y.q.a), .f (.int y.q.b), .f (.int y.q.c), .f (.int y.q.d), .f (.int y.k)], h⟩
  refine ⟨bmul x1 y1, bmul x2 y4, bmul x3 y3, bmul x4 y2, bmul x1 y2, bmul x2 y1, bmul x3 y4, bmul x4 y3, bmul x1 y3, bmul x2 y2, bmul x3 y1, bmul x4 y4, bmul x1 y4, bmul x2 y3, bmul x3 y2, bmul x4 y1, ?_⟩
  exact ⟨_, _, _, _, _, rfl, hR⟩
theorem pk_conjugate : Pk 1 5 sp_conjugate w_conjugate := by
  rintro ds h R _ ⟨x, rfl, hR⟩
  exact ⟨rfl, hR⟩
theorem pk_root : Pk 1 1 sp_root w_root := by
  rintro ds h R _ ⟨n, rfl, hR⟩
  have h4 : 0 ≤ n % 4 := Int.emod_nonneg _ (by decide)
  have h4' : n % 4 < 4 := Int.emod_lt_of_pos _ (by decide)
  have fin : ∀ s : Int, s = (if n % 8 < 4 then 1 else -1) → (∃ e, (([.f (.int n), .o (.lst [.int 0, .int 0, .int 0, .int 0])] : List Sl)[1]?) = some (.o e)) ∧ ∃ ds j k, (([.f (.int n), .o (.lst [.int 0, .int 0, .int 0, .int 0])] : List Sl)[1]?) = some (.o (.lst ds)) ∧ D.int (Builtin.bitAnd n 3) = .int j ∧ ixN ds.length j = some k ∧
      w_root_2 (Fi R) ⟨[.f (.int n), .o (.lst (ds.set k (.int s)))], h⟩ := fun s hs => by
    refine ⟨⟨_, rfl⟩, [.int 0, .int 0, .int 0, .int 0], n % 4, (n % 4).toNat, rfl, by rw [bitAnd_m2], ?_, ?_⟩
    · unfold ixN
      rw [if_pos h4, if_pos (by exact h4')]
    · have hc : n % 4 = 0 ∨ n % 4 = 1 ∨ n % 4 = 2 ∨ n % 4 = 3 := by omega
      unfold rt at hR
      simp only [← hs] at hR
      rcases hc with e | e | e | e
      all_goals
        rw [e] at hR ⊢
        exact ⟨⟨_, rfl⟩, _, rfl, _, rfl, ⟨_, rfl⟩, _, rfl, _, rfl, ⟨_, rfl⟩, _, rfl, _, rfl, ⟨_, rfl⟩, _, rfl, _, rfl, hR⟩
  have e4 : Builtin.bitAnd n 4 = n / 4 % 2 * 4 := PySem.W.kbt_bit n 2
  refine br (fun e => ?_) (fun e => ?_)
  · rw [beq_iff_eq, e4] at e
    exact fin 1 (by rw [if_pos (by omega)])
  · have e' : ¬ Builtin.bitAnd n 4 = 0 := by simpa using e
    rw [e4] at e'
    exact fin (-1) (by rw [if_neg (by omega)])
theorem pk_total : Pk 1 2 sp_total w_total := by
  rintro ds h R _ ⟨xs, rfl, hR⟩
  have go : ∀ (ys : List Nm) (z : Nm) (t : Sl), R (ys.foldl pls z).e h → wForL (gVar 2) w_total_b1 { Fi R with nx := w_total_2 (Fi R) } (ys.map Nm.e) ⟨[.f (.lst (xs.map Nm.e)), .f z.e, t], h⟩ := fun ys => by
    induction ys with
    | nil =>
      intro z t hR
      exact hR
    | cons y ys ih =>
      intro z t hR
      exact ⟨z, y, rfl, ih (pls z y) _ hR⟩
  exact go xs ⟨zq, 0⟩ .u hR
/-! ### the law's own defs -/
end VL.N

set_option Elab.async false
set_option linter.all false
set_option maxRecDepth 100000
set_option maxHeartbeats 1000000
/-! VN10: states walked -/
namespace VL.N
open PySem PySem.Spec PyProof.Rows L2 VL VL.P Q8
/-! ### tools -/
theorem lcM {g : WG} {tt : WT} {te : WE} {vs : List Nat} {s0 : List Sl} {R : List D → Oh → Prop} {h : Oh} {α : Type} {f : α → D} {e : α → D} : ∀ {rs : List α} {acc : List D},
    (∀ t ∈ rs, ∀ C : Option D → Oh → Prop, C (some (e t)) h → g (f t) ⟨wipeS s0 vs, h⟩ fun S1 => tt S1 fun b S2 => Br b (te S2 fun d S3 => wipeS S3.s vs = wipeS s0 vs ∧ C (some d) S3.h) (wipeS S2.s vs = wipeS s0 vs ∧ C none S2.h)) →
    R (acc ++ rs.map e) h → wLcL g tt te vs s0 R (rs.map f) h acc
  | [], acc, _, hR => by rw [List.map_nil, List.append_nil] at hR; exact hR
  | x :: xs, acc, hs, hR => by
    refine hs x List.mem_cons_self (fun o h' => wLcL g tt te vs s0 R (xs.map f) h' (match o with | some d => acc ++ [d] | none => acc)) ?_
    refine lcM (fun t ht => hs t (List.mem_cons_of_mem _ ht)) ?_
    rw [List.append_assoc]
    exact hR
/-- a for over range(N), with an invariant -/
theorem rloop {i : Nat} {tb : WS} {T : We} {N : Nat} (P : Nat → Sg → Prop) (hs : ∀ (k : Nat) (S : Sg) (T' : We), k < N → P k S → (∀ S', P (k + 1) S' → T'.nx S') → tb T' (S.st i (.f (.int (k : Nat))))) (he : ∀ S, P N S → T.nx S) {S : Sg} (h0 : P 0 S) :
    wForL (gVar i) tb T ((List.range N).map fun k => .int (k : Nat)) S := by
  have go : ∀ (m k : Nat) (S : Sg), k + m = N → P k S → wForL (gVar i) tb T ((List.range' k m).map fun k => .int (k : Nat)) S := fun m => by
    induction m with
    | zero =>
      intro k S e p
      have : k = N := by omega
      subst this
      exact he S p
    | succ m ih =>
      intro k S e p
      exact hs k S _ (by omega) p fun S' p' => ih (k + 1) S' (by omega) p'
  rw [List.range_eq_range']
  exact go N 0 S (by omega) h0
theorem st_at {s : List Nm} {k : Nat} (h : k < s.length) : atI (s.map Nm.e) (k : Int) = some (at0 s k).e := by
  unfold atI ixN
  rw [if_pos (Int.natCast_nonneg k), if_pos (by rw [List.length_map]; omega)]
  show (s.map Nm.e)[k]? = _
  rw [List.getElem?_map, List.getElem?_eq_getElem h]
  unfold at0
  rw [List.getD_eq_getElem?_getD, List.getElem?_eq_getElem h]
  rfl
theorem n15 {n : Nat} (h : n ≤ 15) : 2 ^ n ≤ 32768 := Nat.pow_le_pow_right (show 0 < 2 by decide) h
theorem tab_len (m : Nat) (F : Nat → Nm) : (tabL m F).length = m := by unfold tabL; rw [List.length_map, List.length_range]
theorem tab_succ (m : Nat) (F : Nat → Nm) : tabL (m + 1) F = tabL m F ++ [F m] := by unfold tabL; rw [List.range_succ, List.map_append]; rfl
theorem tab_D (m : Nat) (F : Nat → Nm) : stD (tabL m F) = .lst ((List.range m).map fun k => (F k).e) := by
  unfold stD tabL
  rw [List.map_map]
  rfl
theorem shl_one {q : Nat} (h : q ≤ 1000) : CShl 1 (q : Int) := shl_ok (n := 1) (by decide) (by omega)
theorem shl_v (q : Nat) : (1 : Int) * 2 ^ ((q : Int)).toNat = ((2 ^ q : Nat) : Int) := by rw [Int.one_mul]; exact_mod_cast rfl
/-! ### bits -/
theorem and_pow (k q : Nat) : k &&& 2 ^ q = if k.testBit q then 2 ^ q else 0 := Nat.eq_of_testBit_eq fun j => by
  rw [Nat.testBit_and, Nat.testBit_two_pow]
  by_cases h : q = j
  · subst h
    rw [decide_eq_true rfl, Bool.and_true]
    cases k.testBit q with
    | true => rw [if_pos rfl, Nat.testBit_two_pow_self]
    | false => rw [if_neg (by decide), Nat.zero_testBit]
  · rw [decide_eq_false h, Bool.and_false]
    split
    · rw [Nat.testBit_two_pow, decide_eq_false h]
    · rw [Nat.zero_testBit]
def lo (k q : Nat) : Nat := if k.testBit q then k ^^^ 2 ^ q else k
def hi (k q : Nat) : Nat := if k.testBit q then k else k ^^^ 2 ^ q
theorem xor_pow (k q : Nat) : k ^^^ 2 ^ q = if k.testBit q then k - 2 ^ q else k + 2 ^ q := by
  have o := or_xor_and k (2 ^ q)
  have x := pc_xor k (2 ^ q)
  rw [and_pow] at o
  by_cases c : k.testBit q = true
  · rw [if_pos c] at o ⊢
    have e : k ||| 2 ^ q = k := Nat.eq_of_testBit_eq fun j => by
      rw [Nat.testBit_or, Nat.testBit_two_pow]
      by_cases h : q = j
      · subst h; rw [c]; rfl
      · rw [decide_eq_false h, Bool.or_false]
    rw [e] at o
    omega
  · rw [if_neg c] at o ⊢
    have e : k ||| 2 ^ q = k + 2 ^ q := by
      have a1 : (k ^^^ 2 ^ q) &&& 2 ^ q = 2 ^ q := by
        rw [and_pow, tb_same, if_pos (by simpa using c)]
      have o2 := or_xor_and (k ^^^ 2 ^ q) (2 ^ q)
      rw [xx, a1] at o2
      have e3 : (k ^^^ 2 ^ q) ||| 2 ^ q = k ^^^ 2 ^ q := Nat.eq_of_testBit_eq fun j => by
        rw [Nat.testBit_or, Nat.testBit_two_pow]
        by_cases h : q = j
        · subst h; rw [decide_eq_true rfl, Bool.or_true, tb_same]; simpa using c
        · rw [decide_eq_false h, Bool.or_false]
      rw [e3] at o2
      omega
    omega
theorem low_bit (k q : Nat) : Builtin.bitAnd (k : Int) (Builtin.bitNot ((2 ^ q : Nat) : Int)) = ((lo k q : Nat) : Int) := by
  have ng : ¬ 0 ≤ Builtin.bitNot ((2 ^ q : Nat) : Int) := by
    unfold Builtin.bitNot
    generalize 2 ^ q = m
    omega
  unfold Builtin.bitAnd
  rw [decide_eq_true (Int.natCast_nonneg k), decide_eq_false ng]
  show (k : Int) - ((((k : Int).toNat) &&& (Builtin.bitNot (Builtin.bitNot ((2 ^ q : Nat) : Int))).toNat : Nat) : Int) = _
  rw [bnot_bnot, Int.toNat_natCast, Int.toNat_natCast, and_pow]
  unfold lo
  rw [xor_pow]
  by_cases c : k.testBit q = true
  · rw [if_pos c, if_pos c, if_pos c]
    have : 2 ^ q ≤ k := Nat.ge_two_pow_of_testBit c
    omega
  · rw [if_neg c, if_neg c]; omega
theorem high_bit (k q : Nat) : Builtin.bitOr (k : Int) ((2 ^ q : Nat) : Int) = ((hi k q : Nat) : Int) := by
  rw [or_nn]
  congr 1
  have o := or_xor_and k (2 ^ q)
  rw [and_pow] at o
  unfold hi
  rw [o, xor_pow]
  by_cases c : k.testBit q = true
  · rw [if_pos c, if_pos c, if_pos c]
    have : 2 ^ q ≤ k := Nat.ge_two_pow_of_testBit c
    omega
  · rw [if_neg c, if_neg c, if_neg c]; omega
theorem bit_zero (k q : Nat) : (Builtin.bitAnd (k : Int) ((2 ^ q : Nat) : Int) == 0) = !k.testBit q := by
  rw [and_nn, and_pow]
  have := Nat.two_pow_pos q
  cases k.testBit q with
  | true =>
    rw [if_pos rfl]
    show (((2 ^ q : Nat) : Int) == 0) = false
    rw [beq_eq_false_iff_ne]
    omega
  | false => rfl
theorem bit_ne (k q : Nat) : (Builtin.bitAnd (k : Int) ((2 ^ q : Nat) : Int) != 0) = k.testBit q := by
  unfold bne
  rw [bit_zero, Bool.not_not]
theorem div_bit (k q : Nat) : ((k : Int) / ((2 ^ q : Nat) : Int)) % 2 = (((k.testBit q).toNat : Nat) : Int) := by
  have e : (k.testBit q).toNat = k / 2 ^ q % 2 := by
    rw [Nat.testBit_eq_decide_div_mod_eq]
    rcases m2 _ (Nat.mod_lt (k / 2 ^ q) (show 0 < 2 by decide)) with z | z <;> rw [z] <;> rfl
  rw [e]
  exact_mod_cast rfl
theorem lo_lt {k q n : Nat} (hk : k < 2 ^ n) (hq : q < n) : lo k q < 2 ^ n := by
  unfold lo
  split
  · exact xor_lt hk (Nat.pow_lt_pow_right (by decide) hq)
  · exact hk
theorem hi_lt {k q n : Nat} (hk : k < 2 ^ n) (hq : q < n) : hi k q < 2 ^ n := by
  unfold hi
  split
  · exact hk
  · exact xor_lt hk (Nat.pow_lt_pow_right (by decide) hq)
theorem fl_out {k q n : Nat} (hk : ¬ k < 2 ^ n) (hq : q < n) : ¬ k ^^^ 2 ^ q < 2 ^ n := fun z => hk (by
  have := xor_lt z (Nat.pow_lt_pow_right (a := 2) (by decide) hq)
  rwa [xx] at this)
theorem xor_out {k x n : Nat} (hk : ¬ k < 2 ^ n) (hx : x < 2 ^ n) : ¬ k ^^^ x < 2 ^ n := fun z => hk (by
  have := xor_lt z hx
  rwa [xx] at this)
theorem op1_out {n c K : Nat} {s : List Nm} (hs : St n c K s) {q : Nat} (hq : q < n) (a b d e : Q8) {k : Nat} (hk : ¬ k < 2 ^ n) : op1 a b d e q (vec s) k = 0 := by
  unfold op1
  rw [vec_out hs hk, vec_out hs (fl_out hk hq)]
  split <;> grind
theorem act_out {n c K : Nat} {s : List Nm} (hs : St n c K s) {p : Pa} (hx : p.x < 2 ^ n) {k : Nat} (hk : ¬ k < 2 ^ n) : act p (vec s) k = 0 := by
  unfold act
  rw [vec_out hs (xor_out hk hx), mul_zero]
/-! ### walks -/
theorem pk_ones_states : Pk 1 1 sp_ones_states w_ones_states := by
  rintro ds h R _ ⟨n, rfl, hR⟩
  refine ⟨pc n + 1, ?_⟩
  have loop : ∀ (k n c : Nat), pc n = k → R (.int ((c + k : Nat) : Int)) h → wWhN w_ones_states_t1 w_ones_states_b1 { Fi R with nx := w_ones_states_2 (Fi R) } (k + 1) ⟨[.f (.int n), .f (.int c)], h⟩ := fun k => by
    induction k with
    | zero =>
      intro n c e hR
      have : n = 0 := by
        rcases Nat.eq_zero_or_pos n with q | q
        · exact q
        · have := pc_pred n q
          omega
      subst this
      exact whn (brF rfl hR)
    | succ k ih =>
      intro n c e hR
      have hn : 0 < n := by
        rcases Nat.eq_zero_or_pos n with q | q
        · subst q
          rw [pc_zero] at e
          omega
        · exact q
      have hp := pc_pred n hn
      refine whn (brT (decide_eq_true (p := (0 : Int) < (n : Int)) (by omega)) ?_)
      have e1 : Builtin.bitAnd (n : Int) ((n : Int) - 1) = ((n &&& (n - 1) : Nat) : Int) := by
        rw [show (n : Int) - 1 = ((n - 1 : Nat) : Int) by omega, and_nn]
      have x := ih (n &&& (n - 1)) (c + 1) (by omega) (by rw [show c + 1 + k = c + (k + 1) by omega]; exact hR)
      rw [← e1] at x
      exact x
  exact loop (pc n) n 0 rfl (by rw [Nat.zero_add]; exact hR)
theorem zerosF : ∀ m : Nat, [o1.e] ++ List.replicate m z0.e = (tabL (m + 1) fun k => if k = 0 then o1 else z0).map Nm.e := fun m => by
  unfold tabL
  rw [List.range_succ_eq_map, List.map_cons, List.map_cons, List.map_map, List.map_map]
  show o1.e :: List.replicate m z0.e = o1.e :: _
  congr 1
  refine (List.eq_replicate_iff.mpr ⟨by rw [List.length_map, List.length_range], fun d hd => ?_⟩).symm
  obtain ⟨k, _, rfl⟩ := List.mem_map.mp hd
  rfl
theorem flat1 (m : Nat) (d : D) : (List.replicate m [d]).flatten = List.replicate m d := by
  induction m with
  | zero => rfl
  | succ m ih =>
    rw [List.replicate_succ, List.flatten_cons, ih, List.replicate_succ]
    rfl
theorem pk_zeros : Pk 1 0 sp_zeros w_zeros := by
  rintro ds h R _ ⟨m, rfl, hm, hR⟩
  have b := n15 hm
  have p := Nat.two_pow_pos m
  have hz : (1000000 : Nat) < sizeLine := by decide
  have e1 : ((1 : Int) * 2 ^ ((m : Int)).toNat - 1).toNat = 2 ^ m - 1 := by rw [shl_v]; omega
  have st : St m 0 0 (tabL (2 ^ m) fun k => if k = 0 then o1 else z0) := tab_st fun k _ => by
    split
    · exact Num.o1 0 0
    · exact Num.z0 0 0
  have sv : vec (tabL (2 ^ m) fun k => if k = 0 then o1 else z0) = dl := tab_vec (fun k _ => by
    unfold dl
    by_cases c : k = 0
    · rw [if_pos c, if_pos c]; exact val_o1
    · rw [if_neg c, if_neg c]; exact val_z0) (fun k hk => by unfold dl; rw [if_neg (by omega)])
  have hR' := hR _ st sv
  refine ⟨shl_one (by omega), by rw [shl_v]; omega, by rw [shl_v]; omega, ?_, ?_⟩
  · rw [e1]
    show 1 * (2 ^ m - 1) ≤ sizeLine
    omega
  · rw [e1, flat1]
    refine ⟨?_, ?_⟩
    · rw [List.length_replicate]
      show 1 + (2 ^ m - 1) ≤ sizeLine
      omega
    · have e : [k_ONE] ++ List.replicate (2 ^ m - 1) k_ZERO = ((tabL (2 ^ m) fun k => if k = 0 then o1 else z0).map Nm.e) := by
        have := zerosF (2 ^ m - 1)
        rw [show 2 ^ m - 1 + 1 = 2 ^ m by omega] at this
        exact this
      rw [e]
      exact hR'
theorem rootNum : Sz 0 1 r1 := ⟨by decide, by decide, by decide⟩
theorem val_r1 : val r1 = Q8.h := by apply Q8.ext <;> decide +kernel
theorem val_n1 : val n1 = -Q8.h := by apply Q8.ext <;> decide +kernel
theorem val_hf : val hf2n = hf := by apply Q8.ext <;> decide +kernel
theorem pk_mixed : Pk 2 4 sp_mixed w_mixed := by
  rintro ds h R _ ⟨n, c, K, s, q, rfl, hs, hn, hcK, hq, hR⟩
  have b := n15 hn
  have hz : (1000000 : Nat) < sizeLine := by decide
  have lp : s.length = 2 ^ n := hs.len
  let F : Nat → Nm := fun k => tms r1 (if k.testBit q then pls (at0 s (lo k q)) (ngt (at0 s (hi k q))) else pls (at0 s (lo k q)) (at0 s (hi k q)))
  have hF : ∀ k, F k = tms r1 (if k.testBit q then pls (at0 s (lo k q)) (ngt (at0 s (hi k q))) else pls (at0 s (lo k q)) (at0 s (hi k q))) := fun _ => rfl
  have nF : ∀ k, Num (c + 2) K (if k.testBit q then pls (at0 s (lo k q)) (ngt (at0 s (hi k q))) else pls (at0 s (lo k q)) (at0 s (hi k q))) := fun k => by
    split
    · exact (at0_num hs _).pls (at0_num hs _).ngt
    · exact (at0_num hs _).pls (at0_num hs _)
  have st : St n (c + 4) (K + 1) (tabL (2 ^ n) F) := tab_st fun k _ => (Num.tms rootNum (nF k).sz).mono (by omega) (by omega)
  have sv : vec (tabL (2 ^ n) F) = gH q (vec s) := tab_vec (fun k _ => by
    rw [hF, val_tms rootNum.k0 (nF k).sz.k0, val_r1]
    have a1 := (at0_num hs (lo k q)).sz.k0
    have a2 := (at0_num hs (hi k q)).sz.k0
    have a3 := (at0_num hs (hi k q)).ngt.sz.k0
    unfold gH op1 vec
    by_cases c : k.testBit q = true
    · rw [if_pos c, if_pos c, val_pls a1 a3, val_ngt]
      unfold lo hi
      rw [if_pos c, if_pos c]
      grind
    · rw [if_neg c, if_neg c, val_pls a1 a2]
      unfold lo hi
      rw [if_neg c, if_neg c]
      grind) (fun k hk => op1_out hs hq _ _ _ _ hk)
  refine ⟨by rw [List.length_map, lp]; omega, ?_⟩
  rw [show ((s.map Nm.e).length : Int).toNat = 2 ^ n by rw [Int.toNat_natCast, List.length_map, lp]]
  refine rloop (T := { Fi R with nx := w_mixed_2 (Fi R) }) (fun k S => ∃ s3 s4 s5, S = ⟨[.f (stD s), .f (.int (2 ^ q : Nat)), .o (stD (tabL k F)), s3, s4, s5], h⟩) ?_ ?_ ⟨.u, .u, .u, rfl⟩
  · rintro k _ T' hk ⟨s3, s4, s5, rfl⟩ hnx
    have a1 : atI (s.map Nm.e) (Builtin.bitAnd (k : Int) (Builtin.bitNot ((2 ^ q : Nat) : Int))) = some (at0 s (lo k q)).e := by rw [low_bit]; exact st_at (by rw [lp]; exact lo_lt hk hq)
    have a2 : atI (s.map Nm.e) (Builtin.bitOr (k : Int) ((2 ^ q : Nat) : Int)) = some (at0 s (hi k q)).e := by rw [high_bit]; exact st_at (by rw [lp]; exact hi_lt hk hq)
    refine ⟨_, a1, _, a2, ⟨_, rfl⟩, ?_⟩
    have fin : ∀ z : Nm, Num (c + 2) K z → tms r1 z = F k → sp_times [k_ROOT, z.e] h (fun d h' => ∃ ds, ([.f (stD s), .f (.int (2 ^ q : Nat)), .o (stD (tabL k F)), .f (.int (k : Nat)), .f (at0 s (lo k q)).e, .f (at0 s (hi k q)).e] : List Sl)[2]? = some (.o (.lst ds)) ∧ ds.length < sizeLine ∧ T'.nx (Sg.st ⟨[.f (stD s), .f (.int (2 ^ q : Nat)), .o (stD (tabL k F)), .f (.int (k : Nat)), .f (at0 s (lo k q)).e, .f (at0 s (hi k q)).e], h'⟩ 2 (.o (.lst (ds ++ [d]))))) NX := fun z nz ez => by
      refine ⟨r1, z, rfl, (rootNum.bd (m := 4000) (by omega)), (nz.sz.bd (m := 4000) (by omega)), _, rfl, ?_, ?_⟩
      · rw [List.length_map, tab_len]
        omega
      · refine hnx _ ⟨.f (.int (k : Nat)), .f (at0 s (lo k q)).e, .f (at0 s (hi k q)).e, ?_⟩
        rw [tab_succ]
        unfold stD
        rw [List.map_append, ez]
        rfl
    refine br (fun e => ?_) (fun e => ?_)
    · have e : (Builtin.bitAnd (k : Int) ((2 ^ q : Nat) : Int) == 0) = true := e
      rw [bit_zero] at e
      have e' : ¬ k.testBit q = true := by simpa using e
      exact ⟨at0 s (lo k q), at0 s (hi k q), rfl, fin _ ((at0_num hs _).pls (at0_num hs _)) (by rw [hF, if_neg e'])⟩
    · have e : (Builtin.bitAnd (k : Int) ((2 ^ q : Nat) : Int) == 0) = false := e
      rw [bit_zero] at e
      have e' : k.testBit q = true := by simpa using e
      exact ⟨at0 s (lo k q), at0 s (hi k q), rfl, fin _ ((at0_num hs _).pls (at0_num hs _).ngt) (by rw [hF, if_pos e'])⟩
  · rintro _ ⟨s3, s4, s5, rfl⟩
    exact hR _ st sv
end VL.N

set_option Elab.async false
set_option linter.all false
set_option maxRecDepth 100000
set_option maxHeartbeats 1000000
/-! VN11: gates, Paulis, means walked -/
namespace VL.N
open PySem PySem.Spec PyProof.Rows L2 VL VL.P Q8
theorem tabR {R : D → Oh → Prop} {h : Oh} {m : Nat} {F : Nat → Nm} (hR : R (stD (tabL m F)) h) : R (.lst ([] ++ (List.range m).map fun k => (F k).e)) h := by
  rw [List.nil_append, ← tab_D]
  exact hR
def gsl (s : List Nm) (nm : Str) (qs : List D) (bit n : Nat) (f o i : Sl) (h : Oh) : Sg := ⟨[.f (stD s), .f (.str nm), .f (.tup qs), .f (.int bit), .f (.rng n), f, o, i], h⟩
section
variable {R : D → Oh → Prop} {Y : XC} {h : Oh} {n c K : Nat} {s : List Nm} {q t : Nat} {nm : Str} {qs : List D} {f o i : Sl}
/-- the list that a comprehension over every gives -/
theorem over {te : WE} {T : We} (hs : St n c K s) (hn : n ≤ 15) (F : Nat → Nm) (hf : noOwn [.f (stD s), .f (.str nm), .f (.tup qs), .f (.int (2 ^ q : Nat)), .f (.rng (2 ^ n)), f, o, i] [7] = true)
    (step : ∀ k, k < 2 ^ n → ∀ C : D → Oh → Prop, C (F k).e h → te ⟨wipeS [.f (stD s), .f (.str nm), .f (.tup qs), .f (.int (2 ^ q : Nat)), .f (.rng (2 ^ n)), f, o, .f (.int (k : Nat))] [], h⟩ fun d S3 => wipeS S3.s [7] = [.f (stD s), .f (.str nm), .f (.tup qs), .f (.int (2 ^ q : Nat)), .f (.rng (2 ^ n)), f, o, .u] ∧ C d S3.h)
    (hR : T.rt (stD (tabL (2 ^ n) F)) (gsl s nm qs (2 ^ q) (2 ^ n) f o i h)) : wRet (wLc (wItR (wVar 4)) (gVar 7) wYes te [7]) T (gsl s nm qs (2 ^ q) (2 ^ n) f o i h) := by
  have b := n15 hn
  refine ⟨hf, by rw [List.length_map, List.length_range]; omega, ?_⟩
  refine lcM (f := fun k : Nat => D.int (k : Nat)) (e := fun k => (F k).e) (fun k hk C hC => ?_) ?_
  · refine brT rfl ?_
    exact step k (List.mem_range.mp hk) (fun d h' => C (some d) h') hC
  · exact tabR (R := fun d h' => T.rt d (gsl s nm qs (2 ^ q) (2 ^ n) f o i h')) hR
/-! ### what each gate's list is worth -/
theorem fac_num (hs : St n c K s) (m q : Nat) (k : Nat) : Num (c + 4) (K + 1) (if k.testBit q then tms (rt (m : Nat)) (at0 s k) else at0 s k) := by
  split
  · exact (Num.tms (Sz.rt _) (at0_num hs k).sz).mono (by omega) (by omega)
  · exact (at0_num hs k).mono (by omega) (by omega)
theorem fac_val (hs : St n c K s) (m q : Nat) (k : Nat) : val (if k.testBit q then tms (rt (m : Nat)) (at0 s k) else at0 s k) = gF m q (vec s) k := by
  unfold gF op1 vec
  by_cases e : k.testBit q = true
  · rw [if_pos e, if_pos e, val_tms (Int.le_refl _) (at0_num hs k).sz.k0, val_rt]
    grind
  · rw [if_neg e, if_neg e]
    grind
theorem gZ_F (q : Nat) (f : Vc) : gZ q f = gF 4 q f := rfl
theorem x_val (hs : St n c K s) (q k : Nat) : val (at0 s (k ^^^ 2 ^ q)) = gX q (vec s) k := by
  unfold gX op1 vec
  split <;> grind
theorem y_val (hs : St n c K s) (q k : Nat) : val (tms (rt ((if k.testBit q then 2 else 6 : Nat) : Nat)) (at0 s (k ^^^ 2 ^ q))) = gY q (vec s) k := by
  rw [val_tms (Int.le_refl _) (at0_num hs _).sz.k0, val_rt]
  unfold gY op1 vec
  split <;> grind
theorem cx_val (hs : St n c K s) (q t k : Nat) : val (at0 s (if k.testBit q then k ^^^ 2 ^ t else k)) = gCX q t (vec s) k := by
  unfold gCX ctl gX op1 vec
  by_cases e : k.testBit q = true
  · rw [if_pos e, if_pos e]
    split <;> grind
  · rw [if_neg e, if_neg e]
theorem cz_val (hs : St n c K s) (q t k : Nat) : val (if k.testBit q && k.testBit t then ngt (at0 s k) else at0 s k) = gCZ q t (vec s) k := by
  unfold gCZ ctl gZ op1 vec
  rw [ph4]
  cases k.testBit q <;> cases k.testBit t <;> simp only [Bool.and_true, Bool.and_false, Bool.true_and, Bool.false_and, if_true, if_false, Bool.false_eq_true, val_ngt] <;> grind
end
section
variable {R : D → Oh → Prop} {Y : XC} {h : Oh} {n : Nat} {s : List Nm} {q : Nat} {nm : Str} {qs : List D}
theorem a23 (ok : inOk (.str nm) [.str "CX", .str "CZ"] = true) (e : inD (.str nm) [.str "CX", .str "CZ"] = false) (hh : w_gate_3 (FiX R Y) (gsl s nm qs (2 ^ q) (2 ^ n) .u .u .u h)) : w_gate_2 (FiX R Y) (gsl s nm qs (2 ^ q) (2 ^ n) .u .u .u h) := ⟨ok, brF e hh⟩
theorem a34 (e : (nm == ("H" : Str)) = false) (hh : w_gate_4 (FiX R Y) (gsl s nm qs (2 ^ q) (2 ^ n) .u .u .u h)) : w_gate_3 (FiX R Y) (gsl s nm qs (2 ^ q) (2 ^ n) .u .u .u h) := brF e hh
theorem a45 (e : (nm == ("X" : Str)) = false) (hh : w_gate_5 (FiX R Y) (gsl s nm qs (2 ^ q) (2 ^ n) .u .u .u h)) : w_gate_4 (FiX R Y) (gsl s nm qs (2 ^ q) (2 ^ n) .u .u .u h) := brF e hh
theorem a56 (e : (nm == ("Y" : Str)) = false) (hh : w_gate_6 (FiX R Y) (gsl s nm qs (2 ^ q) (2 ^ n) .u .u .u h)) : w_gate_5 (FiX R Y) (gsl s nm qs (2 ^ q) (2 ^ n) .u .u .u h) := brF e hh
end
theorem gate_fact {R : D → Oh → Prop} {Y : XC} {h : Oh} {n c K : Nat} {s : List Nm} {q : Nat} (hs : St n c K s) (hn : n ≤ 15) (hcK : c + K ≤ 3000) (hq : q < n) {nm : Str} (m : Nat)
    (k : ∀ s', St n (c + 4) (K + 1) s' → vec s' = gF m q (vec s) → R (stD s') h) : w_gate_8 (FiX R Y) (gsl s nm [.int q] (2 ^ q) (2 ^ n) (.f (rt (m : Nat)).e) .u .u h) := by
  have b := n15 hn
  have lp : s.length = 2 ^ n := hs.len
  have hz : (1000000 : Nat) < sizeLine := by decide
  have st : St n (c + 4) (K + 1) (tabL (2 ^ n) fun k => if k.testBit q then tms (rt (m : Nat)) (at0 s k) else at0 s k) := tab_st fun k _ => fac_num hs m q k
  have sv : vec (tabL (2 ^ n) fun k => if k.testBit q then tms (rt (m : Nat)) (at0 s k) else at0 s k) = gF m q (vec s) := tab_vec (fun k _ => fac_val hs m q k) (fun k hk => op1_out hs hq _ _ _ _ hk)
  refine over (nm := nm) (qs := [.int q]) (q := q) hs hn (fun k => if k.testBit q then tms (rt (m : Nat)) (at0 s k) else at0 s k) rfl (fun k hk C hC => ?_) (k _ st sv)
  have a : atI (s.map Nm.e) (k : Int) = some (at0 s k).e := st_at (by omega)
  refine br (fun e => ?_) (fun e => ?_)
  · rw [bit_ne] at e
    rw [if_pos e] at hC
    exact ⟨_, a, rt (m : Nat), at0 s k, rfl, (Sz.rt (m : Nat)).bd (by decide), (at0_num hs k).sz.bd (by omega), rfl, hC⟩
  · rw [bit_ne] at e
    rw [if_neg (by rw [e]; decide)] at hC
    exact ⟨_, a, rfl, hC⟩
theorem gate_H {R : D → Oh → Prop} {Y : XC} {h : Oh} {n c K : Nat} {s : List Nm} {q : Nat} (hs : St n c K s) (hn : n ≤ 15) (hcK : c + K ≤ 3000) (hq : q < n)
    (hR : ∀ s', St n (c + 4) (K + 1) s' → vec s' = gH q (vec s) → R (stD s') h) : w_gate_2 (FiX R Y) (gsl s G1.H.nm [.int q] (2 ^ q) (2 ^ n) .u .u .u h) := by
  have b := n15 hn
  have lp : s.length = 2 ^ n := hs.len
  have hz : (1000000 : Nat) < sizeLine := by decide
  refine a23 rfl rfl ?_
  refine brT rfl ?_
  exact ⟨n, c, K, s, q, rfl, hs, hn, hcK, hq, hR⟩
theorem gate_X {R : D → Oh → Prop} {Y : XC} {h : Oh} {n c K : Nat} {s : List Nm} {q : Nat} (hs : St n c K s) (hn : n ≤ 15) (hcK : c + K ≤ 3000) (hq : q < n)
    (hR : ∀ s', St n (c + 4) (K + 1) s' → vec s' = gX q (vec s) → R (stD s') h) : w_gate_2 (FiX R Y) (gsl s G1.X.nm [.int q] (2 ^ q) (2 ^ n) .u .u .u h) := by
  have b := n15 hn
  have lp : s.length = 2 ^ n := hs.len
  have hz : (1000000 : Nat) < sizeLine := by decide
  refine a23 rfl rfl (a34 rfl ?_)
  refine brT rfl ?_
  refine over (nm := G1.X.nm) (qs := [.int q]) (q := q) hs hn (fun k => at0 s (k ^^^ 2 ^ q)) rfl (fun k hk C hC => ?_) ?_
  · have hx := xor_lt hk (Nat.pow_lt_pow_right (a := 2) (by decide) hq)
    have a : atI (s.map Nm.e) (Builtin.bitXor (k : Int) ((2 ^ q : Nat) : Int)) = some (at0 s (k ^^^ 2 ^ q)).e := by rw [xor_nn]; exact st_at (by omega)
    exact ⟨_, a, rfl, hC⟩
  · exact hR _ (tab_st fun k _ => (at0_num hs _).mono (by omega) (by omega)) (tab_vec (fun k _ => x_val hs q k) (fun k hk => op1_out hs hq _ _ _ _ hk))
theorem gate_Y {R : D → Oh → Prop} {Y : XC} {h : Oh} {n c K : Nat} {s : List Nm} {q : Nat} (hs : St n c K s) (hn : n ≤ 15) (hcK : c + K ≤ 3000) (hq : q < n)
    (hR : ∀ s', St n (c + 4) (K + 1) s' → vec s' = gY q (vec s) → R (stD s') h) : w_gate_2 (FiX R Y) (gsl s G1.Y.nm [.int q] (2 ^ q) (2 ^ n) .u .u .u h) := by
  have b := n15 hn
  have lp : s.length = 2 ^ n := hs.len
  have hz : (1000000 : Nat) < sizeLine := by decide
  refine a23 rfl rfl (a34 rfl (a45 rfl ?_))
  refine brT rfl ?_
  refine over (nm := G1.Y.nm) (qs := [.int q]) (q := q) hs hn (fun k => tms (rt ((if k.testBit q then 2 else 6 : Nat) : Nat)) (at0 s (k ^^^ 2 ^ q))) rfl (fun k hk C hC => ?_) ?_
  · have hx := xor_lt hk (Nat.pow_lt_pow_right (a := 2) (by decide) hq)
    have a : atI (s.map Nm.e) (Builtin.bitXor (k : Int) ((2 ^ q : Nat) : Int)) = some (at0 s (k ^^^ 2 ^ q)).e := by rw [xor_nn]; exact st_at (by omega)
    have fin : ∀ m : Nat, (m = if k.testBit q then 2 else 6) → ∃ n', [D.int (m : Nat)] = [.int n'] ∧ ∃ d, atI (s.map Nm.e) (Builtin.bitXor (k : Int) ((2 ^ q : Nat) : Int)) = some d ∧ ∃ x y, [(rt n').e, d] = [Nm.e x, Nm.e y] ∧ Bd 4000 x.q ∧ Bd 4000 y.q ∧ (wipeS [.f (stD s), .f (.str G1.Y.nm), .f (.tup [.int q]), .f (.int (2 ^ q : Nat)), .f (.rng (2 ^ n)), .u, .u, .f (.int (k : Nat))] [7] = [.f (stD s), .f (.str G1.Y.nm), .f (.tup [.int q]), .f (.int (2 ^ q : Nat)), .f (.rng (2 ^ n)), .u, .u, .u] ∧ C (tms x y).e h) := fun m hm =>
      ⟨m, rfl, _, a, rt (m : Nat), at0 s (k ^^^ 2 ^ q), rfl, (Sz.rt (m : Nat)).bd (by decide), (at0_num hs _).sz.bd (by omega), rfl, by rw [hm]; exact hC⟩
    refine br (fun e => ?_) (fun e => ?_)
    · rw [bit_ne] at e
      exact fin 2 (by rw [if_pos e])
    · rw [bit_ne] at e
      exact fin 6 (by rw [if_neg (by rw [e]; decide)])
  · exact hR _ (tab_st fun k _ => (Num.tms (Sz.rt _) (at0_num hs _).sz).mono (by omega) (by omega)) (tab_vec (fun k _ => y_val hs q k) (fun k hk => op1_out hs hq _ _ _ _ hk))
theorem gate_fac {R : D → Oh → Prop} {Y : XC} {h : Oh} {n c K : Nat} {s : List Nm} {q : Nat} (hs : St n c K s) (hn : n ≤ 15) (hcK : c + K ≤ 3000) (hq : q < n) {g : G1} (z : g = .S ∨ g = .SI ∨ g = .Z ∨ g = .T ∨ g = .TI)
    (hR : ∀ s', St n (c + 4) (K + 1) s' → vec s' = g.op q (vec s) → R (stD s') h) : w_gate_6 (FiX R Y) (gsl s g.nm [.int q] (2 ^ q) (2 ^ n) .u .u .u h) := by
  have l : lookS k_FACTORS g.nm = some (.int (g.fc : Nat)) := by rcases z with rfl | rfl | rfl | rfl | rfl <;> rfl
  refine ⟨⟨_, l⟩, brF rfl ?_⟩
  refine ⟨_, l, (g.fc : Nat), rfl, ?_⟩
  exact gate_fact hs hn hcK hq (nm := g.nm) g.fc (by rcases z with rfl | rfl | rfl | rfl | rfl <;> exact hR)
theorem gate1 {R : D → Oh → Prop} {Y : XC} {h : Oh} {n c K : Nat} {s : List Nm} {q : Nat} {g : G1} (hs : St n c K s) (hn : n ≤ 15) (hcK : c + K ≤ 3000) (hq : q < n)
    (hR : ∀ s', St n (c + 4) (K + 1) s' → vec s' = g.op q (vec s) → R (stD s') h) : w_gate_2 (FiX R Y) (gsl s g.nm [.int q] (2 ^ q) (2 ^ n) .u .u .u h) := by
  cases g with
  | H => exact gate_H hs hn hcK hq hR
  | X => exact gate_X hs hn hcK hq hR
  | Y => exact gate_Y hs hn hcK hq hR
  | S => exact a23 rfl rfl (a34 rfl (a45 rfl (a56 rfl (gate_fac hs hn hcK hq (.inl rfl) hR))))
  | SI => exact a23 rfl rfl (a34 rfl (a45 rfl (a56 rfl (gate_fac hs hn hcK hq (.inr (.inl rfl)) hR))))
  | Z => exact a23 rfl rfl (a34 rfl (a45 rfl (a56 rfl (gate_fac hs hn hcK hq (.inr (.inr (.inl rfl))) hR))))
  | T => exact a23 rfl rfl (a34 rfl (a45 rfl (a56 rfl (gate_fac hs hn hcK hq (.inr (.inr (.inr (.inl rfl)))) hR))))
  | TI => exact a23 rfl rfl (a34 rfl (a45 rfl (a56 rfl (gate_fac hs hn hcK hq (.inr (.inr (.inr (.inr rfl)))) hR))))
theorem gate2 {R : D → Oh → Prop} {Y : XC} {h : Oh} {n c K : Nat} {s : List Nm} {q t : Nat} {g : G2} (hs : St n c K s) (hn : n ≤ 15) (hcK : c + K ≤ 3000) (hq : q < n) (ht : t < n) (ne : q ≠ t)
    (hR : ∀ s', St n (c + 4) (K + 1) s' → vec s' = g.op q t (vec s) → R (stD s') h) : w_gate_2 (FiX R Y) (gsl s g.nm [.int q, .int t] (2 ^ q) (2 ^ n) .u .u .u h) := by
  have b := n15 hn
  have lp : s.length = 2 ^ n := hs.len
  have hz : (1000000 : Nat) < sizeLine := by decide
  have sh : CShl 1 (t : Int) := shl_one (by omega)
  cases g with
  | CX =>
    refine ⟨rfl, brT rfl ?_⟩
    refine ⟨_, rfl, sh, brT rfl ?_⟩
    rw [shl_v]
    refine over (nm := G2.CX.nm) (qs := [.int q, .int t]) (q := q) (f := .u) (o := .f (.int (2 ^ t : Nat))) (i := .u) hs hn (fun k => at0 s (if k.testBit q then k ^^^ 2 ^ t else k)) rfl (fun k hk C hC => ?_) ?_
    · have hx := xor_lt hk (Nat.pow_lt_pow_right (a := 2) (by decide) ht)
      refine br (fun e => ?_) (fun e => ?_)
      · rw [bit_ne] at e
        have a : atI (s.map Nm.e) (Builtin.bitXor (k : Int) ((2 ^ t : Nat) : Int)) = some (at0 s (k ^^^ 2 ^ t)).e := by rw [xor_nn]; exact st_at (by omega)
        rw [if_pos e] at hC
        exact ⟨_, a, rfl, hC⟩
      · rw [bit_ne] at e
        have a : atI (s.map Nm.e) (k : Int) = some (at0 s k).e := st_at (by omega)
        rw [if_neg (by rw [e]; decide)] at hC
        exact ⟨_, a, rfl, hC⟩
    · refine hR _ (tab_st fun k _ => (at0_num hs _).mono (by omega) (by omega)) (tab_vec (fun k _ => cx_val hs q t k) (fun k hk => ?_))
      show (if k.testBit q then op1 0 1 1 0 t (vec s) k else vec s k) = 0
      rw [op1_out hs ht _ _ _ _ hk, vec_out hs hk]
      split <;> rfl
  | CZ =>
    refine ⟨rfl, brT rfl ?_⟩
    refine ⟨_, rfl, sh, brF rfl ?_⟩
    rw [shl_v]
    refine over (nm := G2.CZ.nm) (qs := [.int q, .int t]) (q := q) (f := .u) (o := .f (.int (2 ^ t : Nat))) (i := .u) hs hn (fun k => if k.testBit q && k.testBit t then ngt (at0 s k) else at0 s k) rfl (fun k hk C hC => ?_) ?_
    · have a : atI (s.map Nm.e) (k : Int) = some (at0 s k).e := st_at (by omega)
      refine br (fun e => ?_) (fun e => ?_)
      · rw [bit_ne] at e
        refine br (fun e2 => ?_) (fun e2 => ?_)
        · rw [bit_ne] at e2
          rw [e, e2] at hC
          exact ⟨_, a, at0 s k, rfl, rfl, hC⟩
        · rw [bit_ne] at e2
          rw [e, e2] at hC
          exact ⟨_, a, rfl, hC⟩
      · rw [bit_ne] at e
        rw [e] at hC
        exact brF rfl ⟨_, a, rfl, hC⟩
    · refine hR _ (tab_st fun k _ => ?_) (tab_vec (fun k _ => cz_val hs q t k) (fun k hk => ?_))
      · split
        · exact ((at0_num hs _).ngt).mono (by omega) (by omega)
        · exact (at0_num hs _).mono (by omega) (by omega)
      · show (if k.testBit q then op1 1 0 0 (ph 4) t (vec s) k else vec s k) = 0
        rw [op1_out hs ht _ _ _ _ hk, vec_out hs hk]
        split <;> rfl
theorem pk_gate : PkX 3 5 sp_gate w_gate := by
  rintro ds h R Y _ ⟨n, c, K, s, hs, hn, hcK, q⟩
  have b := n15 hn
  have lp : s.length = 2 ^ n := hs.len
  rcases q with ⟨g, q, rfl, hq, hR⟩ | ⟨g, q, t, rfl, hq, ht, ne, hR⟩
  · refine ⟨_, rfl, shl_one (by omega), 2 ^ n, ?_, by omega, ?_⟩
    · rw [List.length_map, lp]
    · rw [shl_v]
      exact gate1 hs hn hcK hq hR
  · refine ⟨_, rfl, shl_one (by omega), 2 ^ n, ?_, by omega, ?_⟩
    · rw [List.length_map, lp]
    · rw [shl_v]
      exact gate2 hs hn hcK hq ht ne hR
end VL.N

set_option Elab.async false
set_option linter.all false
set_option maxRecDepth 100000
set_option maxHeartbeats 1000000
/-! VN12: Paulis acting, projections, means walked -/
namespace VL.N
open PySem PySem.Spec PyProof.Rows L2 VL VL.P Q8
theorem cm2 (x : Nat) (h : x < 2 ^ 100) : CMulX 2 (x : Int) := cmul 2 100 (by decide) (by simpa using h) (by decide)
theorem cm4 (x : Nat) (h : x < 2 ^ 100) : CMulX 4 (x : Int) := cmul 3 100 (by decide) (by simpa using h) (by decide)
theorem pc_small {x n : Nat} (h : x < 2 ^ n) (hn : n ≤ 15) : pc x < 2 ^ 100 := Nat.lt_of_le_of_lt (pc_le x) (Nat.lt_of_lt_of_le h (Nat.pow_le_pow_right (by decide) (by omega)))
theorem and_lt {x z n : Nat} (h : x < 2 ^ n) : x &&& z < 2 ^ n := Nat.lt_of_le_of_lt Nat.and_le_left h
theorem pk_acted : Pk 2 8 sp_acted w_acted := by
  rintro ds h R _ ⟨n, c, K, s, p, rfl, hs, hn, hcK, hp, hR⟩
  have b := n15 hn
  have hz : (1000000 : Nat) < sizeLine := by decide
  have lp : s.length = 2 ^ n := hs.len
  have hps := hp.s
  let F : Nat → Nm := fun k => tms (rt ((2 * pc (p.x &&& p.z) + 4 * p.s + 4 * (pc ((k ^^^ p.x) &&& p.z) % 2) : Nat) : Nat)) (at0 s (k ^^^ p.x))
  have hF : ∀ k, F k = tms (rt ((2 * pc (p.x &&& p.z) + 4 * p.s + 4 * (pc ((k ^^^ p.x) &&& p.z) % 2) : Nat) : Nat)) (at0 s (k ^^^ p.x)) := fun _ => rfl
  have st : St n (c + 2) K (tabL (2 ^ n) F) := tab_st fun k _ => (Num.tms (Sz.rt _) (at0_num hs _).sz).mono (by omega) (by omega)
  have sv : vec (tabL (2 ^ n) F) = act p (vec s) := tab_vec (fun k _ => by
    rw [hF, val_tms (Int.le_refl _) (at0_num hs _).sz.k0, val_rt]
    rfl) (fun k hk => act_out hs hp.x hk)
  refine ⟨rfl, ?_⟩
  change w_acted_1 (Fi R) ⟨[.f (stD s), .f p.e, .u, .u, .u, .f (.int p.x), .f (.int p.z), .f (.int p.s), .u, .u], h⟩
  have e1 : Builtin.bitAnd (p.x : Int) (p.z : Int) = ((p.x &&& p.z : Nat) : Int) := and_nn _ _
  refine ⟨p.x &&& p.z, by rw [← e1], ?_⟩
  refine ⟨cm2 _ (pc_small (and_lt hp.x) hn), cm4 _ (by omega), ?_⟩
  have e2 : (2 : Int) * (pc (p.x &&& p.z) : Nat) + 4 * (p.s : Nat) = ((2 * pc (p.x &&& p.z) + 4 * p.s : Nat) : Int) := by omega
  change w_acted_2 (Fi R) ⟨[.f (stD s), .f p.e, .f (.int (2 * (pc (p.x &&& p.z) : Nat) + 4 * (p.s : Nat))), .u, .u, .f (.int p.x), .f (.int p.z), .f (.int p.s), .u, .u], h⟩
  rw [e2]
  change w_acted_3 (Fi R) ⟨[.f (stD s), .f p.e, .f (.int (2 * pc (p.x &&& p.z) + 4 * p.s : Nat)), .o (.lst []), .u, .f (.int p.x), .f (.int p.z), .f (.int p.s), .u, .u], h⟩
  refine ⟨by rw [List.length_map, lp]; omega, ?_⟩
  rw [show ((s.map Nm.e).length : Int).toNat = 2 ^ n by rw [Int.toNat_natCast, List.length_map, lp]]
  refine rloop (T := { Fi R with nx := w_acted_4 (Fi R) }) (fun k S => ∃ s4 s8 s9, S = ⟨[.f (stD s), .f p.e, .f (.int (2 * pc (p.x &&& p.z) + 4 * p.s : Nat)), .o (stD (tabL k F)), s4, .f (.int p.x), .f (.int p.z), .f (.int p.s), s8, s9], h⟩) ?_ ?_ ⟨.u, .u, .u, rfl⟩
  · rintro k _ T' hk ⟨s4, s8, s9, rfl⟩ hnx
    have e3 : Builtin.bitXor (k : Int) (p.x : Int) = ((k ^^^ p.x : Nat) : Int) := xor_nn _ _
    have e4 : Builtin.bitAnd ((k ^^^ p.x : Nat) : Int) (p.z : Int) = (((k ^^^ p.x) &&& p.z : Nat) : Int) := and_nn _ _
    have e5 : Builtin.bitAnd ((pc ((k ^^^ p.x) &&& p.z) : Nat) : Int) 1 = ((pc ((k ^^^ p.x) &&& p.z) % 2 : Nat) : Int) := and1_nn _
    have hx := xor_lt hk hp.x
    have a1 : atI (s.map Nm.e) ((k ^^^ p.x : Nat) : Int) = some (at0 s (k ^^^ p.x)).e := st_at (by omega)
    show w_acted_b1_1 T' ⟨[.f (stD s), .f p.e, .f (.int (2 * pc (p.x &&& p.z) + 4 * p.s : Nat)), .o (stD (tabL k F)), .f (.int (k : Nat)), .f (.int p.x), .f (.int p.z), .f (.int p.s), .f (.int (Builtin.bitXor (k : Int) (p.x : Int))), s9], h⟩
    rw [e3]
    refine ⟨(k ^^^ p.x) &&& p.z, by rw [← e4], ?_⟩
    change w_acted_b1_2 T' ⟨[.f (stD s), .f p.e, .f (.int (2 * pc (p.x &&& p.z) + 4 * p.s : Nat)), .o (stD (tabL k F)), .f (.int (k : Nat)), .f (.int p.x), .f (.int p.z), .f (.int p.s), .f (.int (k ^^^ p.x : Nat)), .f (.int (Builtin.bitAnd ((pc ((k ^^^ p.x) &&& p.z) : Nat) : Int) 1))], h⟩
    rw [e5]
    change w_acted_b1_2 T' ⟨[.f (stD s), .f p.e, .f (.int (2 * pc (p.x &&& p.z) + 4 * p.s : Nat)), .o (stD (tabL k F)), .f (.int (k : Nat)), .f (.int p.x), .f (.int p.z), .f (.int p.s), .f (.int (k ^^^ p.x : Nat)), .f (.int (pc ((k ^^^ p.x) &&& p.z) % 2 : Nat))], h⟩
    refine ⟨⟨_, rfl⟩, cm4 _ (by omega), ?_⟩
    have e6 : ((2 * pc (p.x &&& p.z) + 4 * p.s : Nat) : Int) + 4 * ((pc ((k ^^^ p.x) &&& p.z) % 2 : Nat) : Int) = ((2 * pc (p.x &&& p.z) + 4 * p.s + 4 * (pc ((k ^^^ p.x) &&& p.z) % 2) : Nat) : Int) := by omega
    refine ⟨((2 * pc (p.x &&& p.z) + 4 * p.s + 4 * (pc ((k ^^^ p.x) &&& p.z) % 2) : Nat) : Int), by rw [← e6], _, a1, ?_⟩
    refine ⟨rt ((2 * pc (p.x &&& p.z) + 4 * p.s + 4 * (pc ((k ^^^ p.x) &&& p.z) % 2) : Nat) : Int), at0 s (k ^^^ p.x), rfl, (Sz.rt _).bd (by decide), (at0_num hs _).sz.bd (by omega), _, rfl, ?_, ?_⟩
    · rw [List.length_map, tab_len]
      omega
    · refine hnx _ ⟨.f (.int (k : Nat)), .f (.int (k ^^^ p.x : Nat)), .f (.int (pc ((k ^^^ p.x) &&& p.z) % 2 : Nat)), ?_⟩
      rw [tab_succ]
      unfold stD
      rw [List.map_append]
      rfl
  · rintro _ ⟨s4, s8, s9, rfl⟩
    exact hR _ st sv
theorem pk_projected : Pk 3 4 sp_projected w_projected := by
  rintro ds h R _ ⟨n, c, K, s, p, bt, rfl, hb, hs, hn, hcK, hp, hR⟩
  have b := n15 hn
  have lp : s.length = 2 ^ n := hs.len
  refine ⟨n, c, K, s, p, rfl, hs, hn, hcK, hp, fun a sa va => ?_⟩
  have la : a.length = 2 ^ n := sa.len
  change w_projected_1 (Fi R) ⟨[.f (stD s), .f p.e, .f (.int bt), .f (stD a), .u, .u, .u], h⟩
  let G : Nat → Nm := fun k => if bt = 0 then pls (at0 s k) (at0 a k) else pls (at0 s k) (ngt (at0 a k))
  have nG : ∀ k, Num (c + 4) K (G k) := fun k => by
    show Num (c + 4) K (if bt = 0 then _ else _)
    have x := (at0_num hs k).mono (show c ≤ c + 2 by omega) (Nat.le_refl K)
    split
    · exact x.pls (at0_num sa k)
    · exact x.pls (at0_num sa k).ngt
  have vG : ∀ k, val (G k) = vec s k + ph (4 * bt) * act p (vec s) k := fun k => by
    have x0 := (at0_num hs k).sz.k0
    have y0 := (at0_num sa k).sz.k0
    have y1 := (at0_num sa k).ngt.sz.k0
    have e : val (at0 a k) = act p (vec s) k := congrFun va k
    show val (if bt = 0 then pls (at0 s k) (at0 a k) else pls (at0 s k) (ngt (at0 a k))) = _
    have cb : bt = 0 ∨ bt = 1 := by omega
    rcases cb with rfl | rfl
    · rw [if_pos rfl, val_pls x0 y0, e, show ph (4 * 0) = 1 from rfl]
      show vec s k + _ = _
      grind
    · rw [if_neg (by decide), val_pls x0 y1, val_ngt, e, show ph (4 * 1) = -1 from ph4]
      show vec s k + _ = _
      grind
  have rng : ((s.map Nm.e).length : Int).toNat = 2 ^ n := by rw [Int.toNat_natCast, List.length_map, lp]
  refine ⟨⟨by omega, by rw [List.length_map, lp]; omega⟩, ?_⟩
  rw [rng]
  refine ⟨rfl, by rw [List.length_map, List.length_range]; omega, ?_⟩
  refine lcM (f := fun k : Nat => D.int (k : Nat)) (e := fun k => (G k).e) (fun k hk C hC => ?_) ?_
  · refine brT rfl ?_
    have hk : k < 2 ^ n := List.mem_range.mp hk
    have a1 : atI (s.map Nm.e) (k : Int) = some (at0 s k).e := st_at (by omega)
    have a2 : atI (a.map Nm.e) (k : Int) = some (at0 a k).e := st_at (by omega)
    have hG : G k = if bt = 0 then pls (at0 s k) (at0 a k) else pls (at0 s k) (ngt (at0 a k)) := rfl
    refine br (fun e => ?_) (fun e => ?_)
    · have e : ((bt : Int) != 0) = true := e
      have c : ¬ bt = 0 := fun z => by rw [z] at e; cases e
      rw [hG, if_neg c] at hC
      exact ⟨_, a1, _, a2, at0 s k, at0 a k, rfl, rfl, hC⟩
    · have e : ((bt : Int) != 0) = false := e
      have c : bt = 0 := by
        have : ¬ (bt : Int) ≠ 0 := by simpa using e
        omega
      rw [hG, if_pos c] at hC
      exact ⟨_, a1, _, a2, at0 s k, at0 a k, rfl, rfl, hC⟩
  · have st : St n (c + 8) (K + 2) (tabL (2 ^ n) fun k => tms hf2n (G k)) := tab_st fun k _ => (Num.tms ⟨by decide, by decide, by decide⟩ (nG k).sz : Num (0 + (c + 4) + 2) (2 + K) _).mono (by omega) (by omega)
    have sv : vec (tabL (2 ^ n) fun k => tms hf2n (G k)) = prj p bt (vec s) := tab_vec (fun k _ => by
      rw [val_tms (by decide) (nG k).sz.k0, val_hf, vG]
      rfl) (fun k hk => by
      unfold prj
      rw [vec_out hs hk, act_out hs hp.x hk]
      grind)
    have e0 : [] ++ (List.range (2 ^ n)).map (fun k => (G k).e) = (tabL (2 ^ n) G).map Nm.e := by
      rw [List.nil_append]
      unfold tabL
      rw [List.map_map]
      rfl
    rw [e0]
    change w_projected_2 (Fi R) ⟨[.f (stD s), .f p.e, .f (.int bt), .f (stD a), .f (stD (tabL (2 ^ n) G)), .u, .u], h⟩
    refine ⟨rfl, by rw [List.length_map, tab_len]; omega, ?_⟩
    refine lcM (f := Nm.e) (e := fun x => (tms hf2n x).e) (fun x hx C hC => ?_) ?_
    · refine brT rfl ?_
      obtain ⟨k, _, rfl⟩ := List.mem_map.mp hx
      exact ⟨hf2n, G k, rfl, (show Sz 0 2 hf2n from ⟨by decide, by decide, by decide⟩).bd (by decide), (nG k).sz.bd (by omega), rfl, hC⟩
    · have e1 : [] ++ (tabL (2 ^ n) G).map (fun x => (tms hf2n x).e) = (tabL (2 ^ n) fun k => tms hf2n (G k)).map Nm.e := by
        rw [List.nil_append]
        unfold tabL
        rw [List.map_map, List.map_map]
        rfl
      rw [e1]
      exact hR _ st sv
/-! ### norms -/
theorem val_foldl : ∀ (l : List Nm) (z : Nm), 0 ≤ z.k → (∀ x ∈ l, 0 ≤ x.k) → 0 ≤ (l.foldl pls z).k ∧ val (l.foldl pls z) = l.foldl (fun u x => u + val x) (val z)
  | [], z, hz, _ => ⟨hz, rfl⟩
  | x :: l, z, hz, h => by
    have hx := h x List.mem_cons_self
    have k0 : 0 ≤ (pls z x).k := (fm_k _ _).1
    have ih := val_foldl l (pls z x) k0 fun y hy => h y (List.mem_cons_of_mem _ hy)
    refine ⟨ih.1, ?_⟩
    rw [List.foldl_cons, List.foldl_cons, ih.2, val_pls hz hx]
theorem fold_sum (F : Nat → Nm) : ∀ m : Nat, ((List.range m).map F).foldl (fun u x => u + val x) 0 = sumN m fun k => val (F k)
  | 0 => rfl
  | m + 1 => by
    rw [List.range_succ, List.map_append, List.foldl_append, fold_sum F m]
    rfl
theorem fold_nf : ∀ (l : List Nm) (z : Nm), nf z = true → nf (l.foldl pls z) = true
  | [], _, h => h
  | _ :: l, _, _ => fold_nf l _ (nf_fm _ _)
theorem norm_val {n c K : Nat} {s : List Nm} (hs : St n c K s) : let v := (s.map fun x => tms x (cnj x)).foldl pls ⟨zq, 0⟩; nf v = true ∧ 0 ≤ v.k ∧ val v = nrm n (vec s) := by
  have k0 : ∀ x ∈ s.map fun x => tms x (cnj x), 0 ≤ x.k := fun x hx => by
    obtain ⟨y, _, rfl⟩ := List.mem_map.mp hx
    exact (fm_k _ _).1
  have v := val_foldl (s.map fun x => tms x (cnj x)) ⟨zq, 0⟩ (Int.le_refl _) k0
  refine ⟨fold_nf _ _ rfl, v.1, ?_⟩
  rw [v.2]
  have e : s.map (fun x => tms x (cnj x)) = (List.range (2 ^ n)).map fun k => tms (at0 s k) (cnj (at0 s k)) := by
    have := congrArg (List.map fun x => tms x (cnj x)) (st_tab hs)
    rw [this]
    unfold tabL
    rw [List.map_map]
    rfl
  rw [e, show val ⟨zq, 0⟩ = 0 from val_z0, fold_sum]
  unfold nrm ip
  refine sumN_congr _ fun k _ => ?_
  have y0 := (at0_num hs k).sz.k0
  rw [val_tms y0 (show 0 ≤ (cnj (at0 s k)).k from y0), val_cnj]
  rfl
theorem pk_norm : Pk 1 1 sp_norm w_norm := by
  rintro ds h R _ ⟨n, c, K, s, rfl, hs, hn, hcK, hR⟩
  have b := n15 hn
  have lp : s.length = 2 ^ n := hs.len
  refine ⟨rfl, by rw [List.length_map, lp]; omega, ?_⟩
  refine lcM (f := Nm.e) (e := fun x => (tms x (cnj x)).e) (fun x hx C hC => ?_) ?_
  · have nx := (hs.num x hx).sz
    exact brT rfl ⟨x, rfl, x, cnj x, rfl, nx.bd (by omega), nx.cnj.bd (by omega), rfl, hC⟩
  · have v := norm_val hs
    refine ⟨s.map fun x => tms x (cnj x), ?_, hR _ v.1 v.2.1 v.2.2⟩
    rw [List.nil_append, List.map_map]
    rfl
theorem pk_expected : Pk 2 0 sp_expected w_expected := by
  rintro ds h R _ ⟨n, c, K, s, p, rfl, hs, hn, hcK, hp, hR⟩
  refine ⟨n, c, K, s, p, 0, rfl, by decide, hs, hn, hcK, hp, fun u su vu => ?_⟩
  refine ⟨n, c + 8, K + 2, u, rfl, su, hn, by omega, fun v1 f1 k1 e1 => ?_⟩
  refine ⟨n, c, K, s, p, 1, rfl, by decide, hs, hn, hcK, hp, fun w sw vw => ?_⟩
  refine ⟨n, c + 8, K + 2, w, rfl, sw, hn, by omega, fun v2 f2 k2 e2 => ?_⟩
  refine ⟨v1, v2, rfl, hR _ (nf_fm _ _) (fm_k _ _).1 ?_⟩
  have k3 : 0 ≤ (ngt v2).k := k2
  rw [val_pls k1 k3, val_ngt, e1, e2, vu, vw]
  unfold ev
  grind
end VL.N

set_option Elab.async false
set_option linter.all false
set_option maxRecDepth 100000
set_option maxHeartbeats 1000000
/-! VN13: the law's own matrices walked -/
namespace VL.N
open PySem PySem.Spec PyProof.Rows L2 VL VL.P Q8
def tl5 : List (Key × D) := [(.inr "Z", .int 4), (.inr "S", .int 2), (.inr "SI", .int 6), (.inr "T", .int 1), (.inr "TI", .int 7)]
def mS (nm : Str) (h : Oh) : Sg := ⟨[.f (.str nm), .f n1.e, .f (dcP tl5), .f o1.e, .f z0.e, .f r1.e], h⟩
section
variable {R : D → Oh → Prop} {h : Oh} {nm : Str}
theorem m34 (e : (nm == ("H" : Str)) = false) (hh : w__law_matrix_4 (Fi R) (mS nm h)) : w__law_matrix_3 (Fi R) (mS nm h) := brF e hh
theorem m45 (e : (nm == ("X" : Str)) = false) (hh : w__law_matrix_5 (Fi R) (mS nm h)) : w__law_matrix_4 (Fi R) (mS nm h) := brF e hh
theorem m56 (e : (nm == ("Y" : Str)) = false) (hh : w__law_matrix_6 (Fi R) (mS nm h)) : w__law_matrix_5 (Fi R) (mS nm h) := brF e hh
theorem m6 {m : Nat} (e : look tl5 (.inr nm) = some (.int m)) (hR : R (M2x.e ⟨o1, z0, z0, rt m⟩) h) : w__law_matrix_6 (Fi R) (mS nm h) :=
  ⟨tl5, .inr nm, _, rfl, .inl rfl, e, m, rfl, hR⟩
end
theorem pk__law_matrix : Pk 1 5 sp__law_matrix w__law_matrix := by
  rintro ds h R _ ⟨g, rfl, hR⟩
  refine ⟨rfl, ?_⟩
  change w__law_matrix_1 (Fi R) ⟨[.f (.str g.nm), .u, .u, .f o1.e, .f z0.e, .f r1.e], h⟩
  change w__law_matrix_2 (Fi R) ⟨[.f (.str g.nm), .f n1.e, .u, .f o1.e, .f z0.e, .f r1.e], h⟩
  refine ⟨_, rfl, _, rfl, _, rfl, _, rfl, _, rfl, by decide, by decide +kernel, ?_⟩
  change w__law_matrix_3 (Fi R) (mS g.nm h)
  cases g with
  | H => exact brT rfl hR
  | X => exact m34 rfl (brT rfl hR)
  | Y => exact m34 rfl (m45 rfl (brT rfl ⟨6, rfl, 2, rfl, hR⟩))
  | S => exact m34 rfl (m45 rfl (m56 rfl (m6 (m := 2) rfl hR)))
  | SI => exact m34 rfl (m45 rfl (m56 rfl (m6 (m := 6) rfl hR)))
  | Z => exact m34 rfl (m45 rfl (m56 rfl (m6 (m := 4) rfl hR)))
  | T => exact m34 rfl (m45 rfl (m56 rfl (m6 (m := 1) rfl hR)))
  | TI => exact m34 rfl (m45 rfl (m56 rfl (m6 (m := 7) rfl hR)))
theorem mat_ok (g : G1) : g.mat.Ok := by
  have z : Sz 0 1 z0 := (Num.z0 0 1).sz
  have o : Sz 0 1 o1 := (Num.o1 0 1).sz
  have r : ∀ n : Int, Sz 0 1 (rt n) := fun n => (Sz.rt n).mono (Nat.le_refl _) (by decide)
  have n : Sz 0 1 n1 := ⟨by decide, by decide, by decide⟩
  cases g with
  | H => exact ⟨rootNum, rootNum, rootNum, n⟩
  | X => exact ⟨z, o, o, z⟩
  | Y => exact ⟨z, r _, r _, z⟩
  | _ => exact ⟨o, z, z, r _⟩
theorem mat_op (g : G1) (q : Nat) : op1 (val g.mat.a) (val g.mat.b) (val g.mat.c) (val g.mat.d) q = g.op q := by
  have r : ∀ n : Nat, val (rt (n : Nat)) = ph n := val_rt
  cases g with
  | H => show op1 (val r1) (val r1) (val r1) (val n1) q = gH q; rw [val_r1, val_n1]; rfl
  | X => show op1 (val z0) (val o1) (val o1) (val z0) q = gX q; rw [val_z0, val_o1]; rfl
  | Y => show op1 (val z0) (val (rt (6 : Nat))) (val (rt (2 : Nat))) (val z0) q = gY q; rw [val_z0, r, r]; rfl
  | S => show op1 (val o1) (val z0) (val z0) (val (rt (2 : Nat))) q = _; rw [val_z0, val_o1, r]; rfl
  | SI => show op1 (val o1) (val z0) (val z0) (val (rt (6 : Nat))) q = _; rw [val_z0, val_o1, r]; rfl
  | Z => show op1 (val o1) (val z0) (val z0) (val (rt (4 : Nat))) q = _; rw [val_z0, val_o1, r]; rfl
  | T => show op1 (val o1) (val z0) (val z0) (val (rt (1 : Nat))) q = _; rw [val_z0, val_o1, r]; rfl
  | TI => show op1 (val o1) (val z0) (val z0) (val (rt (7 : Nat))) q = _; rw [val_z0, val_o1, r]; rfl
theorem lo_eq (k q : Nat) : (k : Int) - ((k.testBit q).toNat : Nat) * ((2 ^ q : Nat) : Int) = ((lo k q : Nat) : Int) := by
  unfold lo
  rw [xor_pow]
  by_cases c : k.testBit q = true
  · rw [c, if_pos rfl, if_pos rfl]
    have : 2 ^ q ≤ k := Nat.ge_two_pow_of_testBit c
    generalize 2 ^ q = m at *
    simp only [Bool.toNat_true]
    omega
  · have c : k.testBit q = false := by simpa using c
    rw [c, if_neg (by decide)]
    simp
theorem hi_eq (k q : Nat) : ((lo k q : Nat) : Int) + ((2 ^ q : Nat) : Int) = ((hi k q : Nat) : Int) := by
  unfold lo hi
  rw [xor_pow]
  by_cases c : k.testBit q = true
  · rw [c, if_pos rfl, if_pos rfl, if_pos rfl]
    have : 2 ^ q ≤ k := Nat.ge_two_pow_of_testBit c
    generalize 2 ^ q = m at *
    omega
  · have c : k.testBit q = false := by simpa using c
    rw [c, if_neg (by decide), if_neg (by decide), if_neg (by decide)]
    omega
theorem pw60 {q : Nat} (h : q ≤ 15) : (0 : Int) < ((2 ^ q : Nat) : Int) ∧ ((2 ^ q : Nat) : Int) < 2 ^ 60 := by
  have := Nat.two_pow_pos q
  have := n15 h
  generalize 2 ^ q = m at *
  omega
theorem pk__law_one : Pk 3 5 sp__law_one w__law_one := by
  rintro ds h R _ ⟨n, c, K, s, m, q, rfl, hs, hn, hcK, hm, hq, hR⟩
  have b := n15 hn
  have hz : (1000000 : Nat) < sizeLine := by decide
  have lp : s.length = 2 ^ n := hs.len
  obtain ⟨w1, w2⟩ := pw60 (show q ≤ 15 by omega)
  let F : Nat → Nm := fun k => pls (tms (if k.testBit q then m.c else m.a) (at0 s (lo k q))) (tms (if k.testBit q then m.d else m.b) (at0 s (hi k q)))
  have hF : ∀ k, F k = pls (tms (if k.testBit q then m.c else m.a) (at0 s (lo k q))) (tms (if k.testBit q then m.d else m.b) (at0 s (hi k q))) := fun _ => rfl
  have z1 : ∀ k : Nat, Sz 0 1 (if k.testBit q then m.c else m.a) := fun k => by
    split
    · exact hm.c
    · exact hm.a
  have z2 : ∀ k : Nat, Sz 0 1 (if k.testBit q then m.d else m.b) := fun k => by
    split
    · exact hm.d
    · exact hm.b
  have t1 : ∀ k : Nat, Num (0 + c + 2) (1 + K) (tms (if k.testBit q then m.c else m.a) (at0 s (lo k q))) := fun k => Num.tms (z1 k) (at0_num hs _).sz
  have t2 : ∀ k : Nat, Num (0 + c + 2) (1 + K) (tms (if k.testBit q then m.d else m.b) (at0 s (hi k q))) := fun k => Num.tms (z2 k) (at0_num hs _).sz
  have st : St n (c + 4) (K + 1) (tabL (2 ^ n) F) := tab_st fun k _ => ((t1 k).pls (t2 k)).mono (by omega) (by omega)
  have sv : vec (tabL (2 ^ n) F) = op1 (val m.a) (val m.b) (val m.c) (val m.d) q (vec s) := tab_vec (fun k _ => by
    rw [hF, val_pls (t1 k).sz.k0 (t2 k).sz.k0, val_tms (z1 k).k0 (at0_num hs _).sz.k0, val_tms (z2 k).k0 (at0_num hs _).sz.k0]
    unfold op1 vec lo hi
    cases k.testBit q <;> simp only [if_true, if_false, Bool.false_eq_true]) (fun k hk => op1_out hs hq _ _ _ _ hk)
  refine ⟨by rw [List.length_map, lp]; omega, ?_⟩
  rw [show ((s.map Nm.e).length : Int).toNat = 2 ^ n by rw [Int.toNat_natCast, List.length_map, lp]]
  refine rloop (T := { Fi R with nx := w__law_one_2 (Fi R) }) (fun k S => ∃ s4 s5 s6 s7, S = ⟨[.f (stD s), .f m.e, .f (.int q), .o (stD (tabL k F)), s4, s5, s6, s7], h⟩) ?_ ?_ ⟨.u, .u, .u, .u, rfl⟩
  · rintro k _ T' hk ⟨s4, s5, s6, s7, rfl⟩ hnx
    have a1 : atI (s.map Nm.e) ((lo k q : Nat) : Int) = some (at0 s (lo k q)).e := st_at (by rw [lp]; exact lo_lt hk hq)
    have a2 : atI (s.map Nm.e) ((hi k q : Nat) : Int) = some (at0 s (hi k q)).e := st_at (by rw [lp]; exact hi_lt hk hq)
    have a3 : atI [D.lst [m.a.e, m.b.e], D.lst [m.c.e, m.d.e]] (((k.testBit q).toNat : Nat) : Int) = some (D.lst [Nm.e (if k.testBit q then m.c else m.a), Nm.e (if k.testBit q then m.d else m.b)]) := by
      cases k.testBit q <;> rfl
    have lt2 : (((k.testBit q).toNat : Nat) : Int).natAbs < 2 ^ 1 := by cases k.testBit q <;> decide
    refine ⟨shl_one (by omega), cdiv (by rw [shl_v]; exact w1) (by rw [shl_v]; exact w2), (by decide : (0 : Int) < 2), ?_⟩
    change w__law_one_b1_1 T' ⟨[.f (stD s), .f m.e, .f (.int q), .o (stD (tabL k F)), .f (.int k), .f (.int ((k : Int) / ((1 : Int) * 2 ^ ((q : Int)).toNat) % 2)), s6, s7], h⟩
    rw [shl_v, div_bit]
    refine ⟨shl_one (by omega), cmul 1 60 lt2 (by rw [shl_v]; omega) (by decide), ?_⟩
    change w__law_one_b1_2 T' ⟨[.f (stD s), .f m.e, .f (.int q), .o (stD (tabL k F)), .f (.int k), .f (.int ((k.testBit q).toNat : Nat)), .f (.int ((k : Int) - ((k.testBit q).toNat : Nat) * ((1 : Int) * 2 ^ ((q : Int)).toNat))), s7], h⟩
    rw [shl_v, lo_eq]
    refine ⟨_, a3, ?_⟩
    change w__law_one_b1_3 T' ⟨[.f (stD s), .f m.e, .f (.int q), .o (stD (tabL k F)), .f (.int k), .f (.int ((k.testBit q).toNat : Nat)), .f (.int (lo k q : Nat)), .f (D.lst [Nm.e (if k.testBit q then m.c else m.a), Nm.e (if k.testBit q then m.d else m.b)])], h⟩
    refine ⟨⟨_, rfl⟩, _, rfl, _, a1, _, _, rfl, (z1 k).bd (by decide), (at0_num hs _).sz.bd (by omega), _, rfl, shl_one (by omega), _, by rw [shl_v, hi_eq]; exact a2, _, _, rfl, (z2 k).bd (by decide), (at0_num hs _).sz.bd (by omega), _, _, rfl, _, rfl, ?_, ?_⟩
    · rw [List.length_map, tab_len]
      omega
    · refine hnx _ ⟨.f (.int (k : Nat)), .f (.int ((k.testBit q).toNat : Nat)), .f (.int (lo k q : Nat)), .f (D.lst [Nm.e (if k.testBit q then m.c else m.a), Nm.e (if k.testBit q then m.d else m.b)]), ?_⟩
      rw [tab_succ]
      unfold stD
      rw [List.map_append]
      rfl
  · rintro _ ⟨s4, s5, s6, s7, rfl⟩
    exact hR _ st sv
end VL.N

set_option Elab.async false
set_option linter.all false
set_option maxRecDepth 100000
set_option maxHeartbeats 1000000
/-! VN14: the law's gates and Paulis walked -/
namespace VL.N
open PySem PySem.Spec PyProof.Rows L2 VL VL.P Q8
theorem pk__law_gate : Pk 3 2 sp__law_gate w__law_gate := by
  rintro ds h R _ ⟨n, c, K, s, hs, hn, hcK, q⟩
  have b := n15 hn
  have lp : s.length = 2 ^ n := hs.len
  rcases q with ⟨g, q, rfl, hq, hR⟩ | ⟨g, u, t, rfl, hu, ht, ne, hR⟩
  · have ok : inOk (.str g.nm) [.str "CX", .str "CZ"] = true := by cases g <;> rfl
    have nin : (!inD (.str g.nm) [.str "CX", .str "CZ"]) = true := by cases g <;> rfl
    refine ⟨ok, brT nin ?_⟩
    refine ⟨g, rfl, _, rfl, ?_⟩
    refine ⟨n, c, K, s, g.mat, q, rfl, hs, hn, hcK, mat_ok g, hq, fun s' st sv => ?_⟩
    exact hR s' st (by rw [sv, mat_op])
  · have ok : inOk (.str g.nm) [.str "CX", .str "CZ"] = true := by cases g <;> rfl
    have nin : (!inD (.str g.nm) [.str "CX", .str "CZ"]) = false := by cases g <;> rfl
    refine ⟨ok, brF nin ?_⟩
    change w__law_gate_1 (Fi R) ⟨[.f (stD s), .f (.str g.nm), .f (.tup [.int u, .int t]), .u, .u], h⟩
    obtain ⟨w1, w2⟩ := pw60 (show u ≤ 15 by omega)
    let g' : G1 := match g with
      | .CX => .X
      | .CZ => .Z
    have lk : look [((.inr "CX" : Key), D.str "X"), (.inr "CZ", .str "Z")] (.inr g.nm) = some (.str g'.nm) := by cases g <;> rfl
    refine ⟨_, rfl, _, rfl, by decide, by decide +kernel, ?_⟩
    refine ⟨[((.inr "CX" : Key), D.str "X"), (.inr "CZ", .str "Z")], .inr g.nm, _, rfl, .inl rfl, lk, ?_⟩
    refine ⟨g', rfl, _, rfl, ?_⟩
    refine ⟨n, c, K, s, g'.mat, t, rfl, hs, hn, hcK, mat_ok g', ht, fun a sa va => ?_⟩
    rw [mat_op] at va
    have la : a.length = 2 ^ n := sa.len
    change w__law_gate_2 (Fi R) ⟨[.f (stD s), .f (.str g.nm), .f (.tup [.int u, .int t]), .f (stD a), .u], h⟩
    have rng : ((s.map Nm.e).length : Int).toNat = 2 ^ n := by rw [Int.toNat_natCast, List.length_map, lp]
    refine ⟨⟨by omega, by rw [List.length_map, lp]; omega⟩, ?_⟩
    rw [rng]
    refine ⟨rfl, by rw [List.length_map, List.length_range]; omega, ?_⟩
    refine lcM (f := fun k : Nat => D.int (k : Nat)) (e := fun k => (if k.testBit u then at0 a k else at0 s k).e) (fun k hk C hC => ?_) ?_
    · refine brT rfl ?_
      have hk : k < 2 ^ n := List.mem_range.mp hk
      have a1 : atI (s.map Nm.e) (k : Int) = some (at0 s k).e := st_at (by omega)
      have a2 : atI (a.map Nm.e) (k : Int) = some (at0 a k).e := st_at (by omega)
      refine ⟨_, rfl, shl_one (by omega), cdiv (by rw [shl_v]; exact w1) (by rw [shl_v]; exact w2), (by decide : (0 : Int) < 2), ?_⟩
      refine br (fun e => ?_) (fun e => ?_)
      · have e : ((k : Int) / ((1 : Int) * 2 ^ ((u : Int)).toNat) % 2 == 1) = true := e
        rw [shl_v, div_bit] at e
        have tb : k.testBit u = true := by
          cases z : k.testBit u with
          | true => rfl
          | false => rw [z] at e; cases e
        rw [tb, if_pos rfl] at hC
        exact ⟨_, a2, rfl, hC⟩
      · have e : ((k : Int) / ((1 : Int) * 2 ^ ((u : Int)).toNat) % 2 == 1) = false := e
        rw [shl_v, div_bit] at e
        have tb : k.testBit u = false := by
          cases z : k.testBit u with
          | false => rfl
          | true => rw [z] at e; cases e
        rw [tb, if_neg (by decide)] at hC
        exact ⟨_, a1, rfl, hC⟩
    · refine tabR (F := fun k => if k.testBit u then at0 a k else at0 s k) (hR _ (tab_st fun k _ => ?_) (tab_vec (fun k _ => ?_) fun k hk => ?_))
      · split
        · exact at0_num sa k
        · exact (at0_num hs k).mono (by omega) (by omega)
      · have e1 : val (at0 a k) = g'.op t (vec s) k := congrFun va k
        cases g with
        | CX => show _ = (if k.testBit u then gX t (vec s) k else vec s k); cases k.testBit u; rfl; exact e1
        | CZ => show _ = (if k.testBit u then gZ t (vec s) k else vec s k); cases k.testBit u; rfl; exact e1
      · cases g with
        | CX => show (if k.testBit u then op1 0 1 1 0 t (vec s) k else vec s k) = 0; rw [op1_out hs ht _ _ _ _ hk, vec_out hs hk]; split <;> rfl
        | CZ => show (if k.testBit u then op1 1 0 0 (ph 4) t (vec s) k else vec s k) = 0; rw [op1_out hs ht _ _ _ _ hk, vec_out hs hk]; split <;> rfl
theorem pk__law_letter : Pk 2 0 sp__law_letter w__law_letter := by
  rintro ds h R _ ⟨p, q, rfl, hq, hR⟩
  have h1 := Nat.mod_lt (p.x / 2 ^ q) (show 0 < 2 by decide)
  have h2 := Nat.mod_lt (p.z / 2 ^ q) (show 0 < 2 by decide)
  have dv : ∀ x : Nat, (x : Int) / ((1 : Int) * 2 ^ ((q : Int)).toNat) % 2 = ((x / 2 ^ q % 2 : Nat) : Int) := fun x => by
    rw [shl_v]
    exact_mod_cast rfl
  have cd : ∀ x : Int, CDivW x ((1 : Int) * 2 ^ ((q : Int)).toNat) := fun x => by
    rw [shl_v]
    have p0 : (0 : Int) < ((2 ^ q : Nat) : Int) := by exact_mod_cast Nat.two_pow_pos q
    exact wide_div p0 (b := 1001) (by
      have : 2 ^ q < 2 ^ 1001 := Nat.pow_lt_pow_right (by decide) (by omega)
      simpa using this) (by decide) (by decide)
  refine ⟨_, rfl, shl_one hq, cd _, (by decide : (0 : Int) < 2), _, rfl, shl_one hq, cd _, (by decide : (0 : Int) < 2), ?_⟩
  refine ⟨?_, ?_⟩
  · rw [dv]
    exact cmul 2 1 (by decide) (by omega) (by decide)
  · rw [dv, dv]
    refine ⟨by decide, ?_⟩
    unfold ltr lch at hR
    rcases m2 _ h1 with a | a <;> rcases m2 _ h2 with b | b <;> rw [a, b] at hR ⊢ <;> exact ⟨_, rfl, hR⟩
theorem ltr_eq (p : Pa) (q : Nat) : ltr p q = if p.x.testBit q then (if p.z.testBit q then ("Y" : Str) else ("X" : Str)) else (if p.z.testBit q then ("Z" : Str) else ("I" : Str)) := by
  have e : ∀ x : Nat, x.testBit q = decide (x / 2 ^ q % 2 = 1) := fun x => Nat.testBit_eq_decide_div_mod_eq
  unfold ltr lch
  rw [e, e]
  have h1 := Nat.mod_lt (p.x / 2 ^ q) (show 0 < 2 by decide)
  have h2 := Nat.mod_lt (p.z / 2 ^ q) (show 0 < 2 by decide)
  rcases m2 _ h1 with a | a <;> rcases m2 _ h2 with b | b <;> rw [a, b] <;> rfl
theorem gX_act (q : Nat) (f : Vc) : gX q f = act (xq q) f := funext fun k => by
  rw [act_x]
  unfold gX op1
  split <;> grind
theorem gZ_act (q : Nat) (f : Vc) : gZ q f = act (zq1 q) f := funext fun k => by
  rw [act_z]
  unfold gZ op1
  rw [ph4]
  split <;> grind
theorem gY_act (q : Nat) (f : Vc) : gY q f = sc (ph 2) (act (xq q) (act (zq1 q) f)) := funext fun k => by
  show gY q f k = ph 2 * act (xq q) (act (zq1 q) f) k
  rw [act_x, act_z, tb_same]
  unfold gY op1
  rw [ph6]
  cases k.testBit q <;> simp only [Bool.not_true, Bool.not_false, if_true, if_false, Bool.false_eq_true] <;> grind
theorem cm_x {x z j : Nat} (hz : z < 2 ^ j) (f : Vc) : act (xq j) (act ⟨x, z, 0⟩ f) = act ⟨x, z, 0⟩ (act (xq j) f) := by
  rw [cmt_sw, if_pos, ph_zero, sc_one]
  unfold cmt xq
  show (pc (2 ^ j &&& z) % 2 == pc (0 &&& x) % 2) = true
  rw [pc_one, Nat.testBit_lt_two_pow hz, Nat.zero_and]
  rfl
theorem cm_z {x z j : Nat} (hx : x < 2 ^ j) (f : Vc) : act (zq1 j) (act ⟨x, z, 0⟩ f) = act ⟨x, z, 0⟩ (act (zq1 j) f) := by
  rw [cmt_sw, if_pos, ph_zero, sc_one]
  unfold cmt zq1
  show (pc (0 &&& z) % 2 == pc (2 ^ j &&& x) % 2) = true
  rw [pc_one, Nat.testBit_lt_two_pow hx, Nat.zero_and]
  rfl
/-- the letter of one qubit more -/
theorem letter_step (x z j : Nat) (f : Vc) : act ⟨x % 2 ^ (j + 1), z % 2 ^ (j + 1), 0⟩ f =
    (if x.testBit j then (if z.testBit j then gY j else gX j) else (if z.testBit j then gZ j else fun g => g)) (act ⟨x % 2 ^ j, z % 2 ^ j, 0⟩ f) := by
  have lx : x % 2 ^ j < 2 ^ j := Nat.mod_lt _ (Nat.two_pow_pos j)
  have lz : z % 2 ^ j < 2 ^ j := Nat.mod_lt _ (Nat.two_pow_pos j)
  have lx2 : x % 2 ^ j < 2 ^ (j + 1) := by rw [Nat.pow_succ]; omega
  have lx3 : x % 2 ^ j + 2 ^ j < 2 ^ (j + 1) := by rw [Nat.pow_succ]; omega
  have tl : (x % 2 ^ j).testBit j = false := Nat.testBit_lt_two_pow lx
  have th : (x % 2 ^ j + 2 ^ j).testBit j = true := by
    rw [Nat.add_comm, Nat.testBit_two_pow_add_eq, tl]
    rfl
  rw [mod_bit x j, mod_bit z j]
  cases hx : x.testBit j <;> cases hz : z.testBit j <;> simp only [if_true, if_false, Bool.false_eq_true]
  · have e := low_z lx2 lz f
    rw [tl, if_neg (by decide), ph_zero, sc_one] at e
    rw [gZ_act, cm_z lx, e]
  · rw [gX_act, cm_x lz, low_x lx lz]
  · have e := low_z lx3 lz f
    rw [th, if_pos rfl] at e
    have e2 : act ⟨x % 2 ^ j + 2 ^ j, z % 2 ^ j + 2 ^ j, 0⟩ f = sc (ph 2) (act ⟨x % 2 ^ j + 2 ^ j, z % 2 ^ j, 0⟩ (act (zq1 j) f)) := by
      rw [e, sc8 (by decide)]
    rw [gY_act, e2, cm_z lx, cm_x lz, low_x lx lz]
end VL.N

set_option Elab.async false
set_option linter.all false
set_option maxRecDepth 100000
set_option maxHeartbeats 1000000
/-! VN15: the law's Paulis, projections, turns walked -/
namespace VL.N
open PySem PySem.Spec PyProof.Rows L2 VL VL.P Q8
theorem one_in {R : D → Oh → Prop} {Y : XC} {h : Oh} {n c K : Nat} {s : List Nm} {g : G1} {q : Nat} (hs : St n c K s) (hn : n ≤ 15) (hcK : c + K ≤ 3000) (hq : q < n)
    (k : ∀ s', St n (c + 4) (K + 1) s' → vec s' = g.op q (vec s) → R (stD s') h) : sp__law_one [stD s, g.mat.e, .int q] h R Y :=
  ⟨n, c, K, s, g.mat, q, rfl, hs, hn, hcK, mat_ok g, hq, fun s' st sv => k s' st (by rw [sv, mat_op])⟩
theorem pk__law_acted : Pk 3 4 sp__law_acted w__law_acted := by
  rintro ds h R _ ⟨n, c, K, s, p, rfl, hs, hn, hcK, hp, hR⟩
  have b := n15 hn
  have hps := hp.s
  change w__law_acted_1 (Fi R) ⟨[.f (stD s), .f p.e, .f (.int n), .f (stD s), .u, .u, .u], h⟩
  refine ⟨⟨by omega, by omega⟩, ?_⟩
  rw [Int.toNat_natCast]
  refine rloop (T := { Fi R with nx := w__law_acted_2 (Fi R) }) (fun j S => ∃ a s4 s5, St n (c + 4 * j) (K + j) a ∧ vec a = act ⟨p.x % 2 ^ j, p.z % 2 ^ j, 0⟩ (vec s) ∧ S = ⟨[.f (stD s), .f p.e, .f (.int n), .f (stD a), s4, s5, .u], h⟩) ?_ ?_ ⟨s, .u, .u, hs, ?_, rfl⟩
  · rintro j _ T' hj ⟨a, s4, s5, sa, va, rfl⟩ hnx
    refine ⟨p, j, rfl, by omega, ?_⟩
    change w__law_acted_b1_1 T' ⟨[.f (stD s), .f p.e, .f (.int n), .f (stD a), .f (.int j), .f (.str (ltr p j)), .u], h⟩
    have step := letter_step p.x p.z j (vec s)
    rw [← va] at step
    have le := ltr_eq p j
    have done : ∀ (g : G1), ltr p j = g.nm → (∀ f, (if p.x.testBit j then (if p.z.testBit j then gY j else gX j) else (if p.z.testBit j then gZ j else fun g => g)) f = g.op j f) → (g.nm == ("I" : Str)) = false →
        w__law_acted_b1_1 T' ⟨[.f (stD s), .f p.e, .f (.int n), .f (stD a), .f (.int j), .f (.str (ltr p j)), .u], h⟩ := fun g eg op ni => by
      rw [eg]
      refine brT (by show (!(g.nm == ("I" : Str))) = true; rw [ni]; rfl) ?_
      refine ⟨g, rfl, ?_⟩
      refine ⟨n, c + 4 * j, K + j, a, g.mat, j, rfl, sa, hn, by omega, mat_ok g, hj, fun s' st sv => ?_⟩
      exact hnx _ ⟨s', .f (.int j), .f (.str g.nm), st.mono (by omega) (by omega), by rw [sv, mat_op, step, op], rfl⟩
    cases hx : p.x.testBit j <;> cases hz : p.z.testBit j <;> rw [hx, hz] at le step done
    · rw [show ltr p j = ("I" : Str) from le]
      refine brF rfl ?_
      exact hnx _ ⟨a, .f (.int j), .f (.str ("I" : Str)), sa.mono (by omega) (by omega), step.symm, rfl⟩
    · exact done .Z le (fun f => rfl) rfl
    · exact done .X le (fun f => rfl) rfl
    · exact done .Y le (fun f => rfl) rfl
  · rintro _ ⟨a, s4, s5, sa, va, rfl⟩
    have la : a.length = 2 ^ n := sa.len
    rw [Nat.mod_eq_of_lt hp.x, Nat.mod_eq_of_lt hp.z] at va
    change w__law_acted_2 (Fi R) ⟨[.f (stD s), .f p.e, .f (.int n), .f (stD a), s4, s5, .u], h⟩
    have st : St n (c + 4 * n + 2) (K + n) (tabL (2 ^ n) fun k => tms (rt ((4 * p.s : Nat) : Int)) (at0 a k)) := tab_st fun k _ => (Num.tms (Sz.rt _) (at0_num sa k).sz).mono (by omega) (by omega)
    have sv : vec (tabL (2 ^ n) fun k => tms (rt ((4 * p.s : Nat) : Int)) (at0 a k)) = act p (vec s) := tab_vec (fun k _ => by
      rw [val_tms (Int.le_refl _) (at0_num sa k).sz.k0, val_rt]
      have e : val (at0 a k) = act ⟨p.x, p.z, 0⟩ (vec s) k := congrFun va k
      rw [e]
      exact (congrFun (act_one p.x p.z p.s (vec s)) k).symm) (fun k hk => act_out hs hp.x hk)
    refine ⟨rfl, by rw [List.length_map, la]; omega, ?_⟩
    refine lcM (f := Nm.e) (e := fun x => (tms (rt ((4 * p.s : Nat) : Int)) x).e) (fun x hx C hC => ?_) ?_
    · have e4 : (4 : Int) * (p.s : Nat) = ((4 * p.s : Nat) : Int) := by omega
      refine brT rfl ⟨_, rfl, cm4 _ (by omega), ((4 * p.s : Nat) : Int), by rw [← e4], rt ((4 * p.s : Nat) : Int), x, rfl, (Sz.rt _).bd (by decide), (sa.num x hx).sz.bd (by omega), rfl, hC⟩
    · have e1 : [] ++ a.map (fun x => (tms (rt ((4 * p.s : Nat) : Int)) x).e) = (tabL (2 ^ n) fun k => tms (rt ((4 * p.s : Nat) : Int)) (at0 a k)).map Nm.e := by
        rw [List.nil_append]
        have := congrArg (List.map fun x => (tms (rt ((4 * p.s : Nat) : Int)) x).e) (st_tab sa)
        rw [this]
        unfold tabL
        rw [List.map_map, List.map_map]
        rfl
      rw [e1]
      exact hR _ st sv
  · rw [Nat.pow_zero, Nat.mod_one, Nat.mod_one, act_id]
theorem pk__law_projected : Pk 4 2 sp__law_projected w__law_projected := by
  rintro ds h R _ ⟨n, c, K, s, p, bt, rfl, hb, hs, hn, hcK, hp, hR⟩
  have b := n15 hn
  have lp : s.length = 2 ^ n := hs.len
  refine ⟨n, c, K, s, p, rfl, hs, hn, by omega, hp, fun a sa va => ?_⟩
  have la : a.length = 2 ^ n := sa.len
  change w__law_projected_1 (Fi R) ⟨[.f (stD s), .f p.e, .f (.int bt), .f (.int n), .f (stD a), .u], h⟩
  let T1 : Nat → Nm := fun k => tms (rt ((4 * bt : Nat) : Int)) (at0 a k)
  have n1 : ∀ k, Num (c + 4 * n + 4) (K + n) (T1 k) := fun k => (Num.tms (Sz.rt _) (at0_num sa k).sz : Num (0 + (c + 4 * n + 2) + 2) (0 + (K + n)) _).mono (by omega) (by omega)
  let T2 : Nat → Nm := fun k => pls (at0 s k) (T1 k)
  have n2 : ∀ k, Num (c + 4 * n + 6) (K + n) (T2 k) := fun k => ((at0_num hs k).mono (show c ≤ c + 4 * n + 4 by omega) (show K ≤ K + n by omega)).pls (n1 k)
  have h2 : Sz 0 2 hf2n := ⟨by decide, by decide, by decide⟩
  have st : St n (c + 4 * n + 12) (K + n + 2) (tabL (2 ^ n) fun k => tms hf2n (T2 k)) := tab_st fun k _ => (Num.tms h2 (n2 k).sz : Num (0 + (c + 4 * n + 6) + 2) (2 + (K + n)) _).mono (by omega) (by omega)
  have sv : vec (tabL (2 ^ n) fun k => tms hf2n (T2 k)) = prj p bt (vec s) := tab_vec (fun k _ => by
    have e : val (at0 a k) = act p (vec s) k := congrFun va k
    rw [val_tms h2.k0 (n2 k).sz.k0, val_hf, show T2 k = pls (at0 s k) (T1 k) from rfl, val_pls (at0_num hs k).sz.k0 (n1 k).sz.k0, show T1 k = tms (rt ((4 * bt : Nat) : Int)) (at0 a k) from rfl, val_tms (Int.le_refl _) (at0_num sa k).sz.k0, val_rt, e]
    rfl) (fun k hk => by
    unfold prj
    rw [vec_out hs hk, act_out hs hp.x hk]
    grind)
  have rng : ((s.map Nm.e).length : Int).toNat = 2 ^ n := by rw [Int.toNat_natCast, List.length_map, lp]
  refine ⟨⟨by omega, by rw [List.length_map, lp]; omega⟩, ?_⟩
  rw [rng]
  refine ⟨rfl, by rw [List.length_map, List.length_range]; omega, ?_⟩
  refine lcM (f := fun k : Nat => D.int (k : Nat)) (e := fun k => (tms hf2n (T2 k)).e) (fun k hk C hC => ?_) (tabR (F := fun k => tms hf2n (T2 k)) (hR _ st sv))
  have hk : k < 2 ^ n := List.mem_range.mp hk
  have a1 : atI (s.map Nm.e) (k : Int) = some (at0 s k).e := st_at (by omega)
  have a2 : atI (a.map Nm.e) (k : Int) = some (at0 a k).e := st_at (by omega)
  have e4 : (4 : Int) * (bt : Nat) = ((4 * bt : Nat) : Int) := by omega
  refine brT rfl ⟨_, a1, cm4 _ (by omega), ((4 * bt : Nat) : Int), by rw [← e4], _, a2, rt ((4 * bt : Nat) : Int), at0 a k, rfl, (Sz.rt _).bd (by decide), (at0_num sa k).sz.bd (by omega), ?_⟩
  exact ⟨at0 s k, T1 k, rfl, hf2n, T2 k, rfl, h2.bd (by decide), (n2 k).sz.bd (by omega), rfl, hC⟩
theorem pk__law_turned : Pk 3 3 sp__law_turned w__law_turned := by
  rintro ds h R _ ⟨n, c, K, s, p, rfl, hs, hn, hcK, hp, hR⟩
  have b := n15 hn
  have lp : s.length = 2 ^ n := hs.len
  refine ⟨n, c, K, s, p, 0, rfl, by decide, hs, hn, by omega, hp, fun u su vu => ?_⟩
  change w__law_turned_1 (Fi R) ⟨[.f (stD s), .f p.e, .f (.int n), .f (stD u), .u, .u], h⟩
  refine ⟨n, c, K, s, p, 1, rfl, by decide, hs, hn, by omega, hp, fun w sw vw => ?_⟩
  change w__law_turned_2 (Fi R) ⟨[.f (stD s), .f p.e, .f (.int n), .f (stD u), .f (stD w), .u], h⟩
  have lu : u.length = 2 ^ n := su.len
  have lw : w.length = 2 ^ n := sw.len
  let T1 : Nat → Nm := fun k => tms (rt (2 : Nat)) (at0 w k)
  have n1 : ∀ k, Num (c + 4 * n + 14) (K + n + 2) (T1 k) := fun k => (Num.tms (Sz.rt _) (at0_num sw k).sz : Num (0 + (c + 4 * n + 12) + 2) (0 + (K + n + 2)) _).mono (by omega) (by omega)
  have st : St n (c + 4 * n + 20) (K + n + 2) (tabL (2 ^ n) fun k => pls (at0 u k) (T1 k)) := tab_st fun k _ => (((at0_num su k).mono (show c + 4 * n + 12 ≤ c + 4 * n + 14 by omega) (Nat.le_refl _)).pls (n1 k)).mono (by omega) (by omega)
  have sv : vec (tabL (2 ^ n) fun k => pls (at0 u k) (T1 k)) = tnv p (vec s) := tab_vec (fun k _ => by
    have e1 : val (at0 u k) = prj p 0 (vec s) k := congrFun vu k
    have e2 : val (at0 w k) = prj p 1 (vec s) k := congrFun vw k
    rw [val_pls (at0_num su k).sz.k0 (n1 k).sz.k0, show T1 k = tms (rt (2 : Nat)) (at0 w k) from rfl, val_tms (Int.le_refl _) (at0_num sw k).sz.k0, val_rt, e1, e2]
    rfl) (fun k hk => by
    rw [tnv_eq, vec_out hs hk, act_out hs hp.x hk]
    grind)
  have rng : ((s.map Nm.e).length : Int).toNat = 2 ^ n := by rw [Int.toNat_natCast, List.length_map, lp]
  refine ⟨⟨by omega, by rw [List.length_map, lp]; omega⟩, ?_⟩
  rw [rng]
  refine ⟨rfl, by rw [List.length_map, List.length_range]; omega, ?_⟩
  refine lcM (f := fun k : Nat => D.int (k : Nat)) (e := fun k => (pls (at0 u k) (T1 k)).e) (fun k hk C hC => ?_) (tabR (F := fun k => pls (at0 u k) (T1 k)) (hR _ st sv))
  have hk : k < 2 ^ n := List.mem_range.mp hk
  have a1 : atI (u.map Nm.e) (k : Int) = some (at0 u k).e := st_at (by omega)
  have a2 : atI (w.map Nm.e) (k : Int) = some (at0 w k).e := st_at (by omega)
  exact brT rfl ⟨_, a1, 2, rfl, _, a2, rt (2 : Nat), at0 w k, rfl, (Sz.rt _).bd (by decide), (at0_num sw k).sz.bd (by omega), at0 u k, T1 k, rfl, rfl, hC⟩
end VL.N

set_option Elab.async false
set_option linter.all false
set_option maxRecDepth 100000
/-! frames as matrices: what each def of the text promises -/
namespace K36
open PySem PySem.Spec L2 VL VL.P VL.N
abbrev k_NAMES : D := VL.P.k_NAMES
abbrev k_ZERO : D := VL.N.k_ZERO
abbrev k_ONE : D := VL.N.k_ONE
abbrev k_HALF : D := VL.N.k_HALF
abbrev k_ROOT : D := VL.N.k_ROOT
abbrev k_PAIRS : D := VL.N.k_PAIRS
abbrev k_FACTORS : List (Str × D) := VL.N.k_FACTORS
abbrev sp_ones_paulis : Spc := VL.P.sp_ones
abbrev sp_commutes : Spc := VL.P.sp_commutes
abbrev sp_product : Spc := VL.P.sp_product
abbrev sp_single : Spc := VL.P.sp_single
abbrev sp_formed : Spc := VL.N.sp_formed
abbrev sp_raised : Spc := VL.N.sp_raised
abbrev sp_plus : Spc := VL.N.sp_plus
abbrev sp_negative : Spc := VL.N.sp_negative
abbrev sp_minus : Spc := VL.N.sp_minus
abbrev sp_times : Spc := VL.N.sp_times
abbrev sp_conjugate : Spc := VL.N.sp_conjugate
abbrev sp_root : Spc := VL.N.sp_root
abbrev sp_total : Spc := VL.N.sp_total
abbrev sp_ones_states : Spc := VL.N.sp_ones_states
abbrev sp_zeros : Spc := VL.N.sp_zeros
abbrev sp_mixed : Spc := VL.N.sp_mixed
abbrev sp_gate : Spc := VL.N.sp_gate
abbrev sp_acted : Spc := VL.N.sp_acted
abbrev sp_projected : Spc := VL.N.sp_projected
abbrev sp_norm : Spc := VL.N.sp_norm
abbrev sp_expected : Spc := VL.N.sp_expected
abbrev sp__law_matrix : Spc := VL.N.sp__law_matrix
abbrev sp__law_one : Spc := VL.N.sp__law_one
abbrev sp__law_gate : Spc := VL.N.sp__law_gate
abbrev sp__law_letter : Spc := VL.N.sp__law_letter
abbrev sp__law_acted : Spc := VL.N.sp__law_acted
abbrev sp__law_projected : Spc := VL.N.sp__law_projected
abbrev sp__law_turned : Spc := VL.N.sp__law_turned
abbrev sp__law_next : Spc := sp_next
def sp_turned : Spc := fun ds h R _ => ∃ (p : Pa) (b : Nat), ds = [p.e, .int b] ∧ R (twp p b).e h
/-! ### the frame as an object -/
def nmQ (q : Nat) : Str := match q with
  | 0 => "a"
  | 1 => "b"
  | _ => "c"
def rowQ (X Z : Nat → Pa) (q : Nat) : Key × D := (.inr (nmQ q), .lst [(X q).e, (Z q).e])
def rowsL (n : Nat) (X Z : Nat → Pa) : List (Key × D) := (List.range n).map (rowQ X Z)
def namesD (n : Nat) : D := .lst ((List.range n).map fun q => .str (nmQ q))
structure FrAt (h : Oh) (a d : Addr) (n : Nat) (X Z : Nat → Pa) : Prop where
  ne : a ≠ d
  o : h a = some (.ins "Frame" [("rows", .obj d)])
  r : h d = some (mdP (rowsL n X Z))
  n3 : n ≤ 3
/-- the frame behind a change -/
def toR (h : Oh) (d : Addr) (n : Nat) (X Z : Nat → Pa) : Oh := h.put d (mdP (rowsL n X Z))
def sp_Frame___init__ : Spc := fun ds h R _ => ∃ a : Addr, ds = [.obj a] ∧ h a = some (.ins "Frame" []) ∧ ∀ d h', FrAt h' a d 0 xq zq1 → (∀ b u, h b = some u → b ≠ a → h' b = some u ∧ b ≠ d) → R .non h'
def sp_Frame_names : Spc := fun ds h R _ => ∃ (a d : Addr) (n : Nat) (X Z : Nat → Pa), ds = [.obj a] ∧ FrAt h a d n X Z ∧ R (namesD n) h
def sp_Frame_add : Spc := fun ds h R _ => ∃ (a d : Addr) (n : Nat), ds = [.obj a, .str (nmQ n), .int n] ∧ n < 3 ∧ FrAt h a d n xq zq1 ∧ R .non (toR h d (n + 1) xq zq1)
def sp_Frame_x : Spc := fun ds h R _ => ∃ (a d : Addr) (n q : Nat) (X Z : Nat → Pa), ds = [.obj a, .str (nmQ q)] ∧ q < n ∧ FrAt h a d n X Z ∧ R (X q).e h
def sp_Frame_z : Spc := fun ds h R _ => ∃ (a d : Addr) (n q : Nat) (X Z : Nat → Pa), ds = [.obj a, .str (nmQ q)] ∧ q < n ∧ FrAt h a d n X Z ∧ R (Z q).e h
def sp_Frame_put : Spc := fun ds h R _ => ∃ (a d : Addr) (n q : Nat) (X Z : Nat → Pa) (x z : Pa), ds = [.obj a, .str (nmQ q), x.e, z.e] ∧ q < n ∧ FrAt h a d n X Z ∧ R .non (toR h d n (ups1 X q x) (ups1 Z q z))
/-- Clifford gates on one qubit -/
def isC : G1 → Bool
  | .T => false
  | .TI => false
  | _ => true
def fx1 (g : G1) (q : Nat) (X Z : Nat → Pa) : Pa := match g with
  | .H => Z q
  | .S => prd (X q) (Z q)
  | .SI => prd (Z q) (X q)
  | .X => X q
  | .Y => twp (X q) 1
  | _ => twp (X q) 1
def fz1 (g : G1) (q : Nat) (X Z : Nat → Pa) : Pa := match g with
  | .H => X q
  | .X => twp (Z q) 1
  | .Y => twp (Z q) 1
  | _ => Z q
def fx2 (g : G2) (u t : Nat) (X Z : Nat → Pa) : Nat → Pa := match g with
  | .CX => ups1 (ups1 X u (prd (X u) (X t))) t (X t)
  | .CZ => ups1 (ups1 X u (prd (X u) (Z t))) t (prd (Z u) (X t))
def fz2 (g : G2) (u t : Nat) (X Z : Nat → Pa) : Nat → Pa := match g with
  | .CX => ups1 (ups1 Z u (Z u)) t (prd (Z u) (Z t))
  | .CZ => ups1 (ups1 Z u (Z u)) t (Z t)
def Bs (n : Nat) (X Z : Nat → Pa) : Prop := ∀ q, q < n → PB n (X q) ∧ PB n (Z q)
def sp_Frame_pair : Spc := fun ds h R _ => ∃ (a d : Addr) (n : Nat) (X Z : Nat → Pa) (g : G2) (u t : Nat), ds = [.obj a, .str g.nm, .str (nmQ u), .str (nmQ t)] ∧ u < n ∧ t < n ∧ u ≠ t ∧ FrAt h a d n X Z ∧ Bs n X Z ∧ R .non (toR h d n (fx2 g u t X Z) (fz2 g u t X Z))
def sp_Frame_gate : Spc := fun ds h R _ => ∃ (a d : Addr) (n : Nat) (X Z : Nat → Pa), FrAt h a d n X Z ∧ Bs n X Z ∧
  ((∃ (g : G1) (q : Nat), ds = [.obj a, .str g.nm, .tup [.str (nmQ q)]] ∧ q < n ∧ isC g = true ∧ R .non (toR h d n (ups1 X q (fx1 g q X Z)) (ups1 Z q (fz1 g q X Z)))) ∨
   (∃ (g : G2) (u t : Nat), ds = [.obj a, .str g.nm, .tup [.str (nmQ u), .str (nmQ t)]] ∧ u < n ∧ t < n ∧ u ≠ t ∧ R .non (toR h d n (fx2 g u t X Z) (fz2 g u t X Z))))
def sp_Frame_turn : Spc := fun ds h R _ => ∃ (a d : Addr) (n : Nat) (X Z : Nat → Pa) (p : Pa), ds = [.obj a, p.e] ∧ FrAt h a d n X Z ∧ Bs n X Z ∧ PB n p ∧ R .non (toR h d n (fun q => tnp p (X q)) (fun q => tnp p (Z q)))
def sp_Frame_flip : Spc := fun ds h R _ => ∃ (a d : Addr) (n : Nat) (X Z : Nat → Pa) (p : Pa), ds = [.obj a, p.e] ∧ FrAt h a d n X Z ∧ Bs n X Z ∧ PB n p ∧ R .non (toR h d n (fun q => flp p (X q)) (fun q => flp p (Z q)))
/-! ### the law's own -/
def sp__law_times : Spc := fun ds h R _ => ∃ (x z : Nat) (p : Pa), ds = [.tup [.int x, .int z, .int 0], p.e] ∧ x < 2 ^ 4 ∧ z < 2 ^ 4 ∧ PB 4 p ∧ R (.tup [.tup [.int (x ^^^ p.x : Nat), .int (z ^^^ p.z : Nat)], .int (trN ⟨x, z, 0⟩ p : Nat)]) h
def imD (r : (Nat × Nat) × Nat) : D := if r.2 % 2 = 1 then .non else .tup [.int r.1.1, .int r.1.2, .int (r.2 % 4 / 2 : Nat)]
def sp__law_image : Spc := fun ds h R _ => ∃ (a d : Addr) (n : Nat) (X Z : Nat → Pa) (x z : Nat), ds = [.obj a, .tup [.int x, .int z, .int 0], namesD n] ∧ FrAt h a d n X Z ∧ Bs n X Z ∧ x < 2 ^ n ∧ z < 2 ^ n ∧ R (imD (imN X Z x z n)) h
@[irreducible] def sp__law_state : Spc := fun ds h R _ => ∃ (t : Addr) (n : Nat), ds = [.obj t, .int n] ∧ 0 < n ∧ n ≤ 3 ∧ Tp h t ∧ ∀ s h', St n 32 8 s → Tp h' t → But t h h' → R (stD s) h'
abbrev sp_law : Spc := sp_true
end K36

set_option Elab.async false
set_option linter.all false
set_option maxRecDepth 100000
namespace K36
open PySem PySem.Spec L2 VL

def w_ones_paulis_b1_1 : WS :=
  (wAug 1 opAddI (wC (.int 1)))
def w_ones_paulis_b1 : WS :=
  (wSeq (wAug 0 opAnd (wOp opSub (wVar 0) (wC (.int 1))))
  w_ones_paulis_b1_1)
def w_ones_paulis_t1 : WT :=
  (wB (wVar 0))
def w_ones_paulis_2 : WS :=
  (wRet (wVar 1))
def w_ones_paulis_1 : WS :=
  (wSeq (wWhile w_ones_paulis_t1 w_ones_paulis_b1)
  w_ones_paulis_2)
def w_ones_paulis : WS :=
  (wSeq (wAsg (wC (.int 0)) (gVar 1))
  w_ones_paulis_1)
def w_commutes : WS :=
  (wRet (wOp opEq (wOp opMod (wCall sp_ones_paulis (wCons (wOp opAnd (wIx (wVar 0) (wC (.int 0))) (wIx (wVar 1) (wC (.int 1)))) wNil)) (wC (.int 2))) (wOp opMod (wCall sp_ones_paulis (wCons (wOp opAnd (wIx (wVar 0) (wC (.int 1))) (wIx (wVar 1) (wC (.int 0)))) wNil)) (wC (.int 2)))))
def w_product_4 : WS :=
  (wRet (wTup (wCons (wVar 2) (wCons (wVar 3) (wCons (wOp opDiv (wVar 4) (wC (.int 2))) wNil)))))
def w_product_3 : WS :=
  (wSeq (wAsg (wOp opMod (wOp opSub (wOp opAdd (wVar 4) (wOp opMulS (wC (.int 2)) (wCall sp_ones_paulis (wCons (wOp opAnd (wIx (wVar 0) (wC (.int 1))) (wIx (wVar 1) (wC (.int 0)))) wNil)))) (wCall sp_ones_paulis (wCons (wOp opAnd (wVar 2) (wVar 3)) wNil))) (wC (.int 4))) (gVar 4))
  w_product_4)
def w_product_2 : WS :=
  (wSeq (wAsg (wOp opAdd (wOp opAdd (wOp opMulS (wC (.int 2)) (wOp opAdd (wIx (wVar 0) (wC (.int 2))) (wIx (wVar 1) (wC (.int 2))))) (wCall sp_ones_paulis (wCons (wOp opAnd (wIx (wVar 0) (wC (.int 0))) (wIx (wVar 0) (wC (.int 1)))) wNil))) (wCall sp_ones_paulis (wCons (wOp opAnd (wIx (wVar 1) (wC (.int 0))) (wIx (wVar 1) (wC (.int 1)))) wNil))) (gVar 4))
  w_product_3)
def w_product_1 : WS :=
  (wSeq (wAsg (wOp opXor (wIx (wVar 0) (wC (.int 1))) (wIx (wVar 1) (wC (.int 1)))) (gVar 3))
  w_product_2)
def w_product : WS :=
  (wSeq (wAsg (wOp opXor (wIx (wVar 0) (wC (.int 0))) (wIx (wVar 1) (wC (.int 0)))) (gVar 2))
  w_product_1)
def w_single_1 : WS :=
  (wRet (wTup (wCons (wOp opShl (wOp opAnd (wVar 2) (wC (.int 1))) (wVar 1)) (wCons (wOp opShl (wOp opShr (wVar 2) (wC (.int 1))) (wVar 1)) (wCons (wC (.int 0)) wNil)))))
def w_single : WS :=
  (wSeq (wAsg (wM1 mIndex (wC k_NAMES) (wVar 0)) (gVar 2))
  w_single_1)
def w_turned_1 : WS :=
  (wRet (wTup (wCons (wVar 2) (wCons (wVar 3) (wCons (wOp opXor (wVar 4) (wVar 1)) wNil)))))
def w_turned : WS :=
  (wSeq (wAsg (wVar 0) (gTp 3 (gsCons (gVar 2) (gsCons (gVar 3) (gsCons (gVar 4) gsNil)))))
  w_turned_1)
def w_Frame___init__ : WS :=
  (wSetFM "Frame" "rows" (wVar 0) wDNew)
def w_Frame_names : WS :=
  (wRet (wKeys (wFld "Frame" "rows" (wVar 0))))
def w_Frame_add_1 : WS :=
  (wDPut (wFld "Frame" "rows" (wVar 0)) (wVar 1) (wLst (wCons (wCall sp_single (wCons (wC (.str "X")) (wCons (wVar 2) wNil))) (wCons (wCall sp_single (wCons (wC (.str "Z")) (wCons (wVar 2) wNil))) wNil))))
def w_Frame_add : WS :=
  (wSeq (wIfS (wBb (wDIn true (wVar 1) (wFld "Frame" "rows" (wVar 0)))) (wRaise "NotValid") wNext)
  w_Frame_add_1)
def w_Frame_x : WS :=
  (wRet (wIx (wDGet (wFld "Frame" "rows" (wVar 0)) (wVar 1)) (wC (.int 0))))
def w_Frame_z : WS :=
  (wRet (wIx (wDGet (wFld "Frame" "rows" (wVar 0)) (wVar 1)) (wC (.int 1))))
def w_Frame_put : WS :=
  (wDPut (wFld "Frame" "rows" (wVar 0)) (wVar 1) (wLst (wCons (wVar 2) (wCons (wVar 3) wNil))))
def w_Frame_gate_2 : WS :=
  (wIfS (wBb (wOp opEq (wVar 1) (wC (.str "H")))) (wDrop (wMeth "Frame" "put" sp_Frame_put (wVar 0) (wCons (wVar 3) (wCons (wVar 5) (wCons (wVar 4) wNil))))) (wIfS (wBb (wOp opEq (wVar 1) (wC (.str "S")))) (wDrop (wMeth "Frame" "put" sp_Frame_put (wVar 0) (wCons (wVar 3) (wCons (wCall sp_product (wCons (wVar 4) (wCons (wVar 5) wNil))) (wCons (wVar 5) wNil))))) (wIfS (wBb (wOp opEq (wVar 1) (wC (.str "SI")))) (wDrop (wMeth "Frame" "put" sp_Frame_put (wVar 0) (wCons (wVar 3) (wCons (wCall sp_product (wCons (wVar 5) (wCons (wVar 4) wNil))) (wCons (wVar 5) wNil))))) (wIfS (wBb (wOp opEq (wVar 1) (wC (.str "X")))) (wDrop (wMeth "Frame" "put" sp_Frame_put (wVar 0) (wCons (wVar 3) (wCons (wVar 4) (wCons (wCall sp_turned (wCons (wVar 5) (wCons (wC (.int 1)) wNil))) wNil))))) (wIfS (wBb (wOp opEq (wVar 1) (wC (.str "Y")))) (wDrop (wMeth "Frame" "put" sp_Frame_put (wVar 0) (wCons (wVar 3) (wCons (wCall sp_turned (wCons (wVar 4) (wCons (wC (.int 1)) wNil))) (wCons (wCall sp_turned (wCons (wVar 5) (wCons (wC (.int 1)) wNil))) wNil))))) (wIfS (wBb (wOp opEq (wVar 1) (wC (.str "Z")))) (wDrop (wMeth "Frame" "put" sp_Frame_put (wVar 0) (wCons (wVar 3) (wCons (wCall sp_turned (wCons (wVar 4) (wCons (wC (.int 1)) wNil))) (wCons (wVar 5) wNil))))) (wIfS (wOr (wBb (wOp opEq (wVar 1) (wC (.str "CX")))) (wBb (wOp opEq (wVar 1) (wC (.str "CZ"))))) (wDrop (wMeth "Frame" "pair" sp_Frame_pair (wVar 0) (wCons (wVar 1) (wCons (wVar 3) (wCons (wIx (wVar 2) (wC (.int 1))) wNil))))) (wRaise "NotValid"))))))))
def w_Frame_gate_1 : WS :=
  (wSeq (wPar 4 5 (wCons (wMeth "Frame" "x" sp_Frame_x (wVar 0) (wCons (wVar 3) wNil)) (wCons (wMeth "Frame" "z" sp_Frame_z (wVar 0) (wCons (wVar 3) wNil)) wNil)))
  w_Frame_gate_2)
def w_Frame_gate : WS :=
  (wSeq (wAsg (wIx (wVar 2) (wC (.int 0))) (gVar 3))
  w_Frame_gate_1)
def w_Frame_pair_2 : WS :=
  (wIfS (wBb (wOp opEq (wVar 1) (wC (.str "CX")))) (wSeq (wDrop (wMeth "Frame" "put" sp_Frame_put (wVar 0) (wCons (wVar 2) (wCons (wCall sp_product (wCons (wVar 4) (wCons (wVar 6) wNil))) (wCons (wVar 5) wNil)))))
  (wDrop (wMeth "Frame" "put" sp_Frame_put (wVar 0) (wCons (wVar 3) (wCons (wVar 6) (wCons (wCall sp_product (wCons (wVar 5) (wCons (wVar 7) wNil))) wNil)))))) (wSeq (wDrop (wMeth "Frame" "put" sp_Frame_put (wVar 0) (wCons (wVar 2) (wCons (wCall sp_product (wCons (wVar 4) (wCons (wVar 7) wNil))) (wCons (wVar 5) wNil)))))
  (wDrop (wMeth "Frame" "put" sp_Frame_put (wVar 0) (wCons (wVar 3) (wCons (wCall sp_product (wCons (wVar 5) (wCons (wVar 6) wNil))) (wCons (wVar 7) wNil)))))))
def w_Frame_pair_1 : WS :=
  (wSeq (wPar 6 7 (wCons (wMeth "Frame" "x" sp_Frame_x (wVar 0) (wCons (wVar 3) wNil)) (wCons (wMeth "Frame" "z" sp_Frame_z (wVar 0) (wCons (wVar 3) wNil)) wNil)))
  w_Frame_pair_2)
def w_Frame_pair : WS :=
  (wSeq (wPar 4 5 (wCons (wMeth "Frame" "x" sp_Frame_x (wVar 0) (wCons (wVar 2) wNil)) (wCons (wMeth "Frame" "z" sp_Frame_z (wVar 0) (wCons (wVar 2) wNil)) wNil)))
  w_Frame_pair_1)
def w_Frame_turn_b1 : WS :=
  (wDPut (wFld "Frame" "rows" (wVar 0)) (wVar 2) (wLc (wItL (wDGet (wFld "Frame" "rows" (wVar 0)) (wVar 2))) (gVar 3) wYes (wIf (wB (wCall sp_commutes (wCons (wVar 3) (wCons (wVar 1) wNil)))) (wVar 3) (wCall sp_product (wCons (wVar 3) (wCons (wVar 1) wNil)))) [3]))
def w_Frame_turn : WS :=
  (wFor (wItL (wKeys (wFld "Frame" "rows" (wVar 0)))) (gVar 2) w_Frame_turn_b1)
def w_Frame_flip_b1 : WS :=
  (wDPut (wFld "Frame" "rows" (wVar 0)) (wVar 2) (wLc (wItL (wDGet (wFld "Frame" "rows" (wVar 0)) (wVar 2))) (gVar 3) wYes (wCall sp_turned (wCons (wVar 3) (wCons (wCB bInt (wCons (wNotV (wCall sp_commutes (wCons (wVar 3) (wCons (wVar 1) wNil)))) wNil)) wNil))) [3]))
def w_Frame_flip : WS :=
  (wFor (wItL (wKeys (wFld "Frame" "rows" (wVar 0)))) (gVar 2) w_Frame_flip_b1)
def w_formed_b1 : WS :=
  (wAsg (wTup (wCons (wOp opSub (wVar 1) (wVar 3)) (wCons (wOp opAdd (wVar 0) (wVar 2)) (wCons (wOp opAdd (wVar 1) (wVar 3)) (wCons (wOp opSub (wVar 2) (wVar 0)) (wCons (wOp opAdd (wVar 4) (wC (.int 1))) wNil)))))) (gTp 5 (gsCons (gVar 0) (gsCons (gVar 1) (gsCons (gVar 2) (gsCons (gVar 3) (gsCons (gVar 4) gsNil)))))))
def w_formed_t1 : WT :=
  (wBb (wOp opLt (wVar 4) (wC (.int 0))))
def w_formed_b2 : WS :=
  (wAsg (wTup (wCons (wOp opDiv (wOp opSub (wVar 1) (wVar 3)) (wC (.int 2))) (wCons (wOp opDiv (wOp opAdd (wVar 0) (wVar 2)) (wC (.int 2))) (wCons (wOp opDiv (wOp opAdd (wVar 1) (wVar 3)) (wC (.int 2))) (wCons (wOp opDiv (wOp opSub (wVar 2) (wVar 0)) (wC (.int 2))) (wCons (wOp opSub (wVar 4) (wC (.int 1))) wNil)))))) (gTp 5 (gsCons (gVar 0) (gsCons (gVar 1) (gsCons (gVar 2) (gsCons (gVar 3) (gsCons (gVar 4) gsNil)))))))
def w_formed_t2 : WT :=
  (wAnd (wBb (wOp opGt (wVar 4) (wC (.int 0)))) (wAnd (wBb (wOp opEq (wOp opAnd (wOp opSub (wVar 1) (wVar 3)) (wC (.int 1))) (wC (.int 0)))) (wBb (wOp opEq (wOp opAnd (wOp opAdd (wVar 0) (wVar 2)) (wC (.int 1))) (wC (.int 0))))))
def w_formed_3 : WS :=
  (wRet (wTup (wCons (wVar 0) (wCons (wVar 1) (wCons (wVar 2) (wCons (wVar 3) (wCons (wVar 4) wNil)))))))
def w_formed_2 : WS :=
  (wSeq (wWhile w_formed_t2 w_formed_b2)
  w_formed_3)
def w_formed_1 : WS :=
  (wSeq (wWhile w_formed_t1 w_formed_b1)
  w_formed_2)
def w_formed : WS :=
  (wSeq (wIfS (wAnd (wBb (wOp opEq (wVar 0) (wC (.int 0)))) (wAnd (wBb (wOp opEq (wVar 1) (wC (.int 0)))) (wAnd (wBb (wOp opEq (wVar 2) (wC (.int 0)))) (wBb (wOp opEq (wVar 3) (wC (.int 0))))))) (wRet (wC k_ZERO)) wNext)
  w_formed_1)
def w_raised_b1 : WS :=
  (wAsg (wTup (wCons (wOp opSub (wVar 3) (wVar 5)) (wCons (wOp opAdd (wVar 2) (wVar 4)) (wCons (wOp opAdd (wVar 3) (wVar 5)) (wCons (wOp opSub (wVar 4) (wVar 2)) (wCons (wOp opAdd (wVar 6) (wC (.int 1))) wNil)))))) (gTp 5 (gsCons (gVar 2) (gsCons (gVar 3) (gsCons (gVar 4) (gsCons (gVar 5) (gsCons (gVar 6) gsNil)))))))
def w_raised_t1 : WT :=
  (wBb (wOp opLt (wVar 6) (wVar 1)))
def w_raised_2 : WS :=
  (wRet (wTup (wCons (wVar 2) (wCons (wVar 3) (wCons (wVar 4) (wCons (wVar 5) wNil))))))
def w_raised_1 : WS :=
  (wSeq (wWhile w_raised_t1 w_raised_b1)
  w_raised_2)
def w_raised : WS :=
  (wSeq (wAsg (wVar 0) (gTp 5 (gsCons (gVar 2) (gsCons (gVar 3) (gsCons (gVar 4) (gsCons (gVar 5) (gsCons (gVar 6) gsNil)))))))
  w_raised_1)
def w_plus_3 : WS :=
  (wRet (wCall sp_formed (wCons (wOp opAdd (wIx (wVar 3) (wC (.int 0))) (wIx (wVar 4) (wC (.int 0)))) (wCons (wOp opAdd (wIx (wVar 3) (wC (.int 1))) (wIx (wVar 4) (wC (.int 1)))) (wCons (wOp opAdd (wIx (wVar 3) (wC (.int 2))) (wIx (wVar 4) (wC (.int 2)))) (wCons (wOp opAdd (wIx (wVar 3) (wC (.int 3))) (wIx (wVar 4) (wC (.int 3)))) (wCons (wVar 2) wNil)))))))
def w_plus_2 : WS :=
  (wSeq (wAsg (wCall sp_raised (wCons (wVar 1) (wCons (wVar 2) wNil))) (gVar 4))
  w_plus_3)
def w_plus_1 : WS :=
  (wSeq (wAsg (wCall sp_raised (wCons (wVar 0) (wCons (wVar 2) wNil))) (gVar 3))
  w_plus_2)
def w_plus : WS :=
  (wSeq (wAsg (wCB bMax (wCons (wIx (wVar 0) (wC (.int 4))) (wCons (wIx (wVar 1) (wC (.int 4))) wNil))) (gVar 2))
  w_plus_1)
def w_negative : WS :=
  (wRet (wTup (wCons (wUn opNeg (wIx (wVar 0) (wC (.int 0)))) (wCons (wUn opNeg (wIx (wVar 0) (wC (.int 1)))) (wCons (wUn opNeg (wIx (wVar 0) (wC (.int 2)))) (wCons (wUn opNeg (wIx (wVar 0) (wC (.int 3)))) (wCons (wIx (wVar 0) (wC (.int 4))) wNil)))))))
def w_minus : WS :=
  (wRet (wCall sp_plus (wCons (wVar 0) (wCons (wCall sp_negative (wCons (wVar 1) wNil)) wNil))))
def w_times_2 : WS :=
  (wRet (wCall sp_formed (wCons (wOp opSub (wOp opSub (wOp opSub (wOp opMulS (wVar 2) (wVar 7)) (wOp opMulS (wVar 3) (wVar 10))) (wOp opMulS (wVar 4) (wVar 9))) (wOp opMulS (wVar 5) (wVar 8))) (wCons (wOp opSub (wOp opSub (wOp opAdd (wOp opMulS (wVar 2) (wVar 8)) (wOp opMulS (wVar 3) (wVar 7))) (wOp opMulS (wVar 4) (wVar 10))) (wOp opMulS (wVar 5) (wVar 9))) (wCons (wOp opSub (wOp opAdd (wOp opAdd (wOp opMulS (wVar 2) (wVar 9)) (wOp opMulS (wVar 3) (wVar 8))) (wOp opMulS (wVar 4) (wVar 7))) (wOp opMulS (wVar 5) (wVar 10))) (wCons (wOp opAdd (wOp opAdd (wOp opAdd (wOp opMulS (wVar 2) (wVar 10)) (wOp opMulS (wVar 3) (wVar 9))) (wOp opMulS (wVar 4) (wVar 8))) (wOp opMulS (wVar 5) (wVar 7))) (wCons (wOp opAdd (wVar 6) (wVar 11)) wNil)))))))
def w_times_1 : WS :=
  (wSeq (wAsg (wVar 1) (gTp 5 (gsCons (gVar 7) (gsCons (gVar 8) (gsCons (gVar 9) (gsCons (gVar 10) (gsCons (gVar 11) gsNil)))))))
  w_times_2)
def w_times : WS :=
  (wSeq (wAsg (wVar 0) (gTp 5 (gsCons (gVar 2) (gsCons (gVar 3) (gsCons (gVar 4) (gsCons (gVar 5) (gsCons (gVar 6) gsNil)))))))
  w_times_1)
def w_conjugate_1 : WS :=
  (wRet (wTup (wCons (wVar 1) (wCons (wUn opNeg (wVar 4)) (wCons (wUn opNeg (wVar 3)) (wCons (wUn opNeg (wVar 2)) (wCons (wVar 5) wNil)))))))
def w_conjugate : WS :=
  (wSeq (wAsg (wVar 0) (gTp 5 (gsCons (gVar 1) (gsCons (gVar 2) (gsCons (gVar 3) (gsCons (gVar 4) (gsCons (gVar 5) gsNil)))))))
  w_conjugate_1)
def w_root_2 : WS :=
  (wRet (wTup (wCons (wIxO 1 (wC (.int 0))) (wCons (wIxO 1 (wC (.int 1))) (wCons (wIxO 1 (wC (.int 2))) (wCons (wIxO 1 (wC (.int 3))) (wCons (wC (.int 0)) wNil)))))))
def w_root_1 : WS :=
  (wSeq (wAsg (wIf (wBb (wOp opEq (wOp opAnd (wVar 0) (wC (.int 4))) (wC (.int 0)))) (wC (.int 1)) (wUn opNeg (wC (.int 1)))) (gIxO 1 (wOp opAnd (wVar 0) (wC (.int 3)))))
  w_root_2)
def w_root : WS :=
  (wSeq (wSetO 1 (wLst (wCons (wC (.int 0)) (wCons (wC (.int 0)) (wCons (wC (.int 0)) (wCons (wC (.int 0)) wNil))))))
  w_root_1)
def w_total_b1 : WS :=
  (wAsg (wCall sp_plus (wCons (wVar 1) (wCons (wVar 2) wNil))) (gVar 1))
def w_total_2 : WS :=
  (wRet (wVar 1))
def w_total_1 : WS :=
  (wSeq (wFor (wItL (wVar 0)) (gVar 2) w_total_b1)
  w_total_2)
def w_total : WS :=
  (wSeq (wAsg (wC k_ZERO) (gVar 1))
  w_total_1)
def w_ones_states_b1_1 : WS :=
  (wAug 1 opAddI (wC (.int 1)))
def w_ones_states_b1 : WS :=
  (wSeq (wAug 0 opAnd (wOp opSub (wVar 0) (wC (.int 1))))
  w_ones_states_b1_1)
def w_ones_states_t1 : WT :=
  (wBb (wOp opGt (wVar 0) (wC (.int 0))))
def w_ones_states_2 : WS :=
  (wRet (wVar 1))
def w_ones_states_1 : WS :=
  (wSeq (wWhile w_ones_states_t1 w_ones_states_b1)
  w_ones_states_2)
def w_ones_states : WS :=
  (wSeq (wAsg (wC (.int 0)) (gVar 1))
  w_ones_states_1)
def w_zeros : WS :=
  (wRet (wOp opAdd (wLst (wCons (wC k_ONE) wNil)) (wOp opRep (wLst (wCons (wC k_ZERO) wNil)) (wOp opSub (wOp opShl (wC (.int 1)) (wVar 0)) (wC (.int 1))))))
def w_mixed_b1_2 : WS :=
  (wApp 2 (wCall sp_times (wCons (wC k_ROOT) (wCons (wIf (wBb (wOp opEq (wOp opAnd (wVar 3) (wVar 1)) (wC (.int 0)))) (wCall sp_plus (wCons (wVar 4) (wCons (wVar 5) wNil))) (wCall sp_minus (wCons (wVar 4) (wCons (wVar 5) wNil)))) wNil))))
def w_mixed_b1_1 : WS :=
  (wSeq (wAsg (wIx (wVar 0) (wOp opOr (wVar 3) (wVar 1))) (gVar 5))
  w_mixed_b1_2)
def w_mixed_b1 : WS :=
  (wSeq (wAsg (wIx (wVar 0) (wOp opAnd (wVar 3) (wUn opInv (wVar 1)))) (gVar 4))
  w_mixed_b1_1)
def w_mixed_2 : WS :=
  (wRet (wVar 2))
def w_mixed_1 : WS :=
  (wSeq (wFor (wRng1 (wCons (wCB bLen (wCons (wVar 0) wNil)) wNil)) (gVar 3) w_mixed_b1)
  w_mixed_2)
def w_mixed : WS :=
  (wSeq (wSetO 2 (wLst wNil))
  w_mixed_1)
def w_gate_8 : WS :=
  (wRet (wLc (wItR (wVar 4)) (gVar 7) wYes (wIf (wB (wOp opAnd (wVar 7) (wVar 3))) (wCall sp_times (wCons (wVar 5) (wCons (wIx (wVar 0) (wVar 7)) wNil))) (wIx (wVar 0) (wVar 7))) [7]))
def w_gate_7 : WS :=
  (wSeq (wAsg (wCall sp_root (wCons (wTab k_FACTORS (wVar 1)) wNil)) (gVar 5))
  w_gate_8)
def w_gate_6 : WS :=
  (wSeq (wIfS (wBb (wTabIn false k_FACTORS (wVar 1))) (wRaise "NotValid") wNext)
  w_gate_7)
def w_gate_5 : WS :=
  (wSeq (wIfS (wBb (wOp opEq (wVar 1) (wC (.str "Y")))) (wRet (wLc (wItR (wVar 4)) (gVar 7) wYes (wCall sp_times (wCons (wCall sp_root (wCons (wIf (wB (wOp opAnd (wVar 7) (wVar 3))) (wC (.int 2)) (wC (.int 6))) wNil)) (wCons (wIx (wVar 0) (wOp opXor (wVar 7) (wVar 3))) wNil))) [7])) wNext)
  w_gate_6)
def w_gate_4 : WS :=
  (wSeq (wIfS (wBb (wOp opEq (wVar 1) (wC (.str "X")))) (wRet (wLc (wItR (wVar 4)) (gVar 7) wYes (wIx (wVar 0) (wOp opXor (wVar 7) (wVar 3))) [7])) wNext)
  w_gate_5)
def w_gate_3 : WS :=
  (wSeq (wIfS (wBb (wOp opEq (wVar 1) (wC (.str "H")))) (wRet (wCall sp_mixed (wCons (wVar 0) (wCons (wVar 3) wNil)))) wNext)
  w_gate_4)
def w_gate_2 : WS :=
  (wSeq (wIfS (wBb (wOp opInD (wVar 1) (wC k_PAIRS))) (wSeq (wAsg (wOp opShl (wC (.int 1)) (wIx (wVar 2) (wC (.int 1)))) (gVar 6))
  (wSeq (wIfS (wBb (wOp opEq (wVar 1) (wC (.str "CX")))) (wRet (wLc (wItR (wVar 4)) (gVar 7) wYes (wIx (wVar 0) (wIf (wB (wOp opAnd (wVar 7) (wVar 3))) (wOp opXor (wVar 7) (wVar 6)) (wVar 7))) [7])) wNext)
  (wRet (wLc (wItR (wVar 4)) (gVar 7) wYes (wIf (wAnd (wB (wOp opAnd (wVar 7) (wVar 3))) (wB (wOp opAnd (wVar 7) (wVar 6)))) (wCall sp_negative (wCons (wIx (wVar 0) (wVar 7)) wNil)) (wIx (wVar 0) (wVar 7))) [7])))) wNext)
  w_gate_3)
def w_gate_1 : WS :=
  (wSeq (wAsg (wRngV (wCB bLen (wCons (wVar 0) wNil))) (gVar 4))
  w_gate_2)
def w_gate : WS :=
  (wSeq (wAsg (wOp opShl (wC (.int 1)) (wIx (wVar 2) (wC (.int 0)))) (gVar 3))
  w_gate_1)
def w_acted_b1_2 : WS :=
  (wApp 3 (wCall sp_times (wCons (wCall sp_root (wCons (wOp opAdd (wVar 2) (wOp opMulS (wC (.int 4)) (wVar 9))) wNil)) (wCons (wIx (wVar 0) (wVar 8)) wNil))))
def w_acted_b1_1 : WS :=
  (wSeq (wAsg (wOp opAnd (wCall sp_ones_states (wCons (wOp opAnd (wVar 8) (wVar 6)) wNil)) (wC (.int 1))) (gVar 9))
  w_acted_b1_2)
def w_acted_b1 : WS :=
  (wSeq (wAsg (wOp opXor (wVar 4) (wVar 5)) (gVar 8))
  w_acted_b1_1)
def w_acted_4 : WS :=
  (wRet (wVar 3))
def w_acted_3 : WS :=
  (wSeq (wFor (wRng1 (wCons (wCB bLen (wCons (wVar 0) wNil)) wNil)) (gVar 4) w_acted_b1)
  w_acted_4)
def w_acted_2 : WS :=
  (wSeq (wSetO 3 (wLst wNil))
  w_acted_3)
def w_acted_1 : WS :=
  (wSeq (wAsg (wOp opAdd (wOp opMulS (wC (.int 2)) (wCall sp_ones_states (wCons (wOp opAnd (wVar 5) (wVar 6)) wNil))) (wOp opMulS (wC (.int 4)) (wVar 7))) (gVar 2))
  w_acted_2)
def w_acted : WS :=
  (wSeq (wAsg (wVar 1) (gTp 3 (gsCons (gVar 5) (gsCons (gVar 6) (gsCons (gVar 7) gsNil)))))
  w_acted_1)
def w_projected_2 : WS :=
  (wRet (wLc (wItL (wVar 4)) (gVar 6) wYes (wCall sp_times (wCons (wC k_HALF) (wCons (wVar 6) wNil))) [6]))
def w_projected_1 : WS :=
  (wSeq (wAsg (wLc (wRng1 (wCons (wCB bLen (wCons (wVar 0) wNil)) wNil)) (gVar 5) wYes (wIf (wB (wVar 2)) (wCall sp_minus (wCons (wIx (wVar 0) (wVar 5)) (wCons (wIx (wVar 3) (wVar 5)) wNil))) (wCall sp_plus (wCons (wIx (wVar 0) (wVar 5)) (wCons (wIx (wVar 3) (wVar 5)) wNil)))) [5]) (gVar 4))
  w_projected_2)
def w_projected : WS :=
  (wSeq (wAsg (wCall sp_acted (wCons (wVar 0) (wCons (wVar 1) wNil))) (gVar 3))
  w_projected_1)
def w_norm : WS :=
  (wRet (wCall sp_total (wCons (wLc (wItL (wVar 0)) (gVar 1) wYes (wCall sp_times (wCons (wVar 1) (wCons (wCall sp_conjugate (wCons (wVar 1) wNil)) wNil))) [1]) wNil)))
def w_expected : WS :=
  (wRet (wCall sp_minus (wCons (wCall sp_norm (wCons (wCall sp_projected (wCons (wVar 0) (wCons (wVar 1) (wCons (wC (.int 0)) wNil)))) wNil)) (wCons (wCall sp_norm (wCons (wCall sp_projected (wCons (wVar 0) (wCons (wVar 1) (wCons (wC (.int 1)) wNil)))) wNil)) wNil))))
def w__law_next_6 : WS :=
  (wRet (wOp opMod (wCB bInt (wCons (wOp opDiv (wOp opMod (wOp opMulS (wIx (wVar 0) (wC (.int 3))) (wC (.int 16807))) (wC (.int 2147483647))) (wC (.int 7))) wNil)) (wVar 1)))
def w__law_next_5 : WS :=
  (wSeq (wAsg (wOp opMod (wCB bInt (wCons (wOp opAdd (wOp opAdd (wOp opMulS (wIx (wVar 0) (wC (.int 3))) (wC (.int 48271))) (wOp opMulS (wVar 3) (wC (.int 69621)))) (wC (.int 11))) wNil)) (wC (.int 2147483647))) (gIxM (wVar 0) (wC (.int 3))))
  w__law_next_6)
def w__law_next_4 : WS :=
  (wSeq (wIfS (wBb (wOp opGe (wVar 3) (wOp opPow (wC (.int 10)) (wC (.int 18))))) (wSeq (wAsg (wOp opDiv (wVar 3) (wVar 1)) (gIxM (wVar 0) (wC (.int 2))))
  (wRet (wOp opMod (wCB bInt (wCons (wVar 3) wNil)) (wVar 1)))) wNext)
  w__law_next_5)
def w__law_next_3 : WS :=
  (wSeq (wIfS (wBb (wOp opLt (wIx (wVar 0) (wC (.int 1))) (wCB bLen (wCons (wIx (wVar 0) (wC (.int 0))) wNil)))) (wSeq (wAsg (wCB bAbs (wCons (wIx (wIx (wVar 0) (wC (.int 0))) (wIx (wVar 0) (wC (.int 1)))) wNil)) (gVar 3))
  (wAugM (wVar 0) (wC (.int 1)) opAddI (wC (.int 1)))) wNext)
  w__law_next_4)
def w__law_next_2 : WS :=
  (wSeq (wAsg (wC (.int 0)) (gVar 3))
  w__law_next_3)
def w__law_next_1 : WS :=
  (wSeq (wIfS (wBb (wOp opGt (wVar 2) (wC (.int 0)))) (wSeq (wAsg (wOp opDiv (wVar 2) (wVar 1)) (gIxM (wVar 0) (wC (.int 2))))
  (wRet (wOp opMod (wCB bInt (wCons (wVar 2) wNil)) (wVar 1)))) wNext)
  w__law_next_2)
def w__law_next : WS :=
  (wSeq (wAsg (wIx (wVar 0) (wC (.int 2))) (gVar 2))
  w__law_next_1)
def w__law_matrix_6 : WS :=
  (wRet (wLst (wCons (wLst (wCons (wVar 3) (wCons (wVar 4) wNil))) (wCons (wLst (wCons (wVar 4) (wCons (wCall sp_root (wCons (wDGet (wVar 2) (wVar 0)) wNil)) wNil))) wNil))))
def w__law_matrix_5 : WS :=
  (wSeq (wIfS (wBb (wOp opEq (wVar 0) (wC (.str "Y")))) (wRet (wLst (wCons (wLst (wCons (wVar 4) (wCons (wCall sp_root (wCons (wC (.int 6)) wNil)) wNil))) (wCons (wLst (wCons (wCall sp_root (wCons (wC (.int 2)) wNil)) (wCons (wVar 4) wNil))) wNil)))) wNext)
  w__law_matrix_6)
def w__law_matrix_4 : WS :=
  (wSeq (wIfS (wBb (wOp opEq (wVar 0) (wC (.str "X")))) (wRet (wLst (wCons (wLst (wCons (wVar 4) (wCons (wVar 3) wNil))) (wCons (wLst (wCons (wVar 3) (wCons (wVar 4) wNil))) wNil)))) wNext)
  w__law_matrix_5)
def w__law_matrix_3 : WS :=
  (wSeq (wIfS (wBb (wOp opEq (wVar 0) (wC (.str "H")))) (wRet (wLst (wCons (wLst (wCons (wVar 5) (wCons (wVar 5) wNil))) (wCons (wLst (wCons (wVar 5) (wCons (wVar 1) wNil))) wNil)))) wNext)
  w__law_matrix_4)
def w__law_matrix_2 : WS :=
  (wSeq (wAsg (wDLit [((wC (.str "Z")), (wC (.int 4))), ((wC (.str "S")), (wC (.int 2))), ((wC (.str "SI")), (wC (.int 6))), ((wC (.str "T")), (wC (.int 1))), ((wC (.str "TI")), (wC (.int 7)))]) (gVar 2))
  w__law_matrix_3)
def w__law_matrix_1 : WS :=
  (wSeq (wAsg (wTup (wCons (wUn opNeg (wC (.int 1))) (wCons (wC (.int 0)) (wCons (wC (.int 0)) (wCons (wC (.int 0)) (wCons (wC (.int 1)) wNil)))))) (gVar 1))
  w__law_matrix_2)
def w__law_matrix : WS :=
  (wSeq (wAsg (wTup (wCons (wTup (wCons (wC (.int 1)) (wCons (wC (.int 0)) (wCons (wC (.int 0)) (wCons (wC (.int 0)) (wCons (wC (.int 0)) wNil)))))) (wCons (wTup (wCons (wC (.int 0)) (wCons (wC (.int 0)) (wCons (wC (.int 0)) (wCons (wC (.int 0)) (wCons (wC (.int 0)) wNil)))))) (wCons (wTup (wCons (wC (.int 1)) (wCons (wC (.int 0)) (wCons (wC (.int 0)) (wCons (wC (.int 0)) (wCons (wC (.int 1)) wNil)))))) wNil)))) (gTp 3 (gsCons (gVar 3) (gsCons (gVar 4) (gsCons (gVar 5) gsNil)))))
  w__law_matrix_1)
def w__law_one_b1_3 : WS :=
  (wApp 3 (wCall sp_plus (wCons (wCall sp_times (wCons (wIx (wVar 7) (wC (.int 0))) (wCons (wIx (wVar 0) (wVar 6)) wNil))) (wCons (wCall sp_times (wCons (wIx (wVar 7) (wC (.int 1))) (wCons (wIx (wVar 0) (wOp opAdd (wVar 6) (wOp opShl (wC (.int 1)) (wVar 2)))) wNil))) wNil))))
def w__law_one_b1_2 : WS :=
  (wSeq (wAsg (wIx (wVar 1) (wVar 5)) (gVar 7))
  w__law_one_b1_3)
def w__law_one_b1_1 : WS :=
  (wSeq (wAsg (wOp opSub (wVar 4) (wOp opMulS (wVar 5) (wOp opShl (wC (.int 1)) (wVar 2)))) (gVar 6))
  w__law_one_b1_2)
def w__law_one_b1 : WS :=
  (wSeq (wAsg (wOp opMod (wOp opDiv (wVar 4) (wOp opShl (wC (.int 1)) (wVar 2))) (wC (.int 2))) (gVar 5))
  w__law_one_b1_1)
def w__law_one_2 : WS :=
  (wRet (wVar 3))
def w__law_one_1 : WS :=
  (wSeq (wFor (wRng1 (wCons (wCB bLen (wCons (wVar 0) wNil)) wNil)) (gVar 4) w__law_one_b1)
  w__law_one_2)
def w__law_one : WS :=
  (wSeq (wSetO 3 (wLst wNil))
  w__law_one_1)
def w__law_gate_2 : WS :=
  (wRet (wLc (wRng1 (wCons (wCB bLen (wCons (wVar 0) wNil)) wNil)) (gVar 4) wYes (wIf (wBb (wOp opEq (wOp opMod (wOp opDiv (wVar 4) (wOp opShl (wC (.int 1)) (wIx (wVar 2) (wC (.int 0))))) (wC (.int 2))) (wC (.int 1)))) (wIx (wVar 3) (wVar 4)) (wIx (wVar 0) (wVar 4))) [4]))
def w__law_gate_1 : WS :=
  (wSeq (wAsg (wCall sp__law_one (wCons (wVar 0) (wCons (wCall sp__law_matrix (wCons (wDGet (wDLit [((wC (.str "CX")), (wC (.str "X"))), ((wC (.str "CZ")), (wC (.str "Z")))]) (wVar 1)) wNil)) (wCons (wIx (wVar 2) (wC (.int 1))) wNil)))) (gVar 3))
  w__law_gate_2)
def w__law_gate : WS :=
  (wSeq (wIfS (wBb (wOp opNotInD (wVar 1) (wTup (wCons (wC (.str "CX")) (wCons (wC (.str "CZ")) wNil))))) (wRet (wCall sp__law_one (wCons (wVar 0) (wCons (wCall sp__law_matrix (wCons (wVar 1) wNil)) (wCons (wIx (wVar 2) (wC (.int 0))) wNil))))) wNext)
  w__law_gate_1)
def w__law_letter : WS :=
  (wRet (wIx (wC (.str "IXZY")) (wOp opAdd (wOp opMod (wOp opDiv (wIx (wVar 0) (wC (.int 0))) (wOp opShl (wC (.int 1)) (wVar 1))) (wC (.int 2))) (wOp opMulS (wC (.int 2)) (wOp opMod (wOp opDiv (wIx (wVar 0) (wC (.int 1))) (wOp opShl (wC (.int 1)) (wVar 1))) (wC (.int 2)))))))
def w__law_acted_b1_1 : WS :=
  (wIfS (wBb (wOp opNe (wVar 5) (wC (.str "I")))) (wAsg (wCall sp__law_one (wCons (wVar 3) (wCons (wCall sp__law_matrix (wCons (wVar 5) wNil)) (wCons (wVar 4) wNil)))) (gVar 3)) wNext)
def w__law_acted_b1 : WS :=
  (wSeq (wAsg (wCall sp__law_letter (wCons (wVar 1) (wCons (wVar 4) wNil))) (gVar 5))
  w__law_acted_b1_1)
def w__law_acted_2 : WS :=
  (wRet (wLc (wItL (wVar 3)) (gVar 6) wYes (wCall sp_times (wCons (wCall sp_root (wCons (wOp opMulS (wC (.int 4)) (wIx (wVar 1) (wC (.int 2)))) wNil)) (wCons (wVar 6) wNil))) [6]))
def w__law_acted_1 : WS :=
  (wSeq (wFor (wRng1 (wCons (wVar 2) wNil)) (gVar 4) w__law_acted_b1)
  w__law_acted_2)
def w__law_acted : WS :=
  (wSeq (wAsg (wVar 0) (gVar 3))
  w__law_acted_1)
def w__law_projected_1 : WS :=
  (wRet (wLc (wRng1 (wCons (wCB bLen (wCons (wVar 0) wNil)) wNil)) (gVar 5) wYes (wCall sp_times (wCons (wTup (wCons (wC (.int 1)) (wCons (wC (.int 0)) (wCons (wC (.int 0)) (wCons (wC (.int 0)) (wCons (wC (.int 2)) wNil)))))) (wCons (wCall sp_plus (wCons (wIx (wVar 0) (wVar 5)) (wCons (wCall sp_times (wCons (wCall sp_root (wCons (wOp opMulS (wC (.int 4)) (wVar 2)) wNil)) (wCons (wIx (wVar 4) (wVar 5)) wNil))) wNil))) wNil))) [5]))
def w__law_projected : WS :=
  (wSeq (wAsg (wCall sp__law_acted (wCons (wVar 0) (wCons (wVar 1) (wCons (wVar 3) wNil)))) (gVar 4))
  w__law_projected_1)
def w__law_turned_2 : WS :=
  (wRet (wLc (wRng1 (wCons (wCB bLen (wCons (wVar 0) wNil)) wNil)) (gVar 5) wYes (wCall sp_plus (wCons (wIx (wVar 3) (wVar 5)) (wCons (wCall sp_times (wCons (wCall sp_root (wCons (wC (.int 2)) wNil)) (wCons (wIx (wVar 4) (wVar 5)) wNil))) wNil))) [5]))
def w__law_turned_1 : WS :=
  (wSeq (wAsg (wCall sp__law_projected (wCons (wVar 0) (wCons (wVar 1) (wCons (wC (.int 1)) (wCons (wVar 2) wNil))))) (gVar 4))
  w__law_turned_2)
def w__law_turned : WS :=
  (wSeq (wAsg (wCall sp__law_projected (wCons (wVar 0) (wCons (wVar 1) (wCons (wC (.int 0)) (wCons (wVar 2) wNil))))) (gVar 3))
  w__law_turned_1)
def w__law_times_b1_1 : WS :=
  (wAug 2 opAddI (wDGetD (wDLit [((wC (.str "XY")), (wC (.int 1))), ((wC (.str "YZ")), (wC (.int 1))), ((wC (.str "ZX")), (wC (.int 1))), ((wC (.str "YX")), (wC (.int 3))), ((wC (.str "ZY")), (wC (.int 3))), ((wC (.str "XZ")), (wC (.int 3)))]) (wVar 6) (wC (.int 0))))
def w__law_times_b1 : WS :=
  (wSeq (wAsg (wOp opAdd (wCall sp__law_letter (wCons (wVar 0) (wCons (wVar 3) wNil))) (wCall sp__law_letter (wCons (wVar 1) (wCons (wVar 3) wNil)))) (gVar 6))
  w__law_times_b1_1)
def w__law_times_3 : WS :=
  (wRet (wTup (wCons (wTup (wCons (wVar 4) (wCons (wVar 5) wNil))) (wCons (wOp opMod (wVar 2) (wC (.int 4))) wNil))))
def w__law_times_2 : WS :=
  (wSeq (wFor (wRng1 (wCons (wC (.int 4)) wNil)) (gVar 3) w__law_times_b1)
  w__law_times_3)
def w__law_times_1 : WS :=
  (wSeq (wAsg (wOp opAdd (wOp opMulS (wC (.int 2)) (wIx (wVar 0) (wC (.int 2)))) (wOp opMulS (wC (.int 2)) (wIx (wVar 1) (wC (.int 2))))) (gVar 2))
  w__law_times_2)
def w__law_times : WS :=
  (wSeq (wPar 4 5 (wCons (wOp opXor (wIx (wVar 0) (wC (.int 0))) (wIx (wVar 1) (wC (.int 0)))) (wCons (wOp opXor (wIx (wVar 0) (wC (.int 1))) (wIx (wVar 1) (wC (.int 1)))) wNil)))
  w__law_times_1)
def w__law_image_b2_2 : WS :=
  (wAug 4 opAddI (wVar 10))
def w__law_image_b2_1 : WS :=
  (wSeq (wAsg (wTup (wCons (wIx (wVar 9) (wC (.int 0))) (wCons (wIx (wVar 9) (wC (.int 1))) (wCons (wC (.int 0)) wNil)))) (gVar 5))
  w__law_image_b2_2)
def w__law_image_b2 : WS :=
  (wSeq (wAsg (wCall sp__law_times (wCons (wTup (wCons (wIx (wVar 5) (wC (.int 0))) (wCons (wIx (wVar 5) (wC (.int 1))) (wCons (wC (.int 0)) wNil)))) (wCons (wVar 8) wNil))) (gTp 2 (gsCons (gVar 9) (gsCons (gVar 10) gsNil))))
  w__law_image_b2_1)
def w__law_image_b1_3 : WS :=
  (wFor (wItL (wVar 7)) (gVar 8) w__law_image_b2)
def w__law_image_b1_2 : WS :=
  (wSeq (wAug 4 opAddI (wCB bInt (wCons (wOp opEq (wVar 6) (wC (.str "Y"))) wNil)))
  w__law_image_b1_3)
def w__law_image_b1_1 : WS :=
  (wSeq (wAsg (wDGet (wDLit [((wC (.str "I")), (wLst wNil)), ((wC (.str "X")), (wLst (wCons (wMeth "Frame" "x" sp_Frame_x (wVar 0) (wCons (wIx (wVar 2) (wVar 3)) wNil)) wNil))), ((wC (.str "Z")), (wLst (wCons (wMeth "Frame" "z" sp_Frame_z (wVar 0) (wCons (wIx (wVar 2) (wVar 3)) wNil)) wNil))), ((wC (.str "Y")), (wLst (wCons (wMeth "Frame" "x" sp_Frame_x (wVar 0) (wCons (wIx (wVar 2) (wVar 3)) wNil)) (wCons (wMeth "Frame" "z" sp_Frame_z (wVar 0) (wCons (wIx (wVar 2) (wVar 3)) wNil)) wNil))))]) (wVar 6)) (gVar 7))
  w__law_image_b1_2)
def w__law_image_b1 : WS :=
  (wSeq (wAsg (wCall sp__law_letter (wCons (wVar 1) (wCons (wVar 3) wNil))) (gVar 6))
  w__law_image_b1_1)
def w__law_image_3 : WS :=
  (wRet (wIf (wBb (wOp opEq (wOp opMod (wVar 4) (wC (.int 2))) (wC (.int 1)))) (wC .non) (wTup (wCons (wIx (wVar 5) (wC (.int 0))) (wCons (wIx (wVar 5) (wC (.int 1))) (wCons (wOp opDiv (wVar 4) (wC (.int 2))) wNil))))))
def w__law_image_2 : WS :=
  (wSeq (wAsg (wOp opMod (wOp opAdd (wVar 4) (wOp opMulS (wC (.int 2)) (wIx (wVar 1) (wC (.int 2))))) (wC (.int 4))) (gVar 4))
  w__law_image_3)
def w__law_image_1 : WS :=
  (wSeq (wFor (wRng1 (wCons (wCB bLen (wCons (wVar 2) wNil)) wNil)) (gVar 3) w__law_image_b1)
  w__law_image_2)
def w__law_image : WS :=
  (wSeq (wAsg (wTup (wCons (wTup (wCons (wC (.int 0)) (wCons (wC (.int 0)) (wCons (wC (.int 0)) wNil)))) (wCons (wC (.int 0)) wNil))) (gTp 2 (gsCons (gVar 5) (gsCons (gVar 4) gsNil))))
  w__law_image_1)
def w__law_state_b1_2 : WS :=
  (wIfS (wOr (wBb (wOp opLt (wVar 5) (wC (.int 4)))) (wBb (wOp opEq (wVar 1) (wC (.int 1))))) (wAsg (wCall sp_gate (wCons (wVar 2) (wCons (wIx (wLst (wCons (wC (.str "H")) (wCons (wC (.str "S")) (wCons (wC (.str "T")) (wCons (wC (.str "H")) (wCons (wC (.str "X")) wNil)))))) (wVar 5)) (wCons (wTup (wCons (wVar 4) wNil)) wNil)))) (gVar 2)) (wAsg (wCall sp_gate (wCons (wVar 2) (wCons (wC (.str "CX")) (wCons (wTup (wCons (wVar 4) (wCons (wOp opMod (wOp opAdd (wVar 4) (wC (.int 1))) (wVar 1)) wNil))) wNil)))) (gVar 2)))
def w__law_state_b1_1 : WS :=
  (wSeq (wAsg (wCall sp__law_next (wCons (wVar 0) (wCons (wC (.int 5)) wNil))) (gVar 5))
  w__law_state_b1_2)
def w__law_state_b1 : WS :=
  (wSeq (wAsg (wCall sp__law_next (wCons (wVar 0) (wCons (wVar 1) wNil))) (gVar 4))
  w__law_state_b1_1)
def w__law_state_2 : WS :=
  (wRet (wVar 2))
def w__law_state_1 : WS :=
  (wSeq (wFor (wRng1 (wCons (wC (.int 8)) wNil)) (gVar 3) w__law_state_b1)
  w__law_state_2)
def w__law_state : WS :=
  (wSeq (wAsg (wCall sp_zeros (wCons (wVar 1) wNil)) (gVar 2))
  w__law_state_1)
def w_law_b1 : WS :=
  (wDrop (wMeth "Frame" "add" sp_Frame_add (wVar 4) (wCons (wIx (wVar 3) (wVar 5)) (wCons (wVar 5) wNil))))
def w_law_b2_8 : WS :=
  (wAsg (wOp opAdd (wVar 7) (wLst (wCons (wTup (wCons (wVar 13) (wCons (wVar 15) wNil))) wNil))) (gVar 7))
def w_law_b2_7 : WS :=
  (wSeq (wDrop (wMeth "Frame" "gate" sp_Frame_gate (wVar 4) (wCons (wVar 13) (wCons (wCB bTup (wCons (wLc (wItT (wVar 15)) (gVar 20) wYes (wIx (wVar 3) (wVar 20)) [20]) wNil)) wNil))))
  w_law_b2_8)
def w_law_b2_6 : WS :=
  (wSeq (wAsg (wIf (wBb (wOp opGt (wVar 11) (wC (.int 5)))) (wTup (wCons (wVar 12) (wCons (wVar 14) wNil))) (wTup (wCons (wVar 12) wNil))) (gVar 15))
  w_law_b2_7)
def w_law_b2_5 : WS :=
  (wSeq (wIfS (wAnd (wBb (wOp opGt (wVar 11) (wC (.int 5)))) (wBb (wOp opEq (wVar 2) (wC (.int 1))))) wCont wNext)
  w_law_b2_6)
def w_law_b2_4 : WS :=
  (wSeq (wAsg (wOp opMod (wOp opAdd (wVar 12) (wC (.int 1))) (wVar 2)) (gVar 14))
  w_law_b2_5)
def w_law_b2_3 : WS :=
  (wSeq (wAsg (wIx (wLst (wCons (wC (.str "H")) (wCons (wC (.str "S")) (wCons (wC (.str "SI")) (wCons (wC (.str "X")) (wCons (wC (.str "Y")) (wCons (wC (.str "Z")) (wCons (wC (.str "CX")) (wCons (wC (.str "CZ")) wNil))))))))) (wVar 11)) (gVar 13))
  w_law_b2_4)
def w_law_b2_2 : WS :=
  (wSeq (wIfS (wBb (wOp opGt (wVar 11) (wC (.int 7)))) (wSeq (wAsg (wTup (wCons (wCall sp__law_next (wCons (wVar 1) (wCons (wOp opShl (wC (.int 1)) (wVar 2)) wNil))) (wCons (wCall sp__law_next (wCons (wVar 1) (wCons (wOp opShl (wC (.int 1)) (wVar 2)) wNil))) (wCons (wCall sp__law_next (wCons (wVar 1) (wCons (wC (.int 2)) wNil))) wNil)))) (gVar 18))
  (wSeq (wIfS (wBb (wOp opEq (wVar 11) (wC (.int 8)))) (wDrop (wMeth "Frame" "turn" sp_Frame_turn (wVar 4) (wCons (wVar 18) wNil))) (wDrop (wMeth "Frame" "flip" sp_Frame_flip (wVar 4) (wCons (wVar 18) wNil))))
  (wSeq (wAsg (wOp opAdd (wLst (wCons (wTup (wCons (wIx (wLst (wCons (wC (.str "turn")) (wCons (wC (.str "flip")) wNil))) (wOp opSub (wVar 11) (wC (.int 8)))) (wCons (wVar 18) wNil))) wNil)) (wVar 7)) (gVar 7))
  wCont))) wNext)
  w_law_b2_3)
def w_law_b2_1 : WS :=
  (wSeq (wAsg (wCall sp__law_next (wCons (wVar 1) (wCons (wVar 2) wNil))) (gVar 12))
  w_law_b2_2)
def w_law_b2 : WS :=
  (wSeq (wAsg (wCall sp__law_next (wCons (wVar 1) (wCons (wC (.int 10)) wNil))) (gVar 11))
  w_law_b2_1)
def w_law_b3 : WS :=
  (wIfS (wBb (wOp opEq (wVar 13) (wC (.str "turn")))) (wAsg (wCall sp__law_turned (wCons (wVar 9) (wCons (wVar 16) (wCons (wVar 2) wNil)))) (gVar 9)) (wIfS (wBb (wOp opEq (wVar 13) (wC (.str "flip")))) (wAsg (wCall sp__law_acted (wCons (wVar 9) (wCons (wVar 16) (wCons (wVar 2) wNil)))) (gVar 9)) (wAsg (wCall sp__law_gate (wCons (wVar 9) (wCons (wVar 13) (wCons (wVar 16) wNil)))) (gVar 9))))
def w_law_b5_1 : WS :=
  (wIfS (wOr (wBb (wOp opIsN (wVar 19) (wC .non))) (wBb (wOp opNe (wCall sp_expected (wCons (wVar 6) (wCons (wVar 19) wNil))) (wCall sp_expected (wCons (wVar 9) (wCons (wTup (wCons (wVar 10) (wCons (wVar 17) (wCons (wC (.int 0)) wNil)))) wNil)))))) (wRet (wC (.bl false))) wNext)
def w_law_b5 : WS :=
  (wSeq (wAsg (wCall sp__law_image (wCons (wVar 4) (wCons (wTup (wCons (wVar 10) (wCons (wVar 17) (wCons (wC (.int 0)) wNil)))) (wCons (wVar 3) wNil)))) (gVar 19))
  w_law_b5_1)
def w_law_b4 : WS :=
  (wFor (wRng1 (wCons (wOp opShl (wC (.int 1)) (wVar 2)) wNil)) (gVar 17) w_law_b5)
def w_law_12 : WS :=
  (wRet (wC (.bl true)))
def w_law_11 : WS :=
  (wSeq (wFor (wRng1 (wCons (wOp opShl (wC (.int 1)) (wVar 2)) wNil)) (gVar 10) w_law_b4)
  w_law_12)
def w_law_10 : WS :=
  (wSeq (wIfS (wBb (wOp opNe (wMeth "Frame" "names" sp_Frame_names (wVar 4) wNil) (wVar 3))) (wRet (wC (.bl false))) wNext)
  w_law_11)
def w_law_9 : WS :=
  (wSeq (wFor (wItL (wVar 7)) (gTp 2 (gsCons (gVar 13) (gsCons (gVar 16) gsNil))) w_law_b3)
  w_law_10)
def w_law_8 : WS :=
  (wSeq (wAsg (wVar 6) (gVar 9))
  w_law_9)
def w_law_7 : WS :=
  (wSeq (wFor (wRng1 (wCons (wCall sp__law_next (wCons (wVar 1) (wCons (wC (.int 15)) wNil))) wNil)) (gVar 8) w_law_b2)
  w_law_8)
def w_law_6 : WS :=
  (wSeq (wAsg (wLst wNil) (gVar 7))
  w_law_7)
def w_law_5 : WS :=
  (wSeq (wAsg (wCall sp__law_state (wCons (wVar 1) (wCons (wVar 2) wNil))) (gVar 6))
  w_law_6)
def w_law_4 : WS :=
  (wSeq (wFor (wRng1 (wCons (wVar 2) wNil)) (gVar 5) w_law_b1)
  w_law_5)
def w_law_3 : WS :=
  (wSeq (wAsg (wMake "Frame" sp_Frame___init__ wNil) (gVar 4))
  w_law_4)
def w_law_2 : WS :=
  (wSeq (wAsg (wSl (wLst (wCons (wC (.str "a")) (wCons (wC (.str "b")) (wCons (wC (.str "c")) wNil)))) wNoPart (wPart (wVar 2))) (gVar 3))
  w_law_3)
def w_law_1 : WS :=
  (wSeq (wAsg (wOp opAdd (wC (.int 1)) (wCall sp__law_next (wCons (wVar 1) (wCons (wC (.int 3)) wNil)))) (gVar 2))
  w_law_2)
def w_law : WS :=
  (wSeq (wSetM 1 (wLst (wCons (wCB bLstS (wCons (wVar 0) wNil)) (wCons (wC (.int 0)) (wCons (wC (.int 0)) (wCons (wC (.int 7)) wNil))))))
  w_law_1)
end K36

set_option Elab.async false
set_option linter.all false
set_option maxRecDepth 100000
set_option maxHeartbeats 1000000
/-! P_k36: what is walked elsewhere -/
namespace K36
open PySem PySem.Spec L2 VL VL.P VL.N
theorem pk_ones_paulis : Pk 1 1 sp_ones_paulis w_ones_paulis := VL.P.pk_ones
theorem pk_commutes : Pk 2 0 sp_commutes w_commutes := VL.P.pk_commutes
theorem pk_product : Pk 2 3 sp_product w_product := VL.P.pk_product
theorem pk_single : Pk 2 1 sp_single w_single := VL.P.pk_single
theorem pk_formed : Pk 5 0 sp_formed w_formed := VL.N.pk_formed
theorem pk_raised : Pk 2 5 sp_raised w_raised := VL.N.pk_raised
theorem pk_plus : Pk 2 3 sp_plus w_plus := VL.N.pk_plus
theorem pk_negative : Pk 1 0 sp_negative w_negative := VL.N.pk_negative
theorem pk_minus : Pk 2 0 sp_minus w_minus := VL.N.pk_minus
theorem pk_times : Pk 2 10 sp_times w_times := VL.N.pk_times
theorem pk_conjugate : Pk 1 5 sp_conjugate w_conjugate := VL.N.pk_conjugate
theorem pk_root : Pk 1 1 sp_root w_root := VL.N.pk_root
theorem pk_total : Pk 1 2 sp_total w_total := VL.N.pk_total
theorem pk_ones_states : Pk 1 1 sp_ones_states w_ones_states := VL.N.pk_ones_states
theorem pk_zeros : Pk 1 0 sp_zeros w_zeros := VL.N.pk_zeros
theorem pk_mixed : Pk 2 4 sp_mixed w_mixed := VL.N.pk_mixed
theorem pk_gate : PkX 3 5 sp_gate w_gate := VL.N.pk_gate
theorem pk_acted : Pk 2 8 sp_acted w_acted := VL.N.pk_acted
theorem pk_projected : Pk 3 4 sp_projected w_projected := VL.N.pk_projected
theorem pk_norm : Pk 1 1 sp_norm w_norm := VL.N.pk_norm
theorem pk_expected : Pk 2 0 sp_expected w_expected := VL.N.pk_expected
theorem pk__law_next : Pk 2 2 sp__law_next w__law_next := VL.pk_nextS
theorem pk__law_matrix : Pk 1 5 sp__law_matrix w__law_matrix := VL.N.pk__law_matrix
theorem pk__law_one : Pk 3 5 sp__law_one w__law_one := VL.N.pk__law_one
theorem pk__law_gate : Pk 3 2 sp__law_gate w__law_gate := VL.N.pk__law_gate
theorem pk__law_letter : Pk 2 0 sp__law_letter w__law_letter := VL.N.pk__law_letter
theorem pk__law_acted : Pk 3 4 sp__law_acted w__law_acted := VL.N.pk__law_acted
theorem pk__law_projected : Pk 4 2 sp__law_projected w__law_projected := VL.N.pk__law_projected
theorem pk__law_turned : Pk 3 3 sp__law_turned w__law_turned := VL.N.pk__law_turned
theorem pk_turned : Pk 2 3 sp_turned w_turned := by
  rintro ds h R _ ⟨p, b, rfl, hR⟩
  refine ⟨rfl, ?_⟩
  have e : Builtin.bitXor (p.s : Int) (b : Int) = ((p.s ^^^ b : Nat) : Int) := xor_nn _ _
  show R (.tup [.int p.x, .int p.z, .int (Builtin.bitXor (p.s : Int) (b : Int))]) h
  rw [e]
  exact hR
end K36

set_option Elab.async false
set_option linter.all false
set_option maxRecDepth 100000
set_option maxHeartbeats 1000000
/-! P2_k36: the frame's methods walked -/
namespace K36
open PySem PySem.Spec PyProof.Rows L2 VL VL.P VL.N
theorem nq {n q : Nat} (h : q < n) (h3 : n ≤ 3) : (n = 1 ∧ q = 0) ∨ (n = 2 ∧ q = 0) ∨ (n = 2 ∧ q = 1) ∨ (n = 3 ∧ q = 0) ∨ (n = 3 ∧ q = 1) ∨ (n = 3 ∧ q = 2) := by omega
theorem look_row {n q : Nat} (h : q < n) (h3 : n ≤ 3) (X Z : Nat → Pa) : look (rowsL n X Z) (.inr (nmQ q)) = some (.lst [(X q).e, (Z q).e]) := by
  rcases nq h h3 with ⟨rfl, rfl⟩ | ⟨rfl, rfl⟩ | ⟨rfl, rfl⟩ | ⟨rfl, rfl⟩ | ⟨rfl, rfl⟩ | ⟨rfl, rfl⟩ <;> rfl
theorem put_row {n q : Nat} (h : q < n) (h3 : n ≤ 3) (X Z : Nat → Pa) (x z : Pa) : putP (rowsL n X Z) (.inr (nmQ q)) (.lst [x.e, z.e]) = rowsL n (ups1 X q x) (ups1 Z q z) := by
  rcases nq h h3 with ⟨rfl, rfl⟩ | ⟨rfl, rfl⟩ | ⟨rfl, rfl⟩ | ⟨rfl, rfl⟩ | ⟨rfl, rfl⟩ | ⟨rfl, rfl⟩ <;> rfl
theorem add_row {n : Nat} (h : n < 3) : putP (rowsL n xq zq1) (.inr (nmQ n)) (.lst [(xq n).e, (zq1 n).e]) = rowsL (n + 1) xq zq1 := by
  have : n = 0 ∨ n = 1 ∨ n = 2 := by omega
  rcases this with rfl | rfl | rfl <;> rfl
theorem no_row {n : Nat} (h : n < 3) : look (rowsL n xq zq1) (.inr (nmQ n)) = none := by
  have : n = 0 ∨ n = 1 ∨ n = 2 := by omega
  rcases this with rfl | rfl | rfl <;> rfl
theorem len_row (n : Nat) (X Z : Nat → Pa) : (rowsL n X Z).length = n := by unfold rowsL; rw [List.length_map, List.length_range]
theorem frL {n : Nat} (h3 : n ≤ 3) (X Z : Nat → Pa) : (rowsL n X Z).length < sizeLine := by
  have : (4 : Nat) < sizeLine := by decide
  rw [len_row]
  omega
theorem FrAt.to {h : Oh} {a d : Addr} {n : Nat} {X Z : Nat → Pa} (F : FrAt h a d n X Z) {m : Nat} (hm : m ≤ 3) (X' Z' : Nat → Pa) : FrAt (toR h d m X' Z') a d m X' Z' :=
  ⟨F.ne, by unfold toR; rw [Oh.put_ne F.ne]; exact F.o, Oh.put_same, hm⟩
theorem toR_toR (h : Oh) (d : Addr) (n m : Nat) (X Z X' Z' : Nat → Pa) : toR (toR h d n X Z) d m X' Z' = toR h d m X' Z' := Oh.put_put
theorem pk_Frame___init__ : Pk 1 0 sp_Frame___init__ w_Frame___init__ := by
  rintro ds h R _ ⟨a, rfl, ha, hR⟩
  intro q hq
  have hq : h q = none := hq
  have ne : a ≠ q := fun e => by rw [e] at ha; rw [ha] at hq; cases hq
  refine ⟨a, [], rfl, by show (h.put q _) a = _; rw [Oh.put_ne ne]; exact ha, by show 0 < 1000; decide, ?_⟩
  refine hR q _ ⟨ne, Oh.put_same, ?_, Nat.zero_le _⟩ fun b u hb nb => ⟨?_, fun e => ?_⟩
  · show ((h.put q _).put a _) q = _
    rw [Oh.put_ne (Ne.symm ne)]
    exact Oh.put_same
  · have nbq : b ≠ q := fun e => by rw [e] at hb; rw [hb] at hq; cases hq
    show ((h.put q _).put a _) b = _
    rw [Oh.put_ne nb, Oh.put_ne nbq]
    exact hb
  · rw [e] at hb
    rw [hb] at hq
    cases hq
theorem pk_Frame_names : Pk 1 0 sp_Frame_names w_Frame_names := by
  rintro ds h R _ ⟨a, d, n, X, Z, rfl, F, hR⟩
  refine ⟨a, _, _, rfl, F.o, rfl, d, rowsL n X Z, rfl, F.r, ?_⟩
  have e : (rowsL n X Z).map (fun kv => kD kv.1) = (List.range n).map fun q => .str (nmQ q) := by
    unfold rowsL
    rw [List.map_map]
    rfl
  rw [e]
  exact hR
theorem pk_Frame_add : PkX 3 0 sp_Frame_add w_Frame_add := by
  rintro ds h R Y _ ⟨a, d, n, rfl, hn, F, hR⟩
  refine ⟨a, _, _, rfl, F.o, rfl, rowsL n xq zq1, .inr (nmQ n), rfl, .inr ⟨d, rfl, F.r⟩, ?_⟩
  refine brF (by rw [no_row hn]; rfl) ?_
  refine ⟨1, n, by decide, by omega, rfl, 2, n, by decide, by omega, rfl, ?_⟩
  refine ⟨a, _, _, rfl, F.o, rfl, d, rowsL n xq zq1, .inr (nmQ n), rfl, rfl, F.r, frL F.n3 _ _, ?_⟩
  have e1 : (sng 1 n).e = (xq n).e := by unfold sng xq Pa.e; simp
  have e2 : (sng 2 n).e = (zq1 n).e := by unfold sng zq1 Pa.e; simp
  rw [e1, e2, add_row hn]
  exact hR
theorem pk_Frame_x : Pk 2 0 sp_Frame_x w_Frame_x := by
  rintro ds h R _ ⟨a, d, n, q, X, Z, rfl, hq, F, hR⟩
  exact ⟨a, _, _, rfl, F.o, rfl, rowsL n X Z, .inr (nmQ q), _, rfl, .inr ⟨d, rfl, F.r⟩, look_row hq F.n3 X Z, _, rfl, hR⟩
theorem pk_Frame_z : Pk 2 0 sp_Frame_z w_Frame_z := by
  rintro ds h R _ ⟨a, d, n, q, X, Z, rfl, hq, F, hR⟩
  exact ⟨a, _, _, rfl, F.o, rfl, rowsL n X Z, .inr (nmQ q), _, rfl, .inr ⟨d, rfl, F.r⟩, look_row hq F.n3 X Z, _, rfl, hR⟩
theorem pk_Frame_put : Pk 4 0 sp_Frame_put w_Frame_put := by
  rintro ds h R _ ⟨a, d, n, q, X, Z, x, z, rfl, hq, F, hR⟩
  refine ⟨a, _, _, rfl, F.o, rfl, d, rowsL n X Z, .inr (nmQ q), rfl, rfl, F.r, frL F.n3 _ _, ?_⟩
  rw [put_row hq F.n3]
  exact hR
theorem _root_.VL.N.PB.hz {n : Nat} {p : Pa} (h : PB n p) (hn : n ≤ 3) : p.z < 2 ^ 100 := Nat.lt_of_lt_of_le h.z (Nat.pow_le_pow_right (by decide) (by omega))
/-- a test of a text in a name -/
theorem eqF {i : Nat} {nm x : Str} {u v : WS} {T : We} {S : Sg} (hi : S.s[i]? = some (.f (.str nm))) (e : (nm == x) = false) (h : v T S) : wIfS (wBb (wOp opEq (wVar i) (wC (.str x)))) u v T S := by
  simp only [wIfS, wBb, wOp, wVar, hi, wC]
  exact brF e h
theorem eqT {i : Nat} {nm x : Str} {u v : WS} {T : We} {S : Sg} (hi : S.s[i]? = some (.f (.str nm))) (e : (nm == x) = true) (h : u T S) : wIfS (wBb (wOp opEq (wVar i) (wC (.str x)))) u v T S := by
  simp only [wIfS, wBb, wOp, wVar, hi, wC]
  exact brT e h
def gS (a : Addr) (nm : Str) (qs : List D) (x : Str) (X Z : Pa) (h : Oh) : Sg := ⟨[.f (.obj a), .f (.str nm), .f (.tup qs), .f (.str x), .f X.e, .f Z.e], h⟩
theorem pk_Frame_gate1 {R : D → Oh → Prop} {Y : XC} {h : Oh} {a d : Addr} {n : Nat} {X Z : Nat → Pa} {g : G1} {q : Nat} (F : FrAt h a d n X Z) (B : Bs n X Z) (hq : q < n) (hg : isC g = true) (hR : R .non (toR h d n (ups1 X q (fx1 g q X Z)) (ups1 Z q (fz1 g q X Z)))) :
    w_Frame_gate_2 (FiX R Y) (gS a g.nm [.str (nmQ q)] (nmQ q) (X q) (Z q) h) := by
  obtain ⟨bx, bz⟩ := B q hq
  cases g with
  | T => cases hg
  | TI => cases hg
  | H =>
    refine eqT rfl rfl ?_
    exact ⟨a, _, rfl, F.o, rfl, a, d, n, q, X, Z, Z q, X q, rfl, hq, F, hR⟩
  | S =>
    refine eqF rfl rfl ?_
    refine eqT rfl rfl ?_
    refine ⟨a, _, rfl, F.o, rfl, X q, Z q, rfl, bx.s, bz.s, bx.hz F.n3, ?_⟩
    exact ⟨a, d, n, q, X, Z, prd (X q) (Z q), Z q, rfl, hq, F, hR⟩
  | SI =>
    refine eqF rfl rfl ?_
    refine eqF rfl rfl ?_
    refine eqT rfl rfl ?_
    refine ⟨a, _, rfl, F.o, rfl, Z q, X q, rfl, bz.s, bx.s, bz.hz F.n3, ?_⟩
    exact ⟨a, d, n, q, X, Z, prd (Z q) (X q), Z q, rfl, hq, F, hR⟩
  | X =>
    refine eqF rfl rfl ?_
    refine eqF rfl rfl ?_
    refine eqF rfl rfl ?_
    refine eqT rfl rfl ?_
    refine ⟨a, _, rfl, F.o, rfl, Z q, 1, rfl, ?_⟩
    exact ⟨a, d, n, q, X, Z, X q, twp (Z q) 1, rfl, hq, F, hR⟩
  | Y =>
    refine eqF rfl rfl ?_
    refine eqF rfl rfl ?_
    refine eqF rfl rfl ?_
    refine eqF rfl rfl ?_
    refine eqT rfl rfl ?_
    refine ⟨a, _, rfl, F.o, rfl, X q, 1, rfl, Z q, 1, rfl, ?_⟩
    exact ⟨a, d, n, q, X, Z, twp (X q) 1, twp (Z q) 1, rfl, hq, F, hR⟩
  | Z =>
    refine eqF rfl rfl ?_
    refine eqF rfl rfl ?_
    refine eqF rfl rfl ?_
    refine eqF rfl rfl ?_
    refine eqF rfl rfl ?_
    refine eqT rfl rfl ?_
    refine ⟨a, _, rfl, F.o, rfl, X q, 1, rfl, ?_⟩
    exact ⟨a, d, n, q, X, Z, twp (X q) 1, Z q, rfl, hq, F, hR⟩
theorem pk_Frame_gate2 {R : D → Oh → Prop} {Y : XC} {h : Oh} {a d : Addr} {n : Nat} {X Z : Nat → Pa} {g : G2} {u t : Nat} (F : FrAt h a d n X Z) (B : Bs n X Z) (hu : u < n) (ht : t < n) (ne : u ≠ t) (hR : R .non (toR h d n (fx2 g u t X Z) (fz2 g u t X Z))) :
    w_Frame_gate_2 (FiX R Y) (gS a g.nm [.str (nmQ u), .str (nmQ t)] (nmQ u) (X u) (Z u) h) := by
  cases g with
  | CX =>
    refine eqF rfl rfl (eqF rfl rfl (eqF rfl rfl (eqF rfl rfl (eqF rfl rfl (eqF rfl rfl ?_)))))
    refine brT rfl ?_
    refine brT rfl ?_
    exact ⟨a, _, rfl, F.o, rfl, _, rfl, a, d, n, X, Z, .CX, u, t, rfl, hu, ht, ne, F, B, hR⟩
  | CZ =>
    refine eqF rfl rfl (eqF rfl rfl (eqF rfl rfl (eqF rfl rfl (eqF rfl rfl (eqF rfl rfl ?_)))))
    refine brF rfl ?_
    refine brT rfl ?_
    exact ⟨a, _, rfl, F.o, rfl, _, rfl, a, d, n, X, Z, .CZ, u, t, rfl, hu, ht, ne, F, B, hR⟩
theorem pk_Frame_gate : PkX 3 3 sp_Frame_gate w_Frame_gate := by
  rintro ds h R Y _ ⟨a, d, n, X, Z, F, B, q⟩
  rcases q with ⟨g, q, rfl, hq, hg, hR⟩ | ⟨g, u, t, rfl, hu, ht, ne, hR⟩
  · refine ⟨_, rfl, ?_⟩
    refine ⟨a, _, rfl, F.o, rfl, a, d, n, q, X, Z, rfl, hq, F, a, _, rfl, F.o, rfl, a, d, n, q, X, Z, rfl, hq, F, ?_⟩
    change w_Frame_gate_2 (FiX R Y) (gS a g.nm [.str (nmQ q)] (nmQ q) (X q) (Z q) h)
    exact pk_Frame_gate1 F B hq hg hR
  · refine ⟨_, rfl, ?_⟩
    refine ⟨a, _, rfl, F.o, rfl, a, d, n, u, X, Z, rfl, hu, F, a, _, rfl, F.o, rfl, a, d, n, u, X, Z, rfl, hu, F, ?_⟩
    change w_Frame_gate_2 (FiX R Y) (gS a g.nm [.str (nmQ u), .str (nmQ t)] (nmQ u) (X u) (Z u) h)
    exact pk_Frame_gate2 F B hu ht ne hR
theorem pk_Frame_pair : Pk 4 4 sp_Frame_pair w_Frame_pair := by
  rintro ds h R _ ⟨a, d, n, X, Z, g, u, t, rfl, hu, ht, ne, F, B, hR⟩
  refine ⟨a, _, rfl, F.o, rfl, a, d, n, u, X, Z, rfl, hu, F, a, _, rfl, F.o, rfl, a, d, n, u, X, Z, rfl, hu, F, ?_⟩
  change w_Frame_pair_1 (Fi R) ⟨[.f (.obj a), .f (.str g.nm), .f (.str (nmQ u)), .f (.str (nmQ t)), .f (X u).e, .f (Z u).e, .u, .u], h⟩
  refine ⟨a, _, rfl, F.o, rfl, a, d, n, t, X, Z, rfl, ht, F, a, _, rfl, F.o, rfl, a, d, n, t, X, Z, rfl, ht, F, ?_⟩
  change w_Frame_pair_2 (Fi R) ⟨[.f (.obj a), .f (.str g.nm), .f (.str (nmQ u)), .f (.str (nmQ t)), .f (X u).e, .f (Z u).e, .f (X t).e, .f (Z t).e], h⟩
  obtain ⟨ux, uz⟩ := B u hu
  obtain ⟨tx, tz⟩ := B t ht
  cases g with
  | CX =>
    refine brT rfl ?_
    refine ⟨a, _, rfl, F.o, rfl, X u, X t, rfl, ux.s, tx.s, ux.hz F.n3, ?_⟩
    refine ⟨a, d, n, u, X, Z, prd (X u) (X t), Z u, rfl, hu, F, ?_⟩
    have F' := F.to F.n3 (ups1 X u (prd (X u) (X t))) (ups1 Z u (Z u))
    refine ⟨a, _, rfl, F'.o, rfl, Z u, Z t, rfl, uz.s, tz.s, uz.hz F.n3, ?_⟩
    refine ⟨a, d, n, t, _, _, X t, prd (Z u) (Z t), rfl, ht, F', ?_⟩
    rw [toR_toR]
    exact hR
  | CZ =>
    refine brF rfl ?_
    refine ⟨a, _, rfl, F.o, rfl, X u, Z t, rfl, ux.s, tz.s, ux.hz F.n3, ?_⟩
    refine ⟨a, d, n, u, X, Z, prd (X u) (Z t), Z u, rfl, hu, F, ?_⟩
    have F' := F.to F.n3 (ups1 X u (prd (X u) (Z t))) (ups1 Z u (Z u))
    refine ⟨a, _, rfl, F'.o, rfl, Z u, X t, rfl, uz.s, tx.s, uz.hz F.n3, ?_⟩
    refine ⟨a, d, n, t, _, _, prd (Z u) (X t), Z t, rfl, ht, F', ?_⟩
    rw [toR_toR]
    exact hR
/-! ### turn and flip: each row in turn -/
def part (j : Nat) (X' X : Nat → Pa) : Nat → Pa := fun q => if q < j then X' q else X q
theorem part_zero (X' X : Nat → Pa) : part 0 X' X = X := funext fun q => if_neg (Nat.not_lt_zero q)
theorem part_at {j : Nat} (X' X : Nat → Pa) : part j X' X j = X j := if_neg (Nat.lt_irrefl j)
theorem part_succ (j : Nat) (X' X : Nat → Pa) : ups1 (part j X' X) j (X' j) = part (j + 1) X' X := funext fun q => by
  unfold ups1 part
  by_cases e : q = j
  · rw [if_pos e, if_pos (by omega), e]
  · rw [if_neg e]
    by_cases c : q < j
    · rw [if_pos c, if_pos (by omega)]
    · rw [if_neg c, if_neg (by omega)]
theorem rows_part (n : Nat) (X' Z' X Z : Nat → Pa) : rowsL n (part n X' X) (part n Z' Z) = rowsL n X' Z' := by
  unfold rowsL
  refine List.map_congr_left fun q hq => ?_
  have : q < n := List.mem_range.mp hq
  unfold rowQ part
  rw [if_pos this, if_pos this]
theorem names_keys (n : Nat) (X Z : Nat → Pa) : (rowsL n X Z).map (fun kv => kD kv.1) = (List.range n).map fun q => .str (nmQ q) := by
  unfold rowsL
  rw [List.map_map]
  rfl
theorem rows_loop {R : D → Oh → Prop} {h : Oh} {a d : Addr} {n : Nat} {X Z X' Z' : Nat → Pa} {p : Pa} {tb : WS} (F : FrAt h a d n X Z) (hR : R .non (toR h d n X' Z'))
    (body : ∀ (j : Nat) (h1 : Oh) (T : We) (u : Sl), noOwn [.f (.obj a), .f p.e, .f (.str (nmQ j)), u] [3] = true → j < n → FrAt h1 a d n (part j X' X) (part j Z' Z) → (T.nx ⟨[.f (.obj a), .f p.e, .f (.str (nmQ j)), u], toR h1 d n (ups1 (part j X' X) j (X' j)) (ups1 (part j Z' Z) j (Z' j))⟩) → tb T ⟨[.f (.obj a), .f p.e, .f (.str (nmQ j)), u], h1⟩) :
    wFor (wItL (wKeys (wFld "Frame" "rows" (wVar 0)))) (gVar 2) tb (Fi R) ⟨[.f (.obj a), .f p.e, .u, .u], h⟩ := by
  refine ⟨a, _, _, rfl, F.o, rfl, d, rowsL n X Z, rfl, F.r, ?_⟩
  rw [names_keys]
  have go : ∀ (m j : Nat) (h1 : Oh) (s2 : Sl), j + m = n → FrAt h1 a d n (part j X' X) (part j Z' Z) → (∀ X1 Z1, toR h1 d n X1 Z1 = toR h d n X1 Z1) → h1 = toR h d n (part j X' X) (part j Z' Z) →
      wForL (gVar 2) tb (Fi R) ((List.range' j m).map fun q => .str (nmQ q)) ⟨[.f (.obj a), .f p.e, s2, .u], h1⟩ := fun m => by
    induction m with
    | zero =>
      intro j h1 s2 e F1 _ eh
      have : j = n := by omega
      subst this
      show R .non h1
      rw [eh]
      unfold toR at hR ⊢
      rw [rows_part]
      exact hR
    | succ m ih =>
      intro j h1 s2 e F1 tt eh
      refine forv ?_
      refine body j h1 _ .u rfl (by omega) F1 ?_
      rw [part_succ, part_succ]
      have F2 := F1.to F1.n3 (part (j + 1) X' X) (part (j + 1) Z' Z)
      exact ih (j + 1) _ _ (by omega) F2 (fun X1 Z1 => by rw [toR_toR, tt]) (tt _ _)
  rw [List.range_eq_range']
  have h0 : toR h d n (part 0 X' X) (part 0 Z' Z) = h := by
    rw [part_zero, part_zero]
    unfold toR
    funext b
    by_cases e : b = d
    · rw [e, Oh.put_same, F.r]
    · rw [Oh.put_ne e]
  exact go n 0 h .u (by omega) (by rw [part_zero, part_zero]; exact F) (fun _ _ => rfl) h0.symm
theorem part_B {n j : Nat} {X Z X' Z' : Nat → Pa} (hj : j < n) (B : Bs n X Z) : PB n (part j X' X j) ∧ PB n (part j Z' Z j) := by
  rw [part_at, part_at]
  exact B j hj
theorem row_lc {R : List D → Oh → Prop} {h1 : Oh} {te : WE} {s0 : List Sl} {x z : Pa} {f : Pa → Pa}
    (one : ∀ y : Pa, (y = x ∨ y = z) → ∀ C : D → Oh → Prop, C (f y).e h1 → te ⟨(wipeS s0 [3]).set 3 (.f y.e), h1⟩ fun d S3 => wipeS S3.s [3] = wipeS s0 [3] ∧ C d S3.h) (hR : R [(f x).e, (f z).e] h1) :
    wLcL (gVar 3) wYes te [3] s0 R [x.e, z.e] h1 [] := by
  refine lcM (f := Pa.e) (e := fun y => (f y).e) (rs := [x, z]) (fun y hy C hC => ?_) hR
  refine brT rfl ?_
  exact one y (by simpa using hy) (fun d h' => C (some d) h') hC
theorem pk_Frame_turn : Pk 2 2 sp_Frame_turn w_Frame_turn := by
  rintro ds h R _ ⟨a, d, n, X, Z, p, rfl, F, B, hp, hR⟩
  refine rows_loop (p := p) F hR fun j h1 T u hu3 hj F1 k => ?_
  obtain ⟨bx, bz⟩ := part_B (X' := fun q => tnp p (X q)) (Z' := fun q => tnp p (Z q)) hj B
  refine ⟨a, _, _, rfl, F1.o, rfl, rowsL n _ _, .inr (nmQ j), _, rfl, .inr ⟨d, rfl, F1.r⟩, look_row hj F1.n3 _ _, ?_⟩
  refine ⟨hu3, by show 2 ≤ 1000000; decide, ?_⟩
  refine row_lc (f := fun y => tnp p y) (fun y hy C hC => ?_) ?_
  · have by_ : PB n y := by rcases hy with rfl | rfl; exact bx; exact bz
    refine ⟨y, p, rfl, ?_⟩
    refine br (fun e => ?_) (fun e => ?_)
    · have e : cmt y p = true := e
      unfold tnp at hC
      rw [if_pos e] at hC
      exact ⟨rfl, hC⟩
    · have e : cmt y p = false := e
      unfold tnp at hC
      rw [if_neg (by rw [e]; decide)] at hC
      exact ⟨y, p, rfl, by_.s, hp.s, by_.hz F.n3, rfl, hC⟩
  · refine ⟨a, _, _, rfl, F1.o, rfl, d, rowsL n _ _, .inr (nmQ j), rfl, rfl, F1.r, frL F1.n3 _ _, ?_⟩
    rw [put_row hj F1.n3, part_at, part_at]
    exact k
theorem pk_Frame_flip : Pk 2 2 sp_Frame_flip w_Frame_flip := by
  rintro ds h R _ ⟨a, d, n, X, Z, p, rfl, F, B, hp, hR⟩
  refine rows_loop (p := p) F hR fun j h1 T u hu3 hj F1 k => ?_
  refine ⟨a, _, _, rfl, F1.o, rfl, rowsL n _ _, .inr (nmQ j), _, rfl, .inr ⟨d, rfl, F1.r⟩, look_row hj F1.n3 _ _, ?_⟩
  refine ⟨hu3, by show 2 ≤ 1000000; decide, ?_⟩
  refine row_lc (f := fun y => flp p y) (fun y hy C hC => ?_) ?_
  · refine ⟨y, p, rfl, ?_⟩
    unfold flp at hC
    cases e : cmt y p
    · rw [e, if_neg (by decide)] at hC
      exact ⟨y, 1, rfl, rfl, hC⟩
    · rw [e, if_pos rfl] at hC
      exact ⟨y, 0, rfl, rfl, hC⟩
  · refine ⟨a, _, _, rfl, F1.o, rfl, d, rowsL n _ _, .inr (nmQ j), rfl, rfl, F1.r, frL F1.n3 _ _, ?_⟩
    rw [put_row hj F1.n3, part_at, part_at]
    exact k
end K36

set_option Elab.async false
set_option linter.all false
set_option maxRecDepth 100000
set_option maxHeartbeats 1000000
/-! P3_k36: the law's products of letters walked -/
namespace K36
open PySem PySem.Spec PyProof.Rows L2 VL VL.P VL.N
def tl6 : List (Key × D) := [(.inr "XY", .int 1), (.inr "YZ", .int 1), (.inr "ZX", .int 1), (.inr "YX", .int 3), (.inr "ZY", .int 3), (.inr "XZ", .int 3)]
/-- what two letters turn by -/
def eB (a b c d : Bool) : Nat := match a, b, c, d with
  | true, false, true, true => 1
  | true, true, false, true => 1
  | false, true, true, false => 1
  | true, true, true, false => 3
  | false, true, true, true => 3
  | true, false, false, true => 3
  | _, _, _, _ => 0
def eP (p q : Pa) (j : Nat) : Nat := eB (p.x.testBit j) (p.z.testBit j) (q.x.testBit j) (q.z.testBit j)
def tsum (p q : Pa) : Nat → Nat
  | 0 => 0
  | j + 1 => tsum p q j + eP p q j
theorem pc4 {n : Nat} (h : n < 16) : pc n = (n.testBit 0).toNat + (n.testBit 1).toNat + (n.testBit 2).toNat + (n.testBit 3).toNat := by
  have k : ∀ m : Fin 16, pc m.1 = (m.1.testBit 0).toNat + (m.1.testBit 1).toNat + (m.1.testBit 2).toNat + (m.1.testBit 3).toNat := by decide +kernel
  exact k ⟨n, h⟩
theorem eB_mod (a b c d : Bool) : (((a && b).toNat : Int) + ((c && d).toNat : Int) + 2 * ((b && c).toNat : Int) - (((a ^^ c) && (b ^^ d)).toNat : Int) - (eB a b c d : Int)) % 4 = 0 := by
  cases a <;> cases b <;> cases c <;> cases d <;> rfl
theorem and16 {a b : Nat} (h : a < 16) : a &&& b < 16 := Nat.lt_of_le_of_lt Nat.and_le_left h
theorem xor16 {a b : Nat} (h : a < 16) (k : b < 16) : a ^^^ b < 16 := Nat.xor_lt_two_pow (n := 4) h k
theorem tsum_trn {p q : Pa} (h1 : p.x < 16) (h2 : p.z < 16) (h3 : q.x < 16) (h4 : q.z < 16) (hs : p.s = 0) : (2 * q.s + tsum p q 4) % 4 = trN p q := by
  have ht := trN_cast p q
  unfold trn at ht
  rw [pc4 (and16 h1), pc4 (and16 h3), pc4 (and16 h2), pc4 (and16 (xor16 h1 h3)), hs] at ht
  simp only [Nat.testBit_and, Nat.testBit_xor] at ht
  have e0 := eB_mod (p.x.testBit 0) (p.z.testBit 0) (q.x.testBit 0) (q.z.testBit 0)
  have e1 := eB_mod (p.x.testBit 1) (p.z.testBit 1) (q.x.testBit 1) (q.z.testBit 1)
  have e2 := eB_mod (p.x.testBit 2) (p.z.testBit 2) (q.x.testBit 2) (q.z.testBit 2)
  have e3 := eB_mod (p.x.testBit 3) (p.z.testBit 3) (q.x.testBit 3) (q.z.testBit 3)
  show (2 * q.s + ((((0 + eP p q 0) + eP p q 1) + eP p q 2) + eP p q 3)) % 4 = trN p q
  unfold eP
  generalize eB (p.x.testBit 0) (p.z.testBit 0) (q.x.testBit 0) (q.z.testBit 0) = v0 at *
  generalize eB (p.x.testBit 1) (p.z.testBit 1) (q.x.testBit 1) (q.z.testBit 1) = v1 at *
  generalize eB (p.x.testBit 2) (p.z.testBit 2) (q.x.testBit 2) (q.z.testBit 2) = v2 at *
  generalize eB (p.x.testBit 3) (p.z.testBit 3) (q.x.testBit 3) (q.z.testBit 3) = v3 at *
  omega
theorem pair_at (p q : Pa) (j : Nat) : (look tl6 (.inr (ltr p j ++ ltr q j))).getD (.int 0) = .int (eP p q j : Nat) := by
  rw [ltr_eq, ltr_eq]
  unfold eP
  cases p.x.testBit j <;> cases p.z.testBit j <;> cases q.x.testBit j <;> cases q.z.testBit j <;> rfl
theorem ltr_len (p : Pa) (j : Nat) : (ltr p j).length = 1 := rfl
theorem eP_lt (p q : Pa) (j : Nat) : eP p q j < 4 := by
  unfold eP
  cases p.x.testBit j <;> cases p.z.testBit j <;> cases q.x.testBit j <;> cases q.z.testBit j <;> decide
theorem pk__law_times : Pk 2 5 sp__law_times w__law_times := by
  rintro ds h R _ ⟨x, z, p, rfl, hx, hz, hp, hR⟩
  have e1 : Builtin.bitXor (x : Int) (p.x : Int) = ((x ^^^ p.x : Nat) : Int) := xor_nn _ _
  have e2 : Builtin.bitXor (z : Int) (p.z : Int) = ((z ^^^ p.z : Nat) : Int) := xor_nn _ _
  have hps := hp.s
  refine ⟨_, rfl, _, rfl, _, rfl, _, rfl, ?_⟩
  change w__law_times_1 (Fi R) ⟨[.f (.tup [.int x, .int z, .int 0]), .f p.e, .u, .u, .f (.int (Builtin.bitXor (x : Int) (p.x : Int))), .f (.int (Builtin.bitXor (z : Int) (p.z : Int))), .u], h⟩
  rw [e1, e2]
  refine ⟨_, rfl, cmul 2 1 (by decide) (by decide) (by decide), _, rfl, cm2 _ (by omega), ?_⟩
  change w__law_times_2 (Fi R) ⟨[.f (.tup [.int x, .int z, .int 0]), .f p.e, .f (.int (2 * 0 + 2 * (p.s : Nat))), .u, .f (.int (x ^^^ p.x : Nat)), .f (.int (z ^^^ p.z : Nat)), .u], h⟩
  refine ⟨by decide, ?_⟩
  refine rloop (N := 4) (T := { Fi R with nx := w__law_times_3 (Fi R) }) (fun j S => ∃ s3 s6, S = ⟨[.f (.tup [.int x, .int z, .int 0]), .f p.e, .f (.int ((2 * p.s + tsum ⟨x, z, 0⟩ p j : Nat) : Int)), s3, .f (.int (x ^^^ p.x : Nat)), .f (.int (z ^^^ p.z : Nat)), s6], h⟩) ?_ ?_ ⟨.u, .u, ?_⟩
  · rintro j _ T' hj ⟨s3, s6, rfl⟩ hnx
    refine ⟨⟨x, z, 0⟩, j, rfl, by omega, p, j, rfl, by omega, ?_, ?_⟩
    · rw [ltr_len, ltr_len]
      decide
    · change w__law_times_b1_1 T' ⟨[.f (.tup [.int x, .int z, .int 0]), .f p.e, .f (.int ((2 * p.s + tsum ⟨x, z, 0⟩ p j : Nat) : Int)), .f (.int j), .f (.int (x ^^^ p.x : Nat)), .f (.int (z ^^^ p.z : Nat)), .f (.str (ltr ⟨x, z, 0⟩ j ++ ltr p j))], h⟩
      refine ⟨_, rfl, _, rfl, _, rfl, _, rfl, _, rfl, _, rfl, by decide, by decide +kernel, ⟨tl6, .inl rfl⟩, tl6, .inr (ltr ⟨x, z, 0⟩ j ++ ltr p j), rfl, .inl rfl, ?_⟩
      rw [pair_at]
      refine hnx _ ⟨.f (.int j), .f (.str (ltr ⟨x, z, 0⟩ j ++ ltr p j)), ?_⟩
      show (⟨[.f (.tup [.int x, .int z, .int 0]), .f p.e, .f (.int (((2 * p.s + tsum ⟨x, z, 0⟩ p j : Nat) : Int) + (eP ⟨x, z, 0⟩ p j : Nat))), .f (.int j), .f (.int (x ^^^ p.x : Nat)), .f (.int (z ^^^ p.z : Nat)), .f (.str (ltr ⟨x, z, 0⟩ j ++ ltr p j))], h⟩ : Sg) = _
      have e : ((2 * p.s + tsum ⟨x, z, 0⟩ p j : Nat) : Int) + (eP ⟨x, z, 0⟩ p j : Nat) = ((2 * p.s + tsum ⟨x, z, 0⟩ p (j + 1) : Nat) : Int) := by
        show _ = ((2 * p.s + (tsum ⟨x, z, 0⟩ p j + eP ⟨x, z, 0⟩ p j) : Nat) : Int)
        omega
      rw [e]
  · rintro _ ⟨s3, s6, rfl⟩
    have t := tsum_trn (p := ⟨x, z, 0⟩) (q := p) hx hz hp.x hp.z rfl
    refine ⟨(by decide : (0 : Int) < 4), ?_⟩
    have e : ((2 * p.s + tsum ⟨x, z, 0⟩ p 4 : Nat) : Int) % 4 = ((trN ⟨x, z, 0⟩ p : Nat) : Int) := by
      rw [← t]
      exact_mod_cast rfl
    show R (.tup [.tup [.int (x ^^^ p.x : Nat), .int (z ^^^ p.z : Nat)], .int (((2 * p.s + tsum ⟨x, z, 0⟩ p 4 : Nat) : Int) % 4)]) h
    rw [e]
    exact hR
  · have e : (2 * 0 + 2 * (p.s : Nat) : Int) = ((2 * p.s + tsum ⟨x, z, 0⟩ p 0 : Nat) : Int) := by
      show _ = ((2 * p.s + 0 : Nat) : Int)
      omega
    rw [← e]
end K36

set_option Elab.async false
set_option linter.all false
set_option maxRecDepth 100000
set_option maxHeartbeats 1000000
/-! P4_k36: images, the law's state walked -/
namespace K36
open PySem PySem.Spec PyProof.Rows L2 VL VL.P VL.N
theorem mul_lt {n : Nat} {r : (Nat × Nat) × Nat} {p : Pa} (h1 : r.1.1 < 2 ^ n) (h2 : r.1.2 < 2 ^ n) (hp : PB n p) : (mulI r p).1.1 < 2 ^ n ∧ (mulI r p).1.2 < 2 ^ n := ⟨xor_lt h1 hp.x, xor_lt h2 hp.z⟩
theorem im_lt {n : Nat} {X Z : Nat → Pa} (B : Bs n X Z) (x z : Nat) : ∀ q, q ≤ n → (imN X Z x z q).1.1 < 2 ^ n ∧ (imN X Z x z q).1.2 < 2 ^ n
  | 0, _ => ⟨Nat.two_pow_pos n, Nat.two_pow_pos n⟩
  | q + 1, h => by
    obtain ⟨i1, i2⟩ := im_lt B x z q (by omega)
    obtain ⟨bx, bz⟩ := B q (by omega)
    show (imQ X Z x z q (imN X Z x z q)).1.1 < 2 ^ n ∧ (imQ X Z x z q (imN X Z x z q)).1.2 < 2 ^ n
    unfold imQ
    split <;> split
    · have a := mul_lt (r := ((imN X Z x z q).1, (imN X Z x z q).2 + 1)) i1 i2 bx
      exact mul_lt a.1 a.2 bz
    · exact mul_lt i1 i2 bx
    · exact mul_lt i1 i2 bz
    · exact ⟨i1, i2⟩
def rI (r : (Nat × Nat) × Nat) : D := .tup [.int r.1.1, .int r.1.2, .int 0]
def iS (a : Addr) (x z n : Nat) (q : D) (r : (Nat × Nat) × Nat) (nm parts : Sl) (s8 s9 s10 : Sl) (h : Oh) : Sg := ⟨[.f (.obj a), .f (.tup [.int x, .int z, .int 0]), .f (namesD n), .f q, .f (.int (r.2 : Nat)), .f (rI r), nm, parts, s8, s9, s10], h⟩
/-- the parts in turn -/
theorem parts_loop {a : Addr} {x z n : Nat} {q : D} {nm parts : Sl} {h : Oh} {T : We} (h4 : n ≤ 4) : ∀ (ps : List Pa) (r : (Nat × Nat) × Nat) (s8 s9 s10 : Sl), (∀ p ∈ ps, PB n p) → r.1.1 < 2 ^ n → r.1.2 < 2 ^ n →
    (∀ s8 s9 s10, T.nx (iS a x z n q (ps.foldl mulI r) nm parts s8 s9 s10 h)) → wForL (gVar 8) w__law_image_b2 T (ps.map Pa.e) (iS a x z n q r nm parts s8 s9 s10 h)
  | [], r, s8, s9, s10, _, _, _, k => k s8 s9 s10
  | p :: ps, r, s8, s9, s10, hb, h1, h2, k => by
    have bp := hb p List.mem_cons_self
    have l4 : 2 ^ n ≤ 2 ^ 4 := Nat.pow_le_pow_right (by decide) h4
    have bp4 : PB 4 p := ⟨Nat.lt_of_lt_of_le bp.x l4, Nat.lt_of_lt_of_le bp.z l4, bp.s⟩
    obtain ⟨m1, m2⟩ := mul_lt h1 h2 bp
    refine forv ?_
    refine ⟨_, rfl, _, rfl, r.1.1, r.1.2, p, rfl, Nat.lt_of_lt_of_le h1 l4, Nat.lt_of_lt_of_le h2 l4, bp4, rfl, ?_⟩
    refine ⟨_, rfl, _, rfl, ?_⟩
    have e : ((r.2 : Nat) : Int) + (trN ⟨r.1.1, r.1.2, 0⟩ p : Nat) = (((mulI r p).2 : Nat) : Int) := by
      show _ = ((r.2 + trN ⟨r.1.1, r.1.2, 0⟩ p : Nat) : Int)
      omega
    have g := parts_loop h4 ps (mulI r p) (.f p.e) (.f (.tup [.int (r.1.1 ^^^ p.x : Nat), .int (r.1.2 ^^^ p.z : Nat)])) (.f (.int (trN ⟨r.1.1, r.1.2, 0⟩ p : Nat))) (fun y hy => hb y (List.mem_cons_of_mem _ hy)) m1 m2 k
    unfold iS at g ⊢
    rw [← e] at g
    exact g
def partsOf (X Z : Nat → Pa) (bx bz : Bool) (q : Nat) : List Pa := match bx, bz with
  | true, true => [X q, Z q]
  | true, false => [X q]
  | false, true => [Z q]
  | false, false => []
theorem nm_at {n q : Nat} (h : q < n) : atI ((List.range n).map fun q => D.str (nmQ q)) (q : Int) = some (.str (nmQ q)) := by
  unfold atI ixN
  rw [if_pos (Int.natCast_nonneg q), if_pos (by rw [List.length_map, List.length_range]; omega)]
  show ((List.range n).map fun q => D.str (nmQ q))[q]? = _
  rw [List.getElem?_map, List.getElem?_range h]
  rfl
def tlI (X Z : Nat → Pa) (q : Nat) : List (Key × D) := [(.inr "I", .lst []), (.inr "X", .lst [(X q).e]), (.inr "Z", .lst [(Z q).e]), (.inr "Y", .lst [(X q).e, (Z q).e])]
theorem nod4 : ([Sum.inr "I", Sum.inr "X", Sum.inr "Z", Sum.inr "Y"] : List (Int ⊕ Str)).Nodup := by decide +kernel
theorem pk__law_image : Pk 3 8 sp__law_image w__law_image := by
  rintro ds h R _ ⟨a, d, n, X, Z, x, z, rfl, F, B, hx, hz, hR⟩
  have h3 := F.n3
  refine ⟨rfl, ?_⟩
  change w__law_image_1 (Fi R) ⟨[.f (.obj a), .f (.tup [.int x, .int z, .int 0]), .f (namesD n), .u, .f (.int ((imN X Z x z 0).2 : Nat)), .f (rI (imN X Z x z 0)), .u, .u, .u, .u, .u], h⟩
  refine ⟨⟨by omega, by rw [List.length_map, List.length_range]; omega⟩, ?_⟩
  rw [show (((List.range n).map fun q => D.str (nmQ q)).length : Int).toNat = n by rw [Int.toNat_natCast, List.length_map, List.length_range]]
  refine rloop (N := n) (T := { Fi R with nx := w__law_image_2 (Fi R) }) (fun j S => ∃ s3 s6 s7 s8 s9 s10, S = ⟨[.f (.obj a), .f (.tup [.int x, .int z, .int 0]), .f (namesD n), s3, .f (.int ((imN X Z x z j).2 : Nat)), .f (rI (imN X Z x z j)), s6, s7, s8, s9, s10], h⟩) ?_ ?_ ⟨_, _, _, _, _, _, rfl⟩
  · rintro j _ T' hj ⟨s3, s6, s7, s8, s9, s10, rfl⟩ hnx
    obtain ⟨b1, b2⟩ := im_lt B x z j (by omega)
    obtain ⟨bx, bz⟩ := B j hj
    refine ⟨⟨x, z, 0⟩, j, rfl, by omega, ?_⟩
    change w__law_image_b1_1 T' (iS a x z n (.int (j : Nat)) (imN X Z x z j) (.f (.str (ltr ⟨x, z, 0⟩ j))) s7 s8 s9 s10 h)
    have na := nm_at (n := n) hj
    refine ⟨_, rfl, a, _, rfl, F.o, rfl, _, na, a, d, n, j, X, Z, rfl, hj, F, _, rfl, a, _, rfl, F.o, rfl, _, na, a, d, n, j, X, Z, rfl, hj, F, _, rfl, a, _, rfl, F.o, rfl, _, na, a, d, n, j, X, Z, rfl, hj, F, a, _, rfl, F.o, rfl, _, na, a, d, n, j, X, Z, rfl, hj, F, _, rfl, ?_⟩
    refine ⟨by show 4 ≤ 15; decide, nod4, tlI X Z j, .inr (ltr ⟨x, z, 0⟩ j), .lst ((partsOf X Z (x.testBit j) (z.testBit j) j).map Pa.e), rfl, .inl rfl, ?_, ?_⟩
    · rw [ltr_eq]
      show look (tlI X Z j) (.inr (if x.testBit j then (if z.testBit j then ("Y" : Str) else ("X" : Str)) else (if z.testBit j then ("Z" : Str) else ("I" : Str)))) = _
      cases x.testBit j <;> cases z.testBit j <;> rfl
    · change w__law_image_b1_2 T' (iS a x z n (.int (j : Nat)) (imN X Z x z j) (.f (.str (ltr ⟨x, z, 0⟩ j))) (.f (.lst ((partsOf X Z (x.testBit j) (z.testBit j) j).map Pa.e))) s8 s9 s10 h)
      let r1 : (Nat × Nat) × Nat := ((imN X Z x z j).1, (imN X Z x z j).2 + (x.testBit j && z.testBit j).toNat)
      have eY : (if (ltr ⟨x, z, 0⟩ j == ("Y" : Str)) = true then (1 : Int) else 0) = (((x.testBit j && z.testBit j).toNat : Nat) : Int) := by
        rw [ltr_eq]
        show (if ((if x.testBit j then (if z.testBit j then ("Y" : Str) else ("X" : Str)) else (if z.testBit j then ("Z" : Str) else ("I" : Str))) == ("Y" : Str)) = true then (1 : Int) else 0) = _
        cases x.testBit j <;> cases z.testBit j <;> rfl
      have pb : ∀ p ∈ partsOf X Z (x.testBit j) (z.testBit j) j, PB n p := fun p hp => by
        revert hp
        cases x.testBit j <;> cases z.testBit j <;> intro hp
        · cases hp
        · rw [List.mem_singleton.mp hp]; exact bz
        · rw [List.mem_singleton.mp hp]; exact bx
        · rcases List.mem_cons.mp hp with rfl | hp
          · exact bx
          · rw [List.mem_singleton.mp hp]; exact bz
      have fin : (partsOf X Z (x.testBit j) (z.testBit j) j).foldl mulI r1 = imN X Z x z (j + 1) := by
        show (partsOf X Z (x.testBit j) (z.testBit j) j).foldl mulI ((imN X Z x z j).1, (imN X Z x z j).2 + (x.testBit j && z.testBit j).toNat) = imQ X Z x z j (imN X Z x z j)
        unfold imQ
        cases x.testBit j <;> cases z.testBit j <;> rfl
      have loop := parts_loop (a := a) (x := x) (z := z) (n := n) (q := .int (j : Nat)) (nm := .f (.str (ltr ⟨x, z, 0⟩ j))) (parts := .f (.lst ((partsOf X Z (x.testBit j) (z.testBit j) j).map Pa.e))) (h := h) (T := T') (by omega) (partsOf X Z (x.testBit j) (z.testBit j) j) r1 s8 s9 s10 pb b1 b2 fun s8 s9 s10 => by
        rw [fin]
        exact hnx _ ⟨_, _, _, s8, s9, s10, rfl⟩
      have e : (((imN X Z x z j).2 : Nat) : Int) + (((x.testBit j && z.testBit j).toNat : Nat) : Int) = ((r1.2 : Nat) : Int) := by
        show _ = (((imN X Z x z j).2 + (x.testBit j && z.testBit j).toNat : Nat) : Int)
        omega
      unfold iS at loop
      rw [← e, ← eY] at loop
      exact loop
  · rintro _ ⟨s3, s6, s7, s8, s9, s10, rfl⟩
    refine ⟨_, rfl, cmul 2 1 (by decide) (by decide) (by decide), (by decide : (0 : Int) < 4), ?_⟩
    change w__law_image_3 (Fi R) ⟨[.f (.obj a), .f (.tup [.int x, .int z, .int 0]), .f (namesD n), s3, .f (.int (((((imN X Z x z n).2 : Nat) : Int) + 2 * 0) % 4)), .f (rI (imN X Z x z n)), s6, s7, s8, s9, s10], h⟩
    have e : ((((imN X Z x z n).2 : Nat) : Int) + 2 * 0) % 4 = (((imN X Z x z n).2 % 4 : Nat) : Int) := by omega
    rw [e]
    unfold imD at hR
    refine ⟨(by decide : (0 : Int) < 2), ?_⟩
    by_cases o : (imN X Z x z n).2 % 2 = 1
    · rw [if_pos o] at hR
      refine brT ?_ hR
      show ((((imN X Z x z n).2 % 4 : Nat) : Int) % 2 == 1) = true
      have : (((imN X Z x z n).2 % 4 : Nat) : Int) % 2 = 1 := by omega
      rw [this]
      rfl
    · rw [if_neg o] at hR
      refine brF ?_ ?_
      · show ((((imN X Z x z n).2 % 4 : Nat) : Int) % 2 == 1) = false
        have : (((imN X Z x z n).2 % 4 : Nat) : Int) % 2 = 0 := by omega
        rw [this]
        rfl
      · refine ⟨_, rfl, _, rfl, cdiv2, ?_⟩
        have e2 : (((imN X Z x z n).2 % 4 : Nat) : Int) / 2 = (((imN X Z x z n).2 % 4 / 2 : Nat) : Int) := by omega
        show R (.tup [.int (imN X Z x z n).1.1, .int (imN X Z x z n).1.2, .int ((((imN X Z x z n).2 % 4 : Nat) : Int) / 2)]) h
        rw [e2]
        exact hR
theorem drawN {h : Oh} {t : Addr} {m : Int} {R : D → Oh → Prop} {Y : XC} (hT : Tp h t) (h1 : 0 < m) (h2 : m < 2 ^ 60) (k : ∀ (v : Nat) h', (v : Int) < m → Tp h' t → But t h h' → R (.int v) h') : sp_next [.obj t, .int m] h R Y :=
  draw hT h1 h2 fun v h' v0 v1 hT' bt => by
    obtain ⟨v', rfl⟩ := Int.eq_ofNat_of_zero_le v0
    exact k v' h' v1 hT' bt
theorem But.trans' {a : Addr} {h h1 h2 : Oh} (x : But a h h1) (y : But a h1 h2) : But a h h2 := x.trans y
def five (v : Nat) : G1 := match v with
  | 0 => .H
  | 1 => .S
  | 2 => .T
  | 3 => .H
  | _ => .X
theorem five_at {v : Nat} (h : v < 5) : atI [D.str "H", .str "S", .str "T", .str "H", .str "X"] (v : Int) = some (.str (five v).nm) := by
  have c : v = 0 ∨ v = 1 ∨ v = 2 ∨ v = 3 ∨ v = 4 := by omega
  rcases c with rfl | rfl | rfl | rfl | rfl <;> rfl
theorem pk__law_state : Pk 2 4 sp__law_state w__law_state := by
  intro ds h R _ q
  unfold sp__law_state at q
  obtain ⟨t, n, rfl, n0, n3, hT, hR⟩ := q
  refine ⟨n, rfl, by omega, fun s0 st0 _ => ?_⟩
  change w__law_state_1 (Fi R) ⟨[.f (.obj t), .f (.int n), .f (stD s0), .u, .u, .u], h⟩
  refine ⟨by decide, ?_⟩
  refine rloop (N := 8) (T := { Fi R with nx := w__law_state_2 (Fi R) }) (fun j S => ∃ s h1 s3 s4 s5, St n (4 * j) j s ∧ Tp h1 t ∧ But t h h1 ∧ S = ⟨[.f (.obj t), .f (.int n), .f (stD s), s3, s4, s5], h1⟩) ?_ ?_ ⟨s0, h, .u, .u, .u, st0, hT, But.refl _ _, rfl⟩
  · rintro j _ T' hj ⟨s, h1, s3, s4, s5, st, hT1, bt1, rfl⟩ hnx
    refine drawN (m := (n : Nat)) hT1 (by omega) (by omega) fun q h2 hq hT2 bt2 => ?_
    have hq : q < n := by omega
    change w__law_state_b1_1 T' ⟨[.f (.obj t), .f (.int n), .f (stD s), .f (.int j), .f (.int q), s5], h2⟩
    refine drawN hT2 (by decide) (by decide) fun k h3 hk hT3 bt3 => ?_
    have hk : k < 5 := by omega
    change w__law_state_b1_2 T' ⟨[.f (.obj t), .f (.int n), .f (stD s), .f (.int j), .f (.int q), .f (.int k)], h3⟩
    have one : ∀ s' h', St n (4 * j + 4) (j + 1) s' → h' = h3 → T'.nx ⟨[.f (.obj t), .f (.int n), .f (stD s'), .f (.int j), .f (.int q), .f (.int k)], h'⟩ := fun s' h' st' e => by
      subst e
      exact hnx _ ⟨s', _, _, _, _, st', hT3, (bt1.trans bt2).trans bt3, rfl⟩
    have g1 : sp_gate [stD s, .str (five k).nm, .tup [.int q]] h3 (fun d h' => T'.nx ⟨[.f (.obj t), .f (.int n), .f d, .f (.int j), .f (.int q), .f (.int k)], h'⟩) NX :=
      ⟨n, 4 * j, j, s, st, by omega, by omega, .inl ⟨five k, q, rfl, hq, fun s' st' _ => one s' h3 st' rfl⟩⟩
    by_cases c : k < 4
    · refine brT (decide_eq_true (p := (k : Int) < 4) (by omega)) ?_
      refine brT rfl ?_
      exact ⟨_, five_at hk, g1⟩
    · refine brF (decide_eq_false (p := (k : Int) < 4) (by omega)) ?_
      by_cases c1 : n = 1
      · refine brT (by show ((n : Int) == 1) = true; rw [c1]; rfl) ?_
        exact ⟨_, five_at hk, g1⟩
      · refine brF (by show ((n : Int) == 1) = false; have : ¬ (n : Int) = 1 := by omega
                       simpa using this) ?_
        refine ⟨(by omega : (0 : Int) < (n : Nat)), ?_⟩
        have e : ((q : Int) + 1) % (n : Nat) = (((q + 1) % n : Nat) : Int) := by exact_mod_cast rfl
        have lt : (q + 1) % n < n := Nat.mod_lt _ n0
        have ne : q ≠ (q + 1) % n := by
          by_cases w : q + 1 < n
          · rw [Nat.mod_eq_of_lt w]; omega
          · have : q + 1 = n := by omega
            rw [this, Nat.mod_self]
            omega
        refine ⟨n, 4 * j, j, s, st, by omega, by omega, .inr ⟨.CX, q, (q + 1) % n, ?_, hq, lt, ne, fun s' st' _ => one s' h3 st' rfl⟩⟩
        show [stD s, D.str "CX", D.tup [.int q, .int (((q : Int) + 1) % (n : Nat))]] = _
        rw [e]
        rfl
  · rintro _ ⟨s, h1, s3, s4, s5, st, hT1, bt1, rfl⟩
    exact hR s h1 st hT1 bt1
end K36

set_option Elab.async false
set_option linter.all false
set_option maxRecDepth 100000
set_option maxHeartbeats 1000000
/-! P5_k36: steps, the law's turns -/
namespace K36
open PySem PySem.Spec PyProof.Rows L2 VL VL.P VL.N
inductive Stp where
  | turn (p : Pa)
  | flip (p : Pa)
  | one (g : G1) (q : Nat)
  | two (g : G2) (u t : Nat)
def Stp.d : Stp → D
  | .turn p => .tup [.str "turn", p.e]
  | .flip p => .tup [.str "flip", p.e]
  | .one g q => .tup [.str g.nm, .tup [.int q]]
  | .two g u t => .tup [.str g.nm, .tup [.int u, .int t]]
def Stp.op : Stp → Vc → Vc
  | .turn p => tnv p
  | .flip p => act p
  | .one g q => g.op q
  | .two g u t => g.op u t
def Stp.Ok (n : Nat) : Stp → Prop
  | .turn p => PB n p
  | .flip p => PB n p
  | .one g q => q < n ∧ isC g = true
  | .two _ u t => u < n ∧ t < n ∧ u ≠ t
def runS (l : List Stp) (f : Vc) : Vc := l.foldl (fun g s => s.op g) f
theorem runS_snoc (l : List Stp) (s : Stp) : (fun f => runS (l ++ [s]) f) = fun f => s.op (runS l f) := funext fun f => by
  unfold runS
  rw [List.foldl_append]
  rfl
theorem runS_cons (l : List Stp) (s : Stp) : (fun f => runS (s :: l) f) = fun f => runS l (s.op f) := rfl
section
variable {n : Nat} {U : Vc → Vc} {X Z : Nat → Pa}
theorem FI_bs (F : FI n U X Z) : Bs n X Z := fun q hq => ⟨F.xb q hq, F.zb q hq⟩
theorem FI_g1 (F : FI n U X Z) {g : G1} {q : Nat} (hq : q < n) (hg : isC g = true) : FI n (fun f => g.op q (U f)) (ups1 X q (fx1 g q X Z)) (ups1 Z q (fz1 g q X Z)) := by
  cases g with
  | T => cases hg
  | TI => cases hg
  | H => exact F.H hq
  | S => exact F.S hq
  | SI => exact F.SI hq
  | X => exact F.X' hq
  | Y => exact F.Y hq
  | Z => exact F.Z' hq
theorem FI_g2 (F : FI n U X Z) {g : G2} {u t : Nat} (hu : u < n) (ht : t < n) (ne : u ≠ t) : FI n (fun f => g.op u t (U f)) (fx2 g u t X Z) (fz2 g u t X Z) := by
  cases g with
  | CX => exact F.CX hu ht ne
  | CZ => exact F.CZ hu ht ne
end
/-- a for whose body may go on early -/
theorem rloopC {i : Nat} {tb : WS} {T : We} {N : Nat} (P : Nat → Sg → Prop) (hs : ∀ (k : Nat) (S : Sg) (T' : We), k < N → P k S → (∀ S', P (k + 1) S' → T'.nx S') → (∀ S', P (k + 1) S' → T'.ct S') → tb T' (S.st i (.f (.int (k : Nat))))) (he : ∀ S, P N S → T.nx S) {S : Sg} (h0 : P 0 S) :
    wForL (gVar i) tb T ((List.range N).map fun k => .int (k : Nat)) S := by
  have go : ∀ (m k : Nat) (S : Sg), k + m = N → P k S → wForL (gVar i) tb T ((List.range' k m).map fun k => .int (k : Nat)) S := fun m => by
    induction m with
    | zero =>
      intro k S e p
      have : k = N := by omega
      subst this
      exact he S p
    | succ m ih =>
      intro k S e p
      exact hs k S _ (by omega) p (fun S' p' => ih (k + 1) S' (by omega) p') (fun S' p' => ih (k + 1) S' (by omega) p')
  rw [List.range_eq_range']
  exact go N 0 S (by omega) h0
def lS (sc0 : D) (t : Addr) (n : Nat) (a : Addr) (s5 : Sl) (s0 : List Nm) (l : List Stp) (s8 s9 s10 s11 s12 s13 s14 s15 s16 s17 s18 s19 s20 : Sl) (h : Oh) : Sg :=
  ⟨[.f sc0, .f (.obj t), .f (.int n), .f (namesD n), .f (.obj a), s5, .f (stD s0), .f (.lst (l.map Stp.d)), s8, s9, s10, s11, s12, s13, s14, s15, s16, s17, s18, s19, s20], h⟩
structure LI (n : Nat) (t a d : Addr) (l : List Stp) (X Z : Nat → Pa) (h : Oh) : Prop where
  T : Tp h t
  F : FrAt h a d n X Z
  I : FI n (fun f => runS l f) X Z
  ok : ∀ s ∈ l, s.Ok n
  ta : t ≠ a
  td : t ≠ d
  n0 : 0 < n
theorem FrAt.but {h h' : Oh} {t a d : Addr} {n : Nat} {X Z : Nat → Pa} (F : FrAt h a d n X Z) (b : But t h h') (ta : t ≠ a) (td : t ≠ d) : FrAt h' a d n X Z :=
  ⟨F.ne, by rw [b a (Ne.symm ta)]; exact F.o, by rw [b d (Ne.symm td)]; exact F.r, F.n3⟩
theorem LI.but {n : Nat} {t a d : Addr} {l : List Stp} {X Z : Nat → Pa} {h h' : Oh} (L : LI n t a d l X Z h) (hT : Tp h' t) (b : But t h h') : LI n t a d l X Z h' :=
  ⟨hT, L.F.but b L.ta L.td, L.I, L.ok, L.ta, L.td, L.n0⟩
theorem Tp_to {h : Oh} {t d : Addr} {n : Nat} {X Z : Nat → Pa} (hT : Tp h t) (td : t ≠ d) : Tp (toR h d n X Z) t := by
  obtain ⟨ns, i, r, s, q, q2⟩ := hT
  exact ⟨ns, i, r, s, by unfold toR; rw [Oh.put_ne td]; exact q, q2⟩
theorem LI.snoc {n : Nat} {t a d : Addr} {l : List Stp} {X Z X' Z' : Nat → Pa} {h : Oh} {s : Stp} (L : LI n t a d l X Z h) (I : FI n (fun f => s.op (runS l f)) X' Z') (ok : s.Ok n) : LI n t a d (l ++ [s]) X' Z' (toR h d n X' Z') :=
  ⟨Tp_to L.T L.td, L.F.to L.F.n3 X' Z', by rw [runS_snoc]; exact I, fun y hy => by
    rcases List.mem_append.mp hy with hy | hy
    · exact L.ok y hy
    · rw [List.mem_singleton.mp hy]; exact ok, L.ta, L.td, L.n0⟩
theorem LI.cons {n : Nat} {t a d : Addr} {l : List Stp} {X Z X' Z' : Nat → Pa} {h : Oh} {s : Stp} (L : LI n t a d l X Z h) (I : FI n (fun f => runS l (s.op f)) X' Z') (ok : s.Ok n) : LI n t a d (s :: l) X' Z' (toR h d n X' Z') :=
  ⟨Tp_to L.T L.td, L.F.to L.F.n3 X' Z', I, fun y hy => by
    rcases List.mem_cons.mp hy with rfl | hy
    · exact ok
    · exact L.ok y hy, L.ta, L.td, L.n0⟩
def six (v : Nat) : G1 := match v with
  | 0 => .H
  | 1 => .S
  | 2 => .SI
  | 3 => .X
  | 4 => .Y
  | _ => .Z
def nm8 (v : Nat) : Str := if v < 6 then (six v).nm else if v = 6 then G2.CX.nm else G2.CZ.nm
theorem nm8_at {v : Nat} (h : v < 8) : atI [D.str "H", .str "S", .str "SI", .str "X", .str "Y", .str "Z", .str "CX", .str "CZ"] (v : Int) = some (.str (nm8 v)) := by
  have c : v = 0 ∨ v = 1 ∨ v = 2 ∨ v = 3 ∨ v = 4 ∨ v = 5 ∨ v = 6 ∨ v = 7 := by omega
  rcases c with rfl | rfl | rfl | rfl | rfl | rfl | rfl | rfl <;> rfl
theorem six_C (v : Nat) : isC (six v) = true := by
  unfold six
  split <;> rfl
theorem pw2 {n : Nat} (h : n ≤ 3) : 2 ^ n ≤ 8 := Nat.pow_le_pow_right (show 0 < 2 by decide) h
section
variable {T : We} {sc0 : D} {t a d : Addr} {n : Nat} {s0 : List Nm} {l : List Stp} {X Z : Nat → Pa} {h : Oh} {s5 s8 s9 s10 s11 s12 s13 s14 s15 s16 s17 s18 s19 s20 : Sl}
/-- a Pauli is drawn: the frame turns or flips -/
theorem turn_step {v : Nat} (hv : 7 < v) (hv2 : v < 10) (L : LI n t a d l X Z h) (hl : l.length < 14)
    (k : ∀ l' X' Z' h' p, LI n t a d l' X' Z' h' → l'.length = l.length + 1 → T.ct (lS sc0 t n a s5 s0 l' s8 s9 s10 (.f (.int v)) s12 s13 s14 s15 s16 s17 p s19 s20 h')) :
    w_law_b2_2 T (lS sc0 t n a s5 s0 l s8 s9 s10 (.f (.int v)) s12 s13 s14 s15 s16 s17 s18 s19 s20 h) := by
  have n3 := L.F.n3
  have p8 := pw2 n3
  have pp := Nat.two_pow_pos n
  have hz : (1000000 : Nat) < sizeLine := by decide
  refine brT (decide_eq_true (p := (7 : Int) < (v : Int)) (by omega)) ?_
  refine ⟨shl_one (by omega), drawN (m := (1 : Int) * 2 ^ ((n : Int)).toNat) L.T (by rw [shl_v]; omega) (by rw [shl_v]; omega) fun x h1 hx hT1 bt1 => ?_⟩
  refine ⟨shl_one (by omega), drawN (m := (1 : Int) * 2 ^ ((n : Int)).toNat) hT1 (by rw [shl_v]; omega) (by rw [shl_v]; omega) fun z h2 hz2 hT2 bt2 => ?_⟩
  refine drawN hT2 (by decide) (by decide) fun s h3 hs hT3 bt3 => ?_
  rw [shl_v] at hx hz2
  have L3 := L.but hT3 ((bt1.trans bt2).trans bt3)
  have pb : PB n ⟨x, z, s⟩ := ⟨by show x < 2 ^ n; omega, by show z < 2 ^ n; omega, by show s < 2; omega⟩
  have cv : v = 8 ∨ v = 9 := by omega
  rcases cv with rfl | rfl
  · refine brT rfl ?_
    refine ⟨a, _, rfl, L3.F.o, rfl, a, d, n, X, Z, ⟨x, z, s⟩, rfl, L3.F, FI_bs L3.I, pb, ?_⟩
    refine ⟨_, rfl, by show 1 + (l.map Stp.d).length ≤ sizeLine; rw [List.length_map]; omega, ?_⟩
    exact k (.turn ⟨x, z, s⟩ :: l) _ _ _ (.f (Pa.e ⟨x, z, s⟩)) (L3.cons (s := .turn ⟨x, z, s⟩) (L3.I.turn pb) pb) rfl
  · refine brF rfl ?_
    refine ⟨a, _, rfl, L3.F.o, rfl, a, d, n, X, Z, ⟨x, z, s⟩, rfl, L3.F, FI_bs L3.I, pb, ?_⟩
    refine ⟨_, rfl, by show 1 + (l.map Stp.d).length ≤ sizeLine; rw [List.length_map]; omega, ?_⟩
    exact k (.flip ⟨x, z, s⟩ :: l) _ _ _ (.f (Pa.e ⟨x, z, s⟩)) (L3.cons (s := .flip ⟨x, z, s⟩) (L3.I.flip pb) pb) rfl
theorem nmsD {n q : Nat} (hq : q < n) : atI ((List.range n).map fun q => D.str (nmQ q)) (q : Int) = some (.str (nmQ q)) := nm_at hq
/-- a gate: one qubit -/
theorem gate_one_step {v q : Nat} (hv : v < 6) (hq : q < n) (L : LI n t a d l X Z h) (hl : l.length < 14)
    (k : ∀ l' X' Z' h' w15, LI n t a d l' X' Z' h' → l'.length = l.length + 1 → T.nx (lS sc0 t n a s5 s0 l' s8 s9 s10 (.f (.int v)) (.f (.int q)) (.f (.str (nm8 v))) s14 w15 s16 s17 s18 s19 .u h')) :
    w_law_b2_6 T (lS sc0 t n a s5 s0 l s8 s9 s10 (.f (.int v)) (.f (.int q)) (.f (.str (nm8 v))) s14 s15 s16 s17 s18 s19 .u h) := by
  have hz : (1000000 : Nat) < sizeLine := by decide
  refine brF (decide_eq_false (p := (5 : Int) < (v : Int)) (by omega)) ?_
  change w_law_b2_7 T (lS sc0 t n a s5 s0 l s8 s9 s10 (.f (.int v)) (.f (.int q)) (.f (.str (nm8 v))) s14 (.f (.tup [.int q])) s16 s17 s18 s19 .u h)
  have e8 : nm8 v = (six v).nm := by unfold nm8; rw [if_pos hv]
  refine ⟨a, _, rfl, L.F.o, rfl, rfl, by show 1 ≤ 1000000; decide, ?_⟩
  refine brT rfl ⟨_, nmsD hq, rfl, ?_⟩
  refine ⟨a, d, n, X, Z, L.F, FI_bs L.I, .inl ⟨six v, q, ?_, hq, six_C v, ?_⟩⟩
  · rw [e8]
    rfl
  · change w_law_b2_8 T (lS sc0 t n a s5 s0 l s8 s9 s10 (.f (.int v)) (.f (.int q)) (.f (.str (nm8 v))) s14 (.f (.tup [.int q])) s16 s17 s18 s19 .u (toR h d n (ups1 X q (fx1 (six v) q X Z)) (ups1 Z q (fz1 (six v) q X Z))))
    refine ⟨by show (l.map Stp.d).length + 1 ≤ sizeLine; rw [List.length_map]; omega, ?_⟩
    have e : l.map Stp.d ++ [D.tup [.str (nm8 v), .tup [.int q]]] = (l ++ [Stp.one (six v) q]).map Stp.d := by
      rw [List.map_append, e8]
      rfl
    have g := k (l ++ [Stp.one (six v) q]) _ _ _ (.f (.tup [.int q])) (L.snoc (s := .one (six v) q) (FI_g1 L.I hq (six_C v)) ⟨hq, six_C v⟩) (by rw [List.length_append]; rfl)
    unfold lS at g ⊢
    rw [← e] at g
    exact g
/-- a gate on two qubits -/
theorem gate_two_step {v q w : Nat} (hv : 5 < v) (hv2 : v < 8) (hq : q < n) (hw : w < n) (ne : q ≠ w) (L : LI n t a d l X Z h) (hl : l.length < 14)
    (k : ∀ l' X' Z' h' w15, LI n t a d l' X' Z' h' → l'.length = l.length + 1 → T.nx (lS sc0 t n a s5 s0 l' s8 s9 s10 (.f (.int v)) (.f (.int q)) (.f (.str (nm8 v))) (.f (.int w)) w15 s16 s17 s18 s19 .u h')) :
    w_law_b2_6 T (lS sc0 t n a s5 s0 l s8 s9 s10 (.f (.int v)) (.f (.int q)) (.f (.str (nm8 v))) (.f (.int w)) s15 s16 s17 s18 s19 .u h) := by
  have hz : (1000000 : Nat) < sizeLine := by decide
  refine brT (decide_eq_true (p := (5 : Int) < (v : Int)) (by omega)) ?_
  change w_law_b2_7 T (lS sc0 t n a s5 s0 l s8 s9 s10 (.f (.int v)) (.f (.int q)) (.f (.str (nm8 v))) (.f (.int w)) (.f (.tup [.int q, .int w])) s16 s17 s18 s19 .u h)
  obtain ⟨g, e8⟩ : ∃ g : G2, nm8 v = g.nm := by
    have : v = 6 ∨ v = 7 := by omega
    rcases this with rfl | rfl
    · exact ⟨.CX, rfl⟩
    · exact ⟨.CZ, rfl⟩
  refine ⟨a, _, rfl, L.F.o, rfl, rfl, by show 2 ≤ 1000000; decide, ?_⟩
  refine brT rfl ⟨_, nmsD hq, rfl, ?_⟩
  refine brT rfl ⟨_, nmsD hw, rfl, ?_⟩
  refine ⟨a, d, n, X, Z, L.F, FI_bs L.I, .inr ⟨g, q, w, ?_, hq, hw, ne, ?_⟩⟩
  · rw [e8]
    rfl
  · change w_law_b2_8 T (lS sc0 t n a s5 s0 l s8 s9 s10 (.f (.int v)) (.f (.int q)) (.f (.str (nm8 v))) (.f (.int w)) (.f (.tup [.int q, .int w])) s16 s17 s18 s19 .u (toR h d n (fx2 g q w X Z) (fz2 g q w X Z)))
    refine ⟨by show (l.map Stp.d).length + 1 ≤ sizeLine; rw [List.length_map]; omega, ?_⟩
    have e : l.map Stp.d ++ [D.tup [.str (nm8 v), .tup [.int q, .int w]]] = (l ++ [Stp.two g q w]).map Stp.d := by
      rw [List.map_append, e8]
      rfl
    have z := k (l ++ [Stp.two g q w]) _ _ _ (.f (.tup [.int q, .int w])) (L.snoc (s := .two g q w) (FI_g2 L.I hq hw ne) ⟨hq, hw, ne⟩) (by rw [List.length_append]; rfl)
    unfold lS at z ⊢
    rw [← e] at z
    exact z
/-- one turn of the law -/
theorem b2_turn (hl : l.length < 14) (L : LI n t a d l X Z h)
    (k : ∀ l' X' Z' h' s11 s12 s13 s14 s15 s18, LI n t a d l' X' Z' h' → l'.length ≤ l.length + 1 → T.nx (lS sc0 t n a s5 s0 l' s8 s9 s10 s11 s12 s13 s14 s15 s16 s17 s18 s19 .u h'))
    (kc : ∀ l' X' Z' h' s11 s12 s13 s14 s15 s18, LI n t a d l' X' Z' h' → l'.length ≤ l.length + 1 → T.ct (lS sc0 t n a s5 s0 l' s8 s9 s10 s11 s12 s13 s14 s15 s16 s17 s18 s19 .u h')) :
    w_law_b2 T (lS sc0 t n a s5 s0 l s8 s9 s10 s11 s12 s13 s14 s15 s16 s17 s18 s19 .u h) := by
  have n3 := L.F.n3
  have n0 := L.n0
  refine drawN L.T (by decide) (by decide) fun v h1 hv hT1 bt1 => ?_
  have hv : v < 10 := by omega
  have L1 := L.but hT1 bt1
  change w_law_b2_1 T (lS sc0 t n a s5 s0 l s8 s9 s10 (.f (.int v)) s12 s13 s14 s15 s16 s17 s18 s19 .u h1)
  refine drawN (m := (n : Nat)) L1.T (by omega) (by omega) fun q h2 hq hT2 bt2 => ?_
  have hq : q < n := by omega
  have L2 := L1.but hT2 bt2
  change w_law_b2_2 T (lS sc0 t n a s5 s0 l s8 s9 s10 (.f (.int v)) (.f (.int q)) s13 s14 s15 s16 s17 s18 s19 .u h2)
  by_cases c : 7 < v
  · exact turn_step c hv L2 hl fun l' X' Z' h' p L' e => kc l' X' Z' h' _ _ _ _ _ p L' (by omega)
  · refine brF (decide_eq_false (p := (7 : Int) < (v : Int)) (by omega)) ?_
    refine ⟨_, nm8_at (show v < 8 by omega), ?_⟩
    change w_law_b2_4 T (lS sc0 t n a s5 s0 l s8 s9 s10 (.f (.int v)) (.f (.int q)) (.f (.str (nm8 v))) s14 s15 s16 s17 s18 s19 .u h2)
    refine ⟨(by omega : (0 : Int) < (n : Nat)), ?_⟩
    have e : ((q : Int) + 1) % (n : Nat) = (((q + 1) % n : Nat) : Int) := by exact_mod_cast rfl
    change w_law_b2_5 T (lS sc0 t n a s5 s0 l s8 s9 s10 (.f (.int v)) (.f (.int q)) (.f (.str (nm8 v))) (.f (.int (((q : Int) + 1) % (n : Nat)))) s15 s16 s17 s18 s19 .u h2)
    rw [e]
    by_cases c5 : 5 < v
    · refine brT (decide_eq_true (p := (5 : Int) < (v : Int)) (by omega)) ?_
      by_cases c1 : n = 1
      · refine brT (by show ((n : Int) == 1) = true; rw [c1]; rfl) ?_
        exact kc l X Z h2 _ _ _ _ _ _ L2 (by omega)
      · refine brF (by show ((n : Int) == 1) = false; have : ¬ (n : Int) = 1 := by omega
                       simpa using this) ?_
        have lt : (q + 1) % n < n := Nat.mod_lt _ n0
        have ne : q ≠ (q + 1) % n := by
          by_cases w : q + 1 < n
          · rw [Nat.mod_eq_of_lt w]; omega
          · have : q + 1 = n := by omega
            rw [this, Nat.mod_self]
            omega
        exact gate_two_step c5 (by omega) hq lt ne L2 hl fun l' X' Z' h' w15 L' e => k l' X' Z' h' _ _ _ _ w15 _ L' (by omega)
    · refine brF (decide_eq_false (p := (5 : Int) < (v : Int)) (by omega)) ?_
      refine brF rfl ?_
      exact gate_one_step (by omega) hq L2 hl fun l' X' Z' h' w15 L' e => k l' X' Z' h' _ _ _ _ w15 _ L' (by omega)
end
/-! ### the steps are run on the law's own state -/
def rS (sc0 : D) (t : Addr) (n : Nat) (a : Addr) (s5 : Sl) (s0 : List Nm) (l : List Stp) (s8 : Sl) (s : List Nm) (s10 s11 s12 s13 s14 s15 s16 s17 s18 s19 s20 : Sl) (h : Oh) : Sg :=
  lS sc0 t n a s5 s0 l s8 (.f (stD s)) s10 s11 s12 s13 s14 s15 s16 s17 s18 s19 s20 h
theorem b3_loop {T : We} {sc0 : D} {t a : Addr} {n : Nat} {s0 : List Nm} {l : List Stp} {h : Oh} {s5 s8 s10 s11 s12 s14 s15 s17 s18 s19 s20 : Sl} (h3 : n ≤ 3) :
    ∀ (ss : List Stp) (c K : Nat) (s : List Nm) (s13 s16 : Sl), (∀ x ∈ ss, x.Ok n) → St n c K s → c + K + 40 * ss.length ≤ 2000 →
      (∀ c' K' s' s13 s16, St n c' K' s' → c' + K' ≤ 2000 → vec s' = runS ss (vec s) → T.nx (rS sc0 t n a s5 s0 l s8 s' s10 s11 s12 s13 s14 s15 s16 s17 s18 s19 s20 h)) →
      wForL (gTp 2 (gsCons (gVar 13) (gsCons (gVar 16) gsNil))) w_law_b3 T (ss.map Stp.d) (rS sc0 t n a s5 s0 l s8 s s10 s11 s12 s13 s14 s15 s16 s17 s18 s19 s20 h)
  | [], c, K, s, s13, s16, _, st, hc, k => k c K s s13 s16 st (by simp only [List.length_nil] at hc; omega) rfl
  | x :: ss, c, K, s, s13, s16, ok, st, hc, k => by
    have hc : c + K + 40 * (ss.length + 1) ≤ 2000 := hc
    have okx := ok x List.mem_cons_self
    have oks : ∀ y ∈ ss, y.Ok n := fun y hy => ok y (List.mem_cons_of_mem _ hy)
    have go : ∀ (c' K' : Nat) (s' : List Nm) (s13 s16 : Sl), St n c' K' s' → c' + K' ≤ c + K + 40 → vec s' = x.op (vec s) →
        wForL (gTp 2 (gsCons (gVar 13) (gsCons (gVar 16) gsNil))) w_law_b3 T (ss.map Stp.d) (rS sc0 t n a s5 s0 l s8 s' s10 s11 s12 s13 s14 s15 s16 s17 s18 s19 s20 h) := fun c' K' s' s13 s16 st' hc' e =>
      b3_loop h3 ss c' K' s' s13 s16 oks st' (by omega) fun c2 K2 s2 s13 s16 st2 hc2 e2 => k c2 K2 s2 s13 s16 st2 hc2 (by rw [e2, e]; rfl)
    cases x with
    | turn p =>
      refine VL.forc ⟨rfl, ?_⟩
      show w_law_b3 _ (rS sc0 t n a s5 s0 l s8 s s10 s11 s12 (.f (.str "turn")) s14 s15 (.f p.e) s17 s18 s19 s20 h)
      unfold w_law_b3
      refine eqT (i := 13) (nm := "turn") (x := "turn") rfl rfl ?_
      exact ⟨n, c, K, s, p, rfl, st, by omega, by omega, okx, fun s' st' e => go _ _ s' _ _ st' (by omega) e⟩
    | flip p =>
      refine VL.forc ⟨rfl, ?_⟩
      show w_law_b3 _ (rS sc0 t n a s5 s0 l s8 s s10 s11 s12 (.f (.str "flip")) s14 s15 (.f p.e) s17 s18 s19 s20 h)
      unfold w_law_b3
      refine eqF (i := 13) (nm := "flip") (x := "turn") rfl rfl ?_
      refine eqT (i := 13) (nm := "flip") (x := "flip") rfl rfl ?_
      exact ⟨n, c, K, s, p, rfl, st, by omega, by omega, okx, fun s' st' e => go _ _ s' _ _ st' (by omega) e⟩
    | one g q =>
      refine VL.forc ⟨rfl, ?_⟩
      show w_law_b3 _ (rS sc0 t n a s5 s0 l s8 s s10 s11 s12 (.f (.str g.nm)) s14 s15 (.f (.tup [.int q])) s17 s18 s19 s20 h)
      unfold w_law_b3
      refine eqF (i := 13) (nm := g.nm) (x := "turn") rfl (by cases g <;> rfl) ?_
      refine eqF (i := 13) (nm := g.nm) (x := "flip") rfl (by cases g <;> rfl) ?_
      exact ⟨n, c, K, s, st, by omega, by omega, .inl ⟨g, q, rfl, okx.1, fun s' st' e => go _ _ s' _ _ st' (by omega) e⟩⟩
    | two g u w =>
      refine VL.forc ⟨rfl, ?_⟩
      show w_law_b3 _ (rS sc0 t n a s5 s0 l s8 s s10 s11 s12 (.f (.str g.nm)) s14 s15 (.f (.tup [.int u, .int w])) s17 s18 s19 s20 h)
      unfold w_law_b3
      refine eqF (i := 13) (nm := g.nm) (x := "turn") rfl (by cases g <;> rfl) ?_
      refine eqF (i := 13) (nm := g.nm) (x := "flip") rfl (by cases g <;> rfl) ?_
      exact ⟨n, c, K, s, st, by omega, by omega, .inr ⟨g, u, w, rfl, okx.1, okx.2.1, okx.2.2, fun s' st' e => go _ _ s' _ _ st' (by omega) e⟩⟩
end K36

set_option Elab.async false
set_option linter.all false
set_option maxRecDepth 100000
set_option maxHeartbeats 1000000
/-! P6_k36: the law -/
namespace K36
open PySem PySem.Spec PyProof.Rows L2 VL VL.P VL.N Q8
theorem state_in {R : D → Oh → Prop} {Y : XC} {h : Oh} {t : Addr} {n : Nat} (n0 : 0 < n) (n3 : n ≤ 3) (hT : Tp h t) (k : ∀ s h', St n 32 8 s → Tp h' t → But t h h' → R (stD s) h') : sp__law_state [.obj t, .int n] h R Y := by
  unfold sp__law_state
  exact ⟨t, n, rfl, n0, n3, hT, k⟩
theorem names_cut {n : Nat} (n0 : 0 < n) (n3 : n ≤ 3) : VL.cutD [D.str "a", D.str "b", D.str "c"] none (some (n : Int)) = (List.range n).map fun q => D.str (nmQ q) := by
  have c : n = 1 ∨ n = 2 ∨ n = 3 := by omega
  rcases c with rfl | rfl | rfl <;> rfl
theorem names_self {n : Nat} (n3 : n ≤ 3) : shD 8 (namesD n) = true ∧ (!eqD (namesD n) (namesD n)) = false := by
  have c : n = 0 ∨ n = 1 ∨ n = 2 ∨ n = 3 := by omega
  rcases c with rfl | rfl | rfl | rfl <;> exact ⟨by decide +kernel, by decide +kernel⟩
theorem eqN (x y : Nm) : eqD x.e y.e = decide (x = y) := by
  show (x.q.a == y.q.a && (x.q.b == y.q.b && (x.q.c == y.q.c && (x.q.d == y.q.d && (x.k == y.k && true))))) = decide (x = y)
  rw [Bool.eq_iff_iff]
  simp only [Bool.and_eq_true, beq_iff_eq, and_true, decide_eq_true_eq]
  constructor
  · rintro ⟨h1, h2, h3, h4, h5⟩
    obtain ⟨⟨a, b, c, d⟩, k⟩ := x
    obtain ⟨⟨a', b', c', d'⟩, k'⟩ := y
    simp only at h1 h2 h3 h4 h5
    subst h1 h2 h3 h4 h5
    rfl
  · rintro rfl
    exact ⟨rfl, rfl, rfl, rfl, rfl⟩
theorem shN (x : Nm) : shD 8 x.e = true := rfl
/-- the image's turns are even: else a Pauli would square to -1 -/
theorem im_even {n : Nat} {U : Vc → Vc} {X Z : Nat → Pa} (F : FI n U X Z) {x z : Nat} (hx : x < 2 ^ n) (hz : z < 2 ^ n) : ¬ (imN X Z x z n).2 % 2 = 1 := fun o => by
  have im := fun f => image_at F x z n (Nat.le_refl _) f
  rw [Nat.mod_eq_of_lt hx, Nat.mod_eq_of_lt hz] at im
  refine not_zero F.iso fun f => ?_
  have e1 : act ⟨x, z, 0⟩ (act ⟨x, z, 0⟩ (U f)) = U f := act_self _ _
  rw [im, im] at e1
  rw [← F.iso.hom]
  have e2 : wI (imN X Z x z n) (wI (imN X Z x z n) f) = sc (-1) f := by
    unfold wI
    rw [sc_act, act_self, sc_sc, ← ph_add]
    congr 1
    rw [← ph4]
    exact ph_congr (by omega)
  rw [← e2]
  exact e1.symm
theorem im_act {n : Nat} {U : Vc → Vc} {X Z : Nat → Pa} (F : FI n U X Z) {x z : Nat} (hx : x < 2 ^ n) (hz : z < 2 ^ n) (f : Vc) :
    act ⟨x, z, 0⟩ (U f) = U (act ⟨(imN X Z x z n).1.1, (imN X Z x z n).1.2, (imN X Z x z n).2 % 4 / 2⟩ f) := by
  have im := image_at F x z n (Nat.le_refl _) f
  rw [Nat.mod_eq_of_lt hx, Nat.mod_eq_of_lt hz] at im
  rw [im, act_one _ _ ((imN X Z x z n).2 % 4 / 2)]
  unfold wI
  have o := im_even F hx hz
  congr 2
  exact ph_congr (by omega)
section
variable {sc0 : D} {t a d : Addr} {n : Nat} {s0 : List Nm} {l : List Stp} {X Z : Nat → Pa} {h : Oh} {s5 s8 s11 s12 s13 s14 s15 s16 s18 s20 : Sl}
/-- one Pauli of the law's end -/
theorem b5_turn {T : We} {c0 K0 c K : Nat} {s : List Nm} {x z : Nat} {s19 : Sl} (L : LI n t a d l X Z h) (st0 : St n c0 K0 s0) (h0 : c0 + K0 ≤ 3000) (st : St n c K s) (hs : c + K ≤ 3000) (e : vec s = runS l (vec s0)) (hx : x < 2 ^ n) (hz : z < 2 ^ n)
    (k : ∀ s19, T.nx (rS sc0 t n a s5 s0 l s8 s (.f (.int x)) s11 s12 s13 s14 s15 s16 (.f (.int z)) s18 s19 s20 h)) :
    w_law_b5 T (rS sc0 t n a s5 s0 l s8 s (.f (.int x)) s11 s12 s13 s14 s15 s16 (.f (.int z)) s18 s19 s20 h) := by
  have n3 := L.F.n3
  refine ⟨a, d, n, X, Z, x, z, rfl, L.F, FI_bs L.I, hx, hz, ?_⟩
  have o := im_even L.I hx hz
  unfold imD
  rw [if_neg o]
  change w_law_b5_1 T (rS sc0 t n a s5 s0 l s8 s (.f (.int x)) s11 s12 s13 s14 s15 s16 (.f (.int z)) s18 (.f (Pa.e ⟨(imN X Z x z n).1.1, (imN X Z x z n).1.2, (imN X Z x z n).2 % 4 / 2⟩)) s20 h)
  obtain ⟨i1, i2⟩ := im_lt (FI_bs L.I) x z n (Nat.le_refl _)
  have pim : PB n ⟨(imN X Z x z n).1.1, (imN X Z x z n).1.2, (imN X Z x z n).2 % 4 / 2⟩ := ⟨i1, i2, by show (imN X Z x z n).2 % 4 / 2 < 2; omega⟩
  have pxz : PB n ⟨x, z, 0⟩ := ⟨hx, hz, by show 0 < 2; decide⟩
  refine brF rfl ?_
  refine ⟨n, c0, K0, s0, _, rfl, st0, by omega, h0, pim, fun v1 f1 k1 e1 => ?_⟩
  refine ⟨n, c, K, s, ⟨x, z, 0⟩, rfl, st, by omega, hs, pxz, fun v2 f2 k2 e2 => ?_⟩
  have same : v1 = v2 := val_inj f1 f2 k1 k2 (by
    rw [e1, e2, e]
    exact (ev_iso L.I.iso (im_act L.I hx hz (vec s0))).symm)
  refine ⟨shN _, shN _, brF ?_ (k _)⟩
  show (!eqD v1.e v2.e) = false
  rw [eqN, same, decide_eq_true rfl]
  rfl
end
theorem pk_law : Pk 1 20 sp_law w_law := by
  rintro ds h R _ ⟨ns, rfl, hl, hR⟩
  intro t ht
  have hT : Tp (h.put t (.ml [.lst (ns.map .int), .int 0, .int 0, .int 7])) t := ⟨ns, 0, 0, 7, Oh.put_same, hl, by decide, by decide, by decide, by decide⟩
  change w_law_1 (Fi R) ⟨[.f (.scr ns), .f (.obj t), .u, .u, .u, .u, .u, .u, .u, .u, .u, .u, .u, .u, .u, .u, .u, .u, .u, .u, .u], (h.put t (.ml [.lst (ns.map .int), .int 0, .int 0, .int 7]))⟩
  refine drawN hT (by decide) (by decide) fun v h1 hv hT1 bt1 => ?_
  obtain ⟨n, hn⟩ : ∃ n : Nat, n = v + 1 := ⟨_, rfl⟩
  have n0 : 0 < n := by omega
  have n3 : n ≤ 3 := by omega
  have en : (1 : Int) + (v : Nat) = ((n : Nat) : Int) := by omega
  change w_law_2 (Fi R) ⟨[.f (.scr ns), .f (.obj t), .f (.int (1 + (v : Nat))), .u, .u, .u, .u, .u, .u, .u, .u, .u, .u, .u, .u, .u, .u, .u, .u, .u, .u], h1⟩
  rw [en]
  change w_law_3 (Fi R) ⟨[.f (.scr ns), .f (.obj t), .f (.int n), .f (.lst (VL.cutD [D.str "a", D.str "b", D.str "c"] none (some (n : Int)))), .u, .u, .u, .u, .u, .u, .u, .u, .u, .u, .u, .u, .u, .u, .u, .u, .u], h1⟩
  rw [names_cut n0 n3]
  intro a ha
  have ha : h1 a = none := ha
  refine ⟨a, rfl, Oh.put_same, fun d h2 F2 keep => ⟨rfl, ?_⟩⟩
  have ta : t ≠ a := fun e => by
    obtain ⟨_, _, _, _, q, _⟩ := hT1
    rw [e, ha] at q
    cases q
  have hT2 : Tp h2 t ∧ t ≠ d := by
    obtain ⟨ns', i, r, s, q, q2⟩ := hT1
    have := keep t _ (by show (h1.put a _) t = _; rw [Oh.put_ne ta]; exact q) ta
    exact ⟨⟨ns', i, r, s, this.1, q2⟩, this.2⟩
  obtain ⟨hT2, td⟩ := hT2
  change w_law_4 (Fi R) ⟨[.f (.scr ns), .f (.obj t), .f (.int n), .f (namesD n), .f (.obj a), .u, .u, .u, .u, .u, .u, .u, .u, .u, .u, .u, .u, .u, .u, .u, .u], h2⟩
  refine ⟨⟨by omega, by omega⟩, ?_⟩
  rw [Int.toNat_natCast]
  refine rloop (N := n) (T := { Fi R with nx := w_law_5 (Fi R) }) (fun j S => ∃ h' s5, Tp h' t ∧ FrAt h' a d j xq zq1 ∧ S = ⟨[.f (.scr ns), .f (.obj t), .f (.int n), .f (namesD n), .f (.obj a), s5, .u, .u, .u, .u, .u, .u, .u, .u, .u, .u, .u, .u, .u, .u, .u], h'⟩) ?_ ?_ ⟨h2, .u, hT2, F2, rfl⟩
  · rintro j _ T' hj ⟨h', s5, hT', F', rfl⟩ hnx
    refine ⟨a, _, rfl, F'.o, rfl, _, nm_at hj, ?_⟩
    refine ⟨a, d, j, rfl, by omega, F', ?_⟩
    exact hnx _ ⟨_, _, Tp_to hT' td, F'.to (by omega) _ _, rfl⟩
  · rintro _ ⟨h3, s5, hT3, F3, rfl⟩
    refine state_in n0 n3 hT3 fun s0 h4 st0 hT4 bt4 => ?_
    have F4 := F3.but bt4 ta td
    change w_law_7 (Fi R) (lS (.scr ns) t n a s5 s0 [] .u .u .u .u .u .u .u .u .u .u .u .u .u h4)
    refine drawN hT4 (by decide) (by decide) fun m h5 hm hT5 bt5 => ?_
    have F5 := F4.but bt5 ta td
    refine ⟨⟨by omega, by omega⟩, ?_⟩
    rw [Int.toNat_natCast]
    refine rloopC (N := m) (T := { Fi R with nx := w_law_8 (Fi R) }) (fun j S => ∃ l X Z h' s8 s11 s12 s13 s14 s15 s18, LI n t a d l X Z h' ∧ l.length ≤ j ∧ S = lS (.scr ns) t n a s5 s0 l s8 .u .u s11 s12 s13 s14 s15 .u .u s18 .u .u h') ?_ ?_
      ⟨[], xq, zq1, h5, .u, .u, .u, .u, .u, .u, .u, ⟨hT5, F5, FI.start n, (fun s hs => by cases hs), ta, td, n0⟩, Nat.le_refl _, rfl⟩
    · rintro j _ T' hj ⟨l, X, Z, h', s8, s11, s12, s13, s14, s15, s18, L, hl, rfl⟩ hnx hct
      have hj : j < m := hj
      refine b2_turn (T := T') (s8 := .f (.int j)) (by omega) L (fun l' X' Z' h' s11 s12 s13 s14 s15 s18 L' e => hnx _ ⟨l', X', Z', h', _, s11, s12, s13, s14, s15, s18, L', by omega, rfl⟩)
        (fun l' X' Z' h' s11 s12 s13 s14 s15 s18 L' e => hct _ ⟨l', X', Z', h', _, s11, s12, s13, s14, s15, s18, L', by omega, rfl⟩)
    · rintro _ ⟨l, X, Z, h6, s8, s11, s12, s13, s14, s15, s18, L, hl, rfl⟩
      change w_law_9 (Fi R) (rS (.scr ns) t n a s5 s0 l s8 s0 .u s11 s12 s13 s14 s15 .u .u s18 .u .u h6)
      refine b3_loop (T := { Fi R with nx := w_law_10 (Fi R) }) n3 l 32 8 s0 s13 .u L.ok st0 (by omega) fun c' K' s' s13 s16 st' hc' e => ?_
      change w_law_10 (Fi R) (rS (.scr ns) t n a s5 s0 l s8 s' .u s11 s12 s13 s14 s15 s16 .u s18 .u .u h6)
      obtain ⟨sn1, sn2⟩ := names_self n3
      refine ⟨a, _, rfl, L.F.o, rfl, a, d, n, X, Z, rfl, L.F, sn1, sn1, ?_⟩
      refine brF sn2 ?_
      change w_law_11 (Fi R) (rS (.scr ns) t n a s5 s0 l s8 s' .u s11 s12 s13 s14 s15 s16 .u s18 .u .u h6)
      have r62 : (-(2 ^ 62) : Int) ≤ ((2 ^ n : Nat) : Int) ∧ ((2 ^ n : Nat) : Int) < 2 ^ 62 := by
        have p8 := pw2 n3
        generalize 2 ^ n = m at p8
        omega
      refine ⟨shl_one (by omega), ⟨by rw [shl_v]; exact r62.1, by rw [shl_v]; exact r62.2⟩, ?_⟩
      rw [shl_v, Int.toNat_natCast]
      refine rloop (N := 2 ^ n) (T := { Fi R with nx := w_law_12 (Fi R) }) (fun j S => ∃ s10 s17 s19, S = rS (.scr ns) t n a s5 s0 l s8 s' s10 s11 s12 s13 s14 s15 s16 s17 s18 s19 .u h6) ?_ ?_ ⟨_, _, _, rfl⟩
      · rintro x _ T' hx ⟨s10, s17, s19, rfl⟩ hnx
        refine ⟨shl_one (by omega), ⟨by rw [shl_v]; exact r62.1, by rw [shl_v]; exact r62.2⟩, ?_⟩
        rw [shl_v, Int.toNat_natCast]
        refine rloop (N := 2 ^ n) (T := T') (fun j S => ∃ s17 s19, S = rS (.scr ns) t n a s5 s0 l s8 s' (.f (.int x)) s11 s12 s13 s14 s15 s16 s17 s18 s19 .u h6) ?_ ?_ ⟨_, _, rfl⟩
        · rintro z _ T2 hz ⟨s17, s19, rfl⟩ hnx2
          exact b5_turn (T := T2) L st0 (by omega) st' (by omega) e hx hz fun s19 => hnx2 _ ⟨_, s19, rfl⟩
        · rintro _ ⟨s17, s19, rfl⟩
          exact hnx _ ⟨_, s17, s19, rfl⟩
      · rintro _ ⟨s10, s17, s19, rfl⟩
        exact hR h6
end K36

set_option Elab.async false
set_option linter.all false
set_option maxRecDepth 100000
set_option maxHeartbeats 4000000
namespace K36
open PySem PySem.Spec L2 VL
def topS (i : Nat) : Stmt := PySem.Challenge.pw_mendedgates_k36_frames_as_matrices.main.body.getD i (.Pass ⟨0, 0, 0, 0⟩)
abbrev s_ones_paulis : Stmt := topS 6
theorem sc_ones_paulis : FnScope ["mask", "count"] ["mask"] (defScope s_ones_paulis) := ⟨rfl, rfl, rfl, by decide +kernel, rfl, by decide +kernel, by decide +kernel⟩
abbrev s_commutes : Stmt := topS 8
theorem sc_commutes : FnScope ["one", "other"] ["one", "other"] (defScope s_commutes) := ⟨rfl, rfl, rfl, by decide +kernel, rfl, by decide +kernel, by decide +kernel⟩
abbrev s_product : Stmt := topS 9
theorem sc_product : FnScope ["one", "other", "x", "z", "turns"] ["one", "other"] (defScope s_product) := ⟨rfl, rfl, rfl, by decide +kernel, rfl, by decide +kernel, by decide +kernel⟩
abbrev s_single : Stmt := topS 10
theorem sc_single : FnScope ["name", "qubit", "kind"] ["name", "qubit"] (defScope s_single) := ⟨rfl, rfl, rfl, by decide +kernel, rfl, by decide +kernel, by decide +kernel⟩
abbrev s_turned : Stmt := topS 12
theorem sc_turned : FnScope ["pauli", "bit", "x", "z", "sign"] ["pauli", "bit"] (defScope s_turned) := ⟨rfl, rfl, rfl, by decide +kernel, rfl, by decide +kernel, by decide +kernel⟩
abbrev s_Frame___init__ : Stmt := inClass (topS 13) 0
theorem sc_Frame___init__ : FnScope ["self"] ["self"] (defScope s_Frame___init__) := ⟨rfl, rfl, rfl, by decide +kernel, rfl, by decide +kernel, by decide +kernel⟩
abbrev s_Frame_names : Stmt := inClass (topS 13) 1
theorem sc_Frame_names : FnScope ["self"] ["self"] (defScope s_Frame_names) := ⟨rfl, rfl, rfl, by decide +kernel, rfl, by decide +kernel, by decide +kernel⟩
abbrev s_Frame_add : Stmt := inClass (topS 13) 2
theorem sc_Frame_add : FnScope ["self", "name", "slot"] ["self", "name", "slot"] (defScope s_Frame_add) := ⟨rfl, rfl, rfl, by decide +kernel, rfl, by decide +kernel, by decide +kernel⟩
abbrev s_Frame_x : Stmt := inClass (topS 13) 4
theorem sc_Frame_x : FnScope ["self", "name"] ["self", "name"] (defScope s_Frame_x) := ⟨rfl, rfl, rfl, by decide +kernel, rfl, by decide +kernel, by decide +kernel⟩
abbrev s_Frame_z : Stmt := inClass (topS 13) 5
theorem sc_Frame_z : FnScope ["self", "name"] ["self", "name"] (defScope s_Frame_z) := ⟨rfl, rfl, rfl, by decide +kernel, rfl, by decide +kernel, by decide +kernel⟩
abbrev s_Frame_put : Stmt := inClass (topS 13) 6
theorem sc_Frame_put : FnScope ["self", "name", "x", "z"] ["self", "name", "x", "z"] (defScope s_Frame_put) := ⟨rfl, rfl, rfl, by decide +kernel, rfl, by decide +kernel, by decide +kernel⟩
abbrev s_Frame_gate : Stmt := inClass (topS 13) 7
theorem sc_Frame_gate : FnScope ["self", "name", "qubits", "first", "x", "z"] ["self", "name", "qubits"] (defScope s_Frame_gate) := ⟨rfl, rfl, rfl, by decide +kernel, rfl, by decide +kernel, by decide +kernel⟩
abbrev s_Frame_pair : Stmt := inClass (topS 13) 8
theorem sc_Frame_pair : FnScope ["self", "name", "first", "second", "x", "z", "other_x", "other_z"] ["self", "name", "first", "second"] (defScope s_Frame_pair) := ⟨rfl, rfl, rfl, by decide +kernel, rfl, by decide +kernel, by decide +kernel⟩
abbrev s_Frame_turn : Stmt := inClass (topS 13) 9
theorem sc_Frame_turn : FnScope ["self", "pauli", "name", "one"] ["self", "pauli"] (defScope s_Frame_turn) := ⟨rfl, rfl, rfl, by decide +kernel, rfl, by decide +kernel, by decide +kernel⟩
abbrev s_Frame_flip : Stmt := inClass (topS 13) 10
theorem sc_Frame_flip : FnScope ["self", "pauli", "name", "one"] ["self", "pauli"] (defScope s_Frame_flip) := ⟨rfl, rfl, rfl, by decide +kernel, rfl, by decide +kernel, by decide +kernel⟩
abbrev s_formed : Stmt := topS 19
theorem sc_formed : FnScope ["a", "b", "c", "d", "k"] ["a", "b", "c", "d", "k"] (defScope s_formed) := ⟨rfl, rfl, rfl, by decide +kernel, rfl, by decide +kernel, by decide +kernel⟩
abbrev s_raised : Stmt := topS 20
theorem sc_raised : FnScope ["x", "k", "a", "b", "c", "d", "own"] ["x", "k"] (defScope s_raised) := ⟨rfl, rfl, rfl, by decide +kernel, rfl, by decide +kernel, by decide +kernel⟩
abbrev s_plus : Stmt := topS 21
theorem sc_plus : FnScope ["x", "y", "k", "one", "other"] ["x", "y"] (defScope s_plus) := ⟨rfl, rfl, rfl, by decide +kernel, rfl, by decide +kernel, by decide +kernel⟩
abbrev s_negative : Stmt := topS 22
theorem sc_negative : FnScope ["x"] ["x"] (defScope s_negative) := ⟨rfl, rfl, rfl, by decide +kernel, rfl, by decide +kernel, by decide +kernel⟩
abbrev s_minus : Stmt := topS 23
theorem sc_minus : FnScope ["x", "y"] ["x", "y"] (defScope s_minus) := ⟨rfl, rfl, rfl, by decide +kernel, rfl, by decide +kernel, by decide +kernel⟩
abbrev s_times : Stmt := topS 24
theorem sc_times : FnScope ["x", "y", "a", "b", "c", "d", "k", "e", "f", "g", "h", "m"] ["x", "y"] (defScope s_times) := ⟨rfl, rfl, rfl, by decide +kernel, rfl, by decide +kernel, by decide +kernel⟩
abbrev s_conjugate : Stmt := topS 25
theorem sc_conjugate : FnScope ["x", "a", "b", "c", "d", "k"] ["x"] (defScope s_conjugate) := ⟨rfl, rfl, rfl, by decide +kernel, rfl, by decide +kernel, by decide +kernel⟩
abbrev s_root : Stmt := topS 26
theorem sc_root : FnScope ["n", "values"] ["n"] (defScope s_root) := ⟨rfl, rfl, rfl, by decide +kernel, rfl, by decide +kernel, by decide +kernel⟩
abbrev s_total : Stmt := topS 27
theorem sc_total : FnScope ["numbers", "result", "number"] ["numbers"] (defScope s_total) := ⟨rfl, rfl, rfl, by decide +kernel, rfl, by decide +kernel, by decide +kernel⟩
abbrev s_ones_states : Stmt := topS 31
theorem sc_ones_states : FnScope ["value", "count"] ["value"] (defScope s_ones_states) := ⟨rfl, rfl, rfl, by decide +kernel, rfl, by decide +kernel, by decide +kernel⟩
abbrev s_zeros : Stmt := topS 33
theorem sc_zeros : FnScope ["m"] ["m"] (defScope s_zeros) := ⟨rfl, rfl, rfl, by decide +kernel, rfl, by decide +kernel, by decide +kernel⟩
abbrev s_mixed : Stmt := topS 34
theorem sc_mixed : FnScope ["state", "bit", "result", "index", "low", "high"] ["state", "bit"] (defScope s_mixed) := ⟨rfl, rfl, rfl, by decide +kernel, rfl, by decide +kernel, by decide +kernel⟩
abbrev s_gate : Stmt := topS 35
theorem sc_gate : FnScope ["state", "name", "qubits", "bit", "every", "factor", "other", "index"] ["state", "name", "qubits"] (defScope s_gate) := ⟨rfl, rfl, rfl, by decide +kernel, rfl, by decide +kernel, by decide +kernel⟩
abbrev s_acted : Stmt := topS 36
theorem sc_acted : FnScope ["state", "pauli", "turns", "result", "index", "x", "z", "sign", "source", "odd"] ["state", "pauli"] (defScope s_acted) := ⟨rfl, rfl, rfl, by decide +kernel, rfl, by decide +kernel, by decide +kernel⟩
abbrev s_projected : Stmt := topS 37
theorem sc_projected : FnScope ["state", "pauli", "bit", "other", "joins", "k", "one"] ["state", "pauli", "bit"] (defScope s_projected) := ⟨rfl, rfl, rfl, by decide +kernel, rfl, by decide +kernel, by decide +kernel⟩
abbrev s_norm : Stmt := topS 38
theorem sc_norm : FnScope ["state", "one"] ["state"] (defScope s_norm) := ⟨rfl, rfl, rfl, by decide +kernel, rfl, by decide +kernel, by decide +kernel⟩
abbrev s_expected : Stmt := topS 39
theorem sc_expected : FnScope ["state", "pauli"] ["state", "pauli"] (defScope s_expected) := ⟨rfl, rfl, rfl, by decide +kernel, rfl, by decide +kernel, by decide +kernel⟩
abbrev s__law_next : Stmt := topS 41
theorem sc__law_next : FnScope ["tape", "many", "rest", "cell"] ["tape", "many"] (defScope s__law_next) := ⟨rfl, rfl, rfl, by decide +kernel, rfl, by decide +kernel, by decide +kernel⟩
abbrev s__law_matrix : Stmt := topS 42
theorem sc__law_matrix : FnScope ["name", "less", "turns", "one", "zero", "half"] ["name"] (defScope s__law_matrix) := ⟨rfl, rfl, rfl, by decide +kernel, rfl, by decide +kernel, by decide +kernel⟩
abbrev s__law_one : Stmt := topS 43
theorem sc__law_one : FnScope ["state", "matrix", "qubit", "found", "index", "bit", "other", "row"] ["state", "matrix", "qubit"] (defScope s__law_one) := ⟨rfl, rfl, rfl, by decide +kernel, rfl, by decide +kernel, by decide +kernel⟩
abbrev s__law_gate : Stmt := topS 44
theorem sc__law_gate : FnScope ["state", "name", "qubits", "turned_v", "k"] ["state", "name", "qubits"] (defScope s__law_gate) := ⟨rfl, rfl, rfl, by decide +kernel, rfl, by decide +kernel, by decide +kernel⟩
abbrev s__law_letter : Stmt := topS 45
theorem sc__law_letter : FnScope ["pauli", "qubit"] ["pauli", "qubit"] (defScope s__law_letter) := ⟨rfl, rfl, rfl, by decide +kernel, rfl, by decide +kernel, by decide +kernel⟩
abbrev s__law_acted : Stmt := topS 46
theorem sc__law_acted : FnScope ["state", "pauli", "many", "found", "qubit", "name", "one"] ["state", "pauli", "many"] (defScope s__law_acted) := ⟨rfl, rfl, rfl, by decide +kernel, rfl, by decide +kernel, by decide +kernel⟩
abbrev s__law_projected : Stmt := topS 48
theorem sc__law_projected : FnScope ["state", "pauli", "bit", "many", "other", "k"] ["state", "pauli", "bit", "many"] (defScope s__law_projected) := ⟨rfl, rfl, rfl, by decide +kernel, rfl, by decide +kernel, by decide +kernel⟩
abbrev s__law_turned : Stmt := topS 49
theorem sc__law_turned : FnScope ["state", "pauli", "many", "one", "other", "k"] ["state", "pauli", "many"] (defScope s__law_turned) := ⟨rfl, rfl, rfl, by decide +kernel, rfl, by decide +kernel, by decide +kernel⟩
abbrev s__law_times : Stmt := topS 50
theorem sc__law_times : FnScope ["one", "other", "turns", "qubit", "x", "z", "pair"] ["one", "other"] (defScope s__law_times) := ⟨rfl, rfl, rfl, by decide +kernel, rfl, by decide +kernel, by decide +kernel⟩
abbrev s__law_image : Stmt := topS 51
theorem sc__law_image : FnScope ["frame", "pauli", "names", "qubit", "turns", "found", "name", "parts", "part", "masks", "more"] ["frame", "pauli", "names"] (defScope s__law_image) := ⟨rfl, rfl, rfl, by decide +kernel, rfl, by decide +kernel, by decide +kernel⟩
abbrev s__law_state : Stmt := topS 52
theorem sc__law_state : FnScope ["tape", "many", "state", "turn", "first", "kind"] ["tape", "many"] (defScope s__law_state) := ⟨rfl, rfl, rfl, by decide +kernel, rfl, by decide +kernel, by decide +kernel⟩
abbrev s_law : Stmt := topS 53
theorem sc_law : FnScope ["script", "tape", "many", "names", "frame", "slot", "stored", "steps", "turn", "state", "x", "kind", "first", "name", "second", "places", "what", "z", "pauli", "image", "one"] ["script"] (defScope s_law) := ⟨rfl, rfl, rfl, by decide +kernel, rfl, by decide +kernel, by decide +kernel⟩
/-- what the top has written -/
structure Txt (K : PySem.W.Frag) (w : World) (mg : Str → Option Value) (A : Nat → Addr) (B : Nat → FuncData) : Prop where
  z_len : mg "len" = none
  z_abs : mg "abs" = none
  z_max : mg "max" = none
  z_int : mg "int" = none
  z_tuple : mg "tuple" = none
  z_list : mg "list" = none
  z_range : mg "range" = none
  c_NAMES : Cst K mg "NAMES" k_NAMES
  c_ZERO : Cst K mg "ZERO" k_ZERO
  c_ONE : Cst K mg "ONE" k_ONE
  c_HALF : Cst K mg "HALF" k_HALF
  c_ROOT : Cst K mg "ROOT" k_ROOT
  c_PAIRS : Cst K mg "PAIRS" k_PAIRS
  c_FACTORS : CTab K w mg "FACTORS" k_FACTORS
  x_NotValid : ExcT K mg "NotValid"
  k_Frame : ClsT K "Frame"
  n_Frame_rows : NoF K "Frame" "rows"
  d_ones_paulis : DefAs K mg "ones_paulis" "ones" s_ones_paulis ["mask"] (A 0) (B 0)
  d_commutes : DefAt K mg "commutes" s_commutes ["one", "other"] (A 1) (B 1)
  d_product : DefAt K mg "product" s_product ["one", "other"] (A 2) (B 2)
  d_single : DefAt K mg "single" s_single ["name", "qubit"] (A 3) (B 3)
  d_turned : DefAt K mg "turned" s_turned ["pauli", "bit"] (A 4) (B 4)
  d_Frame___init__ : InitAt K mg "Frame" "Frame.__init__" s_Frame___init__ ["self"] (A 5) (B 5)
  d_Frame_names : MethAt K "Frame" "names" "Frame.names" s_Frame_names ["self"] (A 6) (B 6)
  d_Frame_add : MethAt K "Frame" "add" "Frame.add" s_Frame_add ["self", "name", "slot"] (A 7) (B 7)
  d_Frame_x : MethAt K "Frame" "x" "Frame.x" s_Frame_x ["self", "name"] (A 8) (B 8)
  d_Frame_z : MethAt K "Frame" "z" "Frame.z" s_Frame_z ["self", "name"] (A 9) (B 9)
  d_Frame_put : MethAt K "Frame" "put" "Frame.put" s_Frame_put ["self", "name", "x", "z"] (A 10) (B 10)
  d_Frame_gate : MethAt K "Frame" "gate" "Frame.gate" s_Frame_gate ["self", "name", "qubits"] (A 11) (B 11)
  d_Frame_pair : MethAt K "Frame" "pair" "Frame.pair" s_Frame_pair ["self", "name", "first", "second"] (A 12) (B 12)
  d_Frame_turn : MethAt K "Frame" "turn" "Frame.turn" s_Frame_turn ["self", "pauli"] (A 13) (B 13)
  d_Frame_flip : MethAt K "Frame" "flip" "Frame.flip" s_Frame_flip ["self", "pauli"] (A 14) (B 14)
  d_formed : DefAt K mg "formed" s_formed ["a", "b", "c", "d", "k"] (A 15) (B 15)
  d_raised : DefAt K mg "raised" s_raised ["x", "k"] (A 16) (B 16)
  d_plus : DefAt K mg "plus" s_plus ["x", "y"] (A 17) (B 17)
  d_negative : DefAt K mg "negative" s_negative ["x"] (A 18) (B 18)
  d_minus : DefAt K mg "minus" s_minus ["x", "y"] (A 19) (B 19)
  d_times : DefAt K mg "times" s_times ["x", "y"] (A 20) (B 20)
  d_conjugate : DefAt K mg "conjugate" s_conjugate ["x"] (A 21) (B 21)
  d_root : DefAt K mg "root" s_root ["n"] (A 22) (B 22)
  d_total : DefAt K mg "total" s_total ["numbers"] (A 23) (B 23)
  d_ones_states : DefAs K mg "ones_states" "ones" s_ones_states ["value"] (A 24) (B 24)
  d_zeros : DefAt K mg "zeros" s_zeros ["m"] (A 25) (B 25)
  d_mixed : DefAt K mg "mixed" s_mixed ["state", "bit"] (A 26) (B 26)
  d_gate : DefAt K mg "gate" s_gate ["state", "name", "qubits"] (A 27) (B 27)
  d_acted : DefAt K mg "acted" s_acted ["state", "pauli"] (A 28) (B 28)
  d_projected : DefAt K mg "projected" s_projected ["state", "pauli", "bit"] (A 29) (B 29)
  d_norm : DefAt K mg "norm" s_norm ["state"] (A 30) (B 30)
  d_expected : DefAt K mg "expected" s_expected ["state", "pauli"] (A 31) (B 31)
  d__law_next : DefAt K mg "_law_next" s__law_next ["tape", "many"] (A 32) (B 32)
  d__law_matrix : DefAt K mg "_law_matrix" s__law_matrix ["name"] (A 33) (B 33)
  d__law_one : DefAt K mg "_law_one" s__law_one ["state", "matrix", "qubit"] (A 34) (B 34)
  d__law_gate : DefAt K mg "_law_gate" s__law_gate ["state", "name", "qubits"] (A 35) (B 35)
  d__law_letter : DefAt K mg "_law_letter" s__law_letter ["pauli", "qubit"] (A 36) (B 36)
  d__law_acted : DefAt K mg "_law_acted" s__law_acted ["state", "pauli", "many"] (A 37) (B 37)
  d__law_projected : DefAt K mg "_law_projected" s__law_projected ["state", "pauli", "bit", "many"] (A 38) (B 38)
  d__law_turned : DefAt K mg "_law_turned" s__law_turned ["state", "pauli", "many"] (A 39) (B 39)
  d__law_times : DefAt K mg "_law_times" s__law_times ["one", "other"] (A 40) (B 40)
  d__law_image : DefAt K mg "_law_image" s__law_image ["frame", "pauli", "names"] (A 41) (B 41)
  d__law_state : DefAt K mg "_law_state" s__law_state ["tape", "many"] (A 42) (B 42)
  d_law : DefAt K mg "law" s_law ["script"] (A 43) (B 43)
section
variable {P : Program} {w : World} {K : PySem.W.Frag} {mg : Str → Option Value} {base : Heap} {A : Nat → Addr} {B : Nat → FuncData}
theorem ok_ones_paulis (T : Txt K w mg A B) : FnOk P w K mg base CX0 1 (A 0) (B 0) ["mask"] (spOf K 1 sp_ones_paulis) := by
  refine fn_ok (ws := w_ones_paulis) T.d_ones_paulis.fn sc_ones_paulis rfl (fun cdv A outer s H E hr => ?_) pk_ones_paulis
  exact (dss_cons (ds_set 1 de_int (fun _ he => ps_set (i := 1) sc_ones_paulis.nd rfl (by first | exact .inl rfl | exact .inr rfl) he))
      (dss_cons (ds_while PassesOwn.never (dt_tru (de_var 0 (pv 0))) (dss_cons (ds_aug 0 iv_and (de_op ov_sub (de_var 0 (pv 0)) de_int) (fun _ _ he hp => ps_aug (i := 0) sc_ones_paulis.nd rfl (by first | exact .inl rfl | exact .inr rfl) he hp))
      (dss_one (ds_aug 1 iv_add de_int (fun _ _ he hp => ps_aug (i := 1) sc_ones_paulis.nd rfl (by first | exact .inl rfl | exact .inr rfl) he hp)))))
      (dss_one (ds_ret (de_var 1 (pv 1))))))
theorem ok_single (T : Txt K w mg A B) : FnOk P w K mg base CX0 1 (A 3) (B 3) ["name", "qubit"] (spOf K 2 sp_single) := by
  refine fn_ok (ws := w_single) T.d_single.fn sc_single rfl (fun cdv A outer s H E hr => ?_) pk_single
  exact (dss_cons (ds_set 2 (de_index (T.c_NAMES.de rfl) (de_var 0 (pv 0))) (fun _ he => ps_set (i := 2) sc_single.nd rfl (by first | exact .inl rfl | exact .inr rfl) he))
      (dss_one (ds_ret (de_tup (da_cons (de_op ov_shl (de_op ov_and (de_var 2 (pv 2)) de_int) (de_var 1 (pv 1))) (da_cons (de_op ov_shl (de_op ov_shr (de_var 2 (pv 2)) de_int) (de_var 1 (pv 1))) (da_cons de_int da_nil)))))))
theorem ok_turned (T : Txt K w mg A B) : FnOk P w K mg base CX0 1 (A 4) (B 4) ["pauli", "bit"] (spOf K 2 sp_turned) := by
  refine fn_ok (ws := w_turned) T.d_turned.fn sc_turned rfl (fun cdv A outer s H E hr => ?_) pk_turned
  exact (dss_cons (ds_asg (de_var 0 (pv 0)) (dg_tup rfl (dgs_cons (dg_var 2 (pg_name (i := 2) sc_turned.nd rfl (by first | exact .inl rfl | exact .inr rfl))) (dgs_cons (dg_var 3 (pg_name (i := 3) sc_turned.nd rfl (by first | exact .inl rfl | exact .inr rfl))) (dgs_cons (dg_var 4 (pg_name (i := 4) sc_turned.nd rfl (by first | exact .inl rfl | exact .inr rfl))) dgs_nil)))))
      (dss_one (ds_ret (de_tup (da_cons (de_var 2 (pv 2)) (da_cons (de_var 3 (pv 3)) (da_cons (de_op ov_xor (de_var 4 (pv 4)) (de_var 1 (pv 1))) da_nil)))))))
theorem ok_Frame___init__ (T : Txt K w mg A B) : FnOk P w K mg base CX0 1 (A 5) (B 5) ["self"] (spOf K 1 sp_Frame___init__) := by
  refine fn_ok (ws := w_Frame___init__) T.d_Frame___init__.fn sc_Frame___init__ rfl (fun cdv A outer s H E hr => ?_) pk_Frame___init__
  exact (dss_one (ds_fldM (de_var 0 (pv 0)) dn_dnew T.k_Frame T.n_Frame_rows))
theorem ok_Frame_names (T : Txt K w mg A B) : FnOk P w K mg base CX0 1 (A 6) (B 6) ["self"] (spOf K 1 sp_Frame_names) := by
  refine fn_ok (ws := w_Frame_names) T.d_Frame_names.fn sc_Frame_names rfl (fun cdv A outer s H E hr => ?_) pk_Frame_names
  exact (dss_one (ds_ret (de_new (dn_keys rfl (de_fld (de_var 0 (pv 0)) T.k_Frame T.n_Frame_rows) (by rfl) T.z_list))))
theorem ok_Frame_x (T : Txt K w mg A B) : FnOk P w K mg base CX0 1 (A 8) (B 8) ["self", "name"] (spOf K 2 sp_Frame_x) := by
  refine fn_ok (ws := w_Frame_x) T.d_Frame_x.fn sc_Frame_x rfl (fun cdv A outer s H E hr => ?_) pk_Frame_x
  exact (dss_one (ds_ret (de_ix (de_dget hr.units (de_fld (de_var 0 (pv 0)) T.k_Frame T.n_Frame_rows) (de_var 1 (pv 1)) (fun _ _ => rfl)) de_int (fun _ _ => rfl))))
theorem ok_Frame_z (T : Txt K w mg A B) : FnOk P w K mg base CX0 1 (A 9) (B 9) ["self", "name"] (spOf K 2 sp_Frame_z) := by
  refine fn_ok (ws := w_Frame_z) T.d_Frame_z.fn sc_Frame_z rfl (fun cdv A outer s H E hr => ?_) pk_Frame_z
  exact (dss_one (ds_ret (de_ix (de_dget hr.units (de_fld (de_var 0 (pv 0)) T.k_Frame T.n_Frame_rows) (de_var 1 (pv 1)) (fun _ _ => rfl)) de_int (fun _ _ => rfl))))
theorem ok_Frame_put (T : Txt K w mg A B) : FnOk P w K mg base CX0 1 (A 10) (B 10) ["self", "name", "x", "z"] (spOf K 4 sp_Frame_put) := by
  refine fn_ok (ws := w_Frame_put) T.d_Frame_put.fn sc_Frame_put rfl (fun cdv A outer s H E hr => ?_) pk_Frame_put
  exact (dss_one (ds_dput hr.units (de_fld (de_var 0 (pv 0)) T.k_Frame T.n_Frame_rows) (de_var 1 (pv 1)) (de_new (dn_lst (da_cons (de_var 2 (pv 2)) (da_cons (de_var 3 (pv 3)) da_nil))))))
theorem ok_formed (T : Txt K w mg A B) : FnOk P w K mg base CX0 1 (A 15) (B 15) ["a", "b", "c", "d", "k"] (spOf K 5 sp_formed) := by
  refine fn_ok (ws := w_formed) T.d_formed.fn sc_formed rfl (fun cdv A outer s H E hr => ?_) pk_formed
  exact (dss_cons (ds_if (DW.pt (dw_and (dt_cmp (ov_eq hr.units) (de_var 0 (pv 0)) de_int (nomark _)) (dw_and (dt_cmp (ov_eq hr.units) (de_var 1 (pv 1)) de_int (nomark _)) (dw_and (dt_cmp (ov_eq hr.units) (de_var 2 (pv 2)) de_int (nomark _)) (dw_and1 (dt_cmp (ov_eq hr.units) (de_var 3 (pv 3)) de_int (nomark _))))))) (dss_one (ds_ret (T.c_ZERO.de rfl))) dss_nil)
      (dss_cons (ds_while PassesOwn.never (dt_cmp ov_lt (de_var 4 (pv 4)) de_int (nomark _)) (dss_one (ds_asg (de_tup (da_cons (de_op ov_sub (de_var 1 (pv 1)) (de_var 3 (pv 3))) (da_cons (de_op ov_add (de_var 0 (pv 0)) (de_var 2 (pv 2))) (da_cons (de_op ov_add (de_var 1 (pv 1)) (de_var 3 (pv 3))) (da_cons (de_op ov_sub (de_var 2 (pv 2)) (de_var 0 (pv 0))) (da_cons (de_op ov_add (de_var 4 (pv 4)) de_int) da_nil)))))) (dg_tup rfl (dgs_cons (dg_var 0 (pg_name (i := 0) sc_formed.nd rfl (by first | exact .inl rfl | exact .inr rfl))) (dgs_cons (dg_var 1 (pg_name (i := 1) sc_formed.nd rfl (by first | exact .inl rfl | exact .inr rfl))) (dgs_cons (dg_var 2 (pg_name (i := 2) sc_formed.nd rfl (by first | exact .inl rfl | exact .inr rfl))) (dgs_cons (dg_var 3 (pg_name (i := 3) sc_formed.nd rfl (by first | exact .inl rfl | exact .inr rfl))) (dgs_cons (dg_var 4 (pg_name (i := 4) sc_formed.nd rfl (by first | exact .inl rfl | exact .inr rfl))) dgs_nil)))))))))
      (dss_cons (ds_while PassesOwn.never (DW.pt (dw_and (dt_cmp ov_gt (de_var 4 (pv 4)) de_int (nomark _)) (dw_and (dt_cmp (ov_eq hr.units) (de_op ov_and (de_op ov_sub (de_var 1 (pv 1)) (de_var 3 (pv 3))) de_int) de_int (nomark _)) (dw_and1 (dt_cmp (ov_eq hr.units) (de_op ov_and (de_op ov_add (de_var 0 (pv 0)) (de_var 2 (pv 2))) de_int) de_int (nomark _)))))) (dss_one (ds_asg (de_tup (da_cons (de_op ov_div (de_op ov_sub (de_var 1 (pv 1)) (de_var 3 (pv 3))) de_int) (da_cons (de_op ov_div (de_op ov_add (de_var 0 (pv 0)) (de_var 2 (pv 2))) de_int) (da_cons (de_op ov_div (de_op ov_add (de_var 1 (pv 1)) (de_var 3 (pv 3))) de_int) (da_cons (de_op ov_div (de_op ov_sub (de_var 2 (pv 2)) (de_var 0 (pv 0))) de_int) (da_cons (de_op ov_sub (de_var 4 (pv 4)) de_int) da_nil)))))) (dg_tup rfl (dgs_cons (dg_var 0 (pg_name (i := 0) sc_formed.nd rfl (by first | exact .inl rfl | exact .inr rfl))) (dgs_cons (dg_var 1 (pg_name (i := 1) sc_formed.nd rfl (by first | exact .inl rfl | exact .inr rfl))) (dgs_cons (dg_var 2 (pg_name (i := 2) sc_formed.nd rfl (by first | exact .inl rfl | exact .inr rfl))) (dgs_cons (dg_var 3 (pg_name (i := 3) sc_formed.nd rfl (by first | exact .inl rfl | exact .inr rfl))) (dgs_cons (dg_var 4 (pg_name (i := 4) sc_formed.nd rfl (by first | exact .inl rfl | exact .inr rfl))) dgs_nil)))))))))
      (dss_one (ds_ret (de_tup (da_cons (de_var 0 (pv 0)) (da_cons (de_var 1 (pv 1)) (da_cons (de_var 2 (pv 2)) (da_cons (de_var 3 (pv 3)) (da_cons (de_var 4 (pv 4)) da_nil)))))))))))
theorem ok_raised (T : Txt K w mg A B) : FnOk P w K mg base CX0 1 (A 16) (B 16) ["x", "k"] (spOf K 2 sp_raised) := by
  refine fn_ok (ws := w_raised) T.d_raised.fn sc_raised rfl (fun cdv A outer s H E hr => ?_) pk_raised
  exact (dss_cons (ds_asg (de_var 0 (pv 0)) (dg_tup rfl (dgs_cons (dg_var 2 (pg_name (i := 2) sc_raised.nd rfl (by first | exact .inl rfl | exact .inr rfl))) (dgs_cons (dg_var 3 (pg_name (i := 3) sc_raised.nd rfl (by first | exact .inl rfl | exact .inr rfl))) (dgs_cons (dg_var 4 (pg_name (i := 4) sc_raised.nd rfl (by first | exact .inl rfl | exact .inr rfl))) (dgs_cons (dg_var 5 (pg_name (i := 5) sc_raised.nd rfl (by first | exact .inl rfl | exact .inr rfl))) (dgs_cons (dg_var 6 (pg_name (i := 6) sc_raised.nd rfl (by first | exact .inl rfl | exact .inr rfl))) dgs_nil)))))))
      (dss_cons (ds_while PassesOwn.never (dt_cmp ov_lt (de_var 6 (pv 6)) (de_var 1 (pv 1)) (nomark _)) (dss_one (ds_asg (de_tup (da_cons (de_op ov_sub (de_var 3 (pv 3)) (de_var 5 (pv 5))) (da_cons (de_op ov_add (de_var 2 (pv 2)) (de_var 4 (pv 4))) (da_cons (de_op ov_add (de_var 3 (pv 3)) (de_var 5 (pv 5))) (da_cons (de_op ov_sub (de_var 4 (pv 4)) (de_var 2 (pv 2))) (da_cons (de_op ov_add (de_var 6 (pv 6)) de_int) da_nil)))))) (dg_tup rfl (dgs_cons (dg_var 2 (pg_name (i := 2) sc_raised.nd rfl (by first | exact .inl rfl | exact .inr rfl))) (dgs_cons (dg_var 3 (pg_name (i := 3) sc_raised.nd rfl (by first | exact .inl rfl | exact .inr rfl))) (dgs_cons (dg_var 4 (pg_name (i := 4) sc_raised.nd rfl (by first | exact .inl rfl | exact .inr rfl))) (dgs_cons (dg_var 5 (pg_name (i := 5) sc_raised.nd rfl (by first | exact .inl rfl | exact .inr rfl))) (dgs_cons (dg_var 6 (pg_name (i := 6) sc_raised.nd rfl (by first | exact .inl rfl | exact .inr rfl))) dgs_nil)))))))))
      (dss_one (ds_ret (de_tup (da_cons (de_var 2 (pv 2)) (da_cons (de_var 3 (pv 3)) (da_cons (de_var 4 (pv 4)) (da_cons (de_var 5 (pv 5)) da_nil)))))))))
theorem ok_negative (T : Txt K w mg A B) : FnOk P w K mg base CX0 1 (A 18) (B 18) ["x"] (spOf K 1 sp_negative) := by
  refine fn_ok (ws := w_negative) T.d_negative.fn sc_negative rfl (fun cdv A outer s H E hr => ?_) pk_negative
  exact (dss_one (ds_ret (de_tup (da_cons (de_un uv_neg (de_ix (de_var 0 (pv 0)) de_int (fun _ _ => rfl))) (da_cons (de_un uv_neg (de_ix (de_var 0 (pv 0)) de_int (fun _ _ => rfl))) (da_cons (de_un uv_neg (de_ix (de_var 0 (pv 0)) de_int (fun _ _ => rfl))) (da_cons (de_un uv_neg (de_ix (de_var 0 (pv 0)) de_int (fun _ _ => rfl))) (da_cons (de_ix (de_var 0 (pv 0)) de_int (fun _ _ => rfl)) da_nil))))))))
theorem ok_conjugate (T : Txt K w mg A B) : FnOk P w K mg base CX0 1 (A 21) (B 21) ["x"] (spOf K 1 sp_conjugate) := by
  refine fn_ok (ws := w_conjugate) T.d_conjugate.fn sc_conjugate rfl (fun cdv A outer s H E hr => ?_) pk_conjugate
  exact (dss_cons (ds_asg (de_var 0 (pv 0)) (dg_tup rfl (dgs_cons (dg_var 1 (pg_name (i := 1) sc_conjugate.nd rfl (by first | exact .inl rfl | exact .inr rfl))) (dgs_cons (dg_var 2 (pg_name (i := 2) sc_conjugate.nd rfl (by first | exact .inl rfl | exact .inr rfl))) (dgs_cons (dg_var 3 (pg_name (i := 3) sc_conjugate.nd rfl (by first | exact .inl rfl | exact .inr rfl))) (dgs_cons (dg_var 4 (pg_name (i := 4) sc_conjugate.nd rfl (by first | exact .inl rfl | exact .inr rfl))) (dgs_cons (dg_var 5 (pg_name (i := 5) sc_conjugate.nd rfl (by first | exact .inl rfl | exact .inr rfl))) dgs_nil)))))))
      (dss_one (ds_ret (de_tup (da_cons (de_var 1 (pv 1)) (da_cons (de_un uv_neg (de_var 4 (pv 4))) (da_cons (de_un uv_neg (de_var 3 (pv 3))) (da_cons (de_un uv_neg (de_var 2 (pv 2))) (da_cons (de_var 5 (pv 5)) da_nil)))))))))
theorem ok_root (T : Txt K w mg A B) : FnOk P w K mg base CX0 1 (A 22) (B 22) ["n"] (spOf K 1 sp_root) := by
  refine fn_ok (ws := w_root) T.d_root.fn sc_root rfl (fun cdv A outer s H E hr => ?_) pk_root
  exact (dss_cons (ds_setO 1 (dn_lst (da_cons de_int (da_cons de_int (da_cons de_int (da_cons de_int da_nil))))) (fun _ he => ps_set (i := 1) sc_root.nd rfl (by first | exact .inl rfl | exact .inr rfl) he))
      (dss_cons (ds_asg (de_if (dt_cmp (ov_eq hr.units) (de_op ov_and (de_var 0 (pv 0)) de_int) de_int (nomark _)) de_int (de_un uv_neg de_int)) (dg_ixO 1 (pv 1) (de_op ov_and (de_var 0 (pv 0)) de_int)))
      (dss_one (ds_ret (de_tup (da_cons (de_ixO 1 (pv 1) de_int (fun _ _ => rfl)) (da_cons (de_ixO 1 (pv 1) de_int (fun _ _ => rfl)) (da_cons (de_ixO 1 (pv 1) de_int (fun _ _ => rfl)) (da_cons (de_ixO 1 (pv 1) de_int (fun _ _ => rfl)) (da_cons de_int da_nil))))))))))
theorem ok_ones_states (T : Txt K w mg A B) : FnOk P w K mg base CX0 1 (A 24) (B 24) ["value"] (spOf K 1 sp_ones_states) := by
  refine fn_ok (ws := w_ones_states) T.d_ones_states.fn sc_ones_states rfl (fun cdv A outer s H E hr => ?_) pk_ones_states
  exact (dss_cons (ds_set 1 de_int (fun _ he => ps_set (i := 1) sc_ones_states.nd rfl (by first | exact .inl rfl | exact .inr rfl) he))
      (dss_cons (ds_while PassesOwn.never (dt_cmp ov_gt (de_var 0 (pv 0)) de_int (nomark _)) (dss_cons (ds_aug 0 iv_and (de_op ov_sub (de_var 0 (pv 0)) de_int) (fun _ _ he hp => ps_aug (i := 0) sc_ones_states.nd rfl (by first | exact .inl rfl | exact .inr rfl) he hp))
      (dss_one (ds_aug 1 iv_add de_int (fun _ _ he hp => ps_aug (i := 1) sc_ones_states.nd rfl (by first | exact .inl rfl | exact .inr rfl) he hp)))))
      (dss_one (ds_ret (de_var 1 (pv 1))))))
theorem ok_zeros (T : Txt K w mg A B) : FnOk P w K mg base CX0 1 (A 25) (B 25) ["m"] (spOf K 1 sp_zeros) := by
  refine fn_ok (ws := w_zeros) T.d_zeros.fn sc_zeros rfl (fun cdv A outer s H E hr => ?_) pk_zeros
  exact (dss_one (ds_ret (de_op ov_add (de_new (dn_lst (da_cons (T.c_ONE.de rfl) da_nil))) (de_new (dn_op on_rep (de_new (dn_lst (da_cons (T.c_ZERO.de rfl) da_nil))) (de_op ov_sub (de_op ov_shl de_int (de_var 0 (pv 0))) de_int))))))
theorem ok__law_next (T : Txt K w mg A B) : FnOk P w K mg base CX0 1 (A 32) (B 32) ["tape", "many"] (spOf K 2 sp__law_next) := by
  refine fn_ok (ws := w__law_next) T.d__law_next.fn sc__law_next rfl (fun cdv A outer s H E hr => ?_) pk__law_next
  exact (dss_cons (ds_set 2 (de_ix (de_var 0 (pv 0)) de_int (fun _ _ => rfl)) (fun _ he => ps_set (i := 2) sc__law_next.nd rfl (by first | exact .inl rfl | exact .inr rfl) he))
      (dss_cons (ds_if (dt_cmp ov_gt (de_var 2 (pv 2)) de_int (nomark _)) (dss_cons (ds_asg (de_op ov_div (de_var 2 (pv 2)) (de_var 1 (pv 1))) (dg_ixM (de_var 0 (pv 0)) de_int))
      (dss_one (ds_ret (de_op ov_mod (de_cty cv_int (by rfl) T.z_int (by decide +kernel) (da_cons (de_var 2 (pv 2)) da_nil)) (de_var 1 (pv 1)))))) dss_nil)
      (dss_cons (ds_set 3 de_int (fun _ he => ps_set (i := 3) sc__law_next.nd rfl (by first | exact .inl rfl | exact .inr rfl) he))
      (dss_cons (ds_if (dt_cmp ov_lt (de_ix (de_var 0 (pv 0)) de_int (fun _ _ => rfl)) (de_cb cv_len (by rfl) T.z_len (by decide +kernel) (da_cons (de_ix (de_var 0 (pv 0)) de_int (fun _ _ => rfl)) da_nil)) (nomark _)) (dss_cons (ds_set 3 (de_cb cv_abs (by rfl) T.z_abs (by decide +kernel) (da_cons (de_ix (de_ix (de_var 0 (pv 0)) de_int (fun _ _ => rfl)) (de_ix (de_var 0 (pv 0)) de_int (fun _ _ => rfl)) (fun _ _ => rfl)) da_nil)) (fun _ he => ps_set (i := 3) sc__law_next.nd rfl (by first | exact .inl rfl | exact .inr rfl) he))
      (dss_one (ds_augM iv_add (de_var 0 (pv 0)) de_int de_int))) dss_nil)
      (dss_cons (ds_if (dt_cmp ov_ge (de_var 3 (pv 3)) (de_op ov_pow de_int de_int) (nomark _)) (dss_cons (ds_asg (de_op ov_div (de_var 3 (pv 3)) (de_var 1 (pv 1))) (dg_ixM (de_var 0 (pv 0)) de_int))
      (dss_one (ds_ret (de_op ov_mod (de_cty cv_int (by rfl) T.z_int (by decide +kernel) (da_cons (de_var 3 (pv 3)) da_nil)) (de_var 1 (pv 1)))))) dss_nil)
      (dss_cons (ds_asg (de_op ov_mod (de_cty cv_int (by rfl) T.z_int (by decide +kernel) (da_cons (de_op ov_add (de_op ov_add (de_op ov_mulS (de_ix (de_var 0 (pv 0)) de_int (fun _ _ => rfl)) de_int) (de_op ov_mulS (de_var 3 (pv 3)) de_int)) de_int) da_nil)) de_int) (dg_ixM (de_var 0 (pv 0)) de_int))
      (dss_one (ds_ret (de_op ov_mod (de_cty cv_int (by rfl) T.z_int (by decide +kernel) (da_cons (de_op ov_div (de_op ov_mod (de_op ov_mulS (de_ix (de_var 0 (pv 0)) de_int (fun _ _ => rfl)) de_int) de_int) de_int) da_nil)) (de_var 1 (pv 1)))))))))))
theorem ok__law_letter (T : Txt K w mg A B) : FnOk P w K mg base CX0 1 (A 36) (B 36) ["pauli", "qubit"] (spOf K 2 sp__law_letter) := by
  refine fn_ok (ws := w__law_letter) T.d__law_letter.fn sc__law_letter rfl (fun cdv A outer s H E hr => ?_) pk__law_letter
  exact (dss_one (ds_ret (de_ix de_str (de_op ov_add (de_op ov_mod (de_op ov_div (de_ix (de_var 0 (pv 0)) de_int (fun _ _ => rfl)) (de_op ov_shl de_int (de_var 1 (pv 1)))) de_int) (de_op ov_mulS de_int (de_op ov_mod (de_op ov_div (de_ix (de_var 0 (pv 0)) de_int (fun _ _ => rfl)) (de_op ov_shl de_int (de_var 1 (pv 1)))) de_int))) (fun _ _ => rfl))))
theorem ok_commutes (T : Txt K w mg A B) : FnOk P w K mg base CX0 2 (A 1) (B 1) ["one", "other"] (spOf K 2 sp_commutes) := by
  have G_ones_paulis : FnOk P w K mg base CX0 1 (A 0) (B 0) ["mask"] (spOf K 1 sp_ones_paulis) := ok_ones_paulis T
  refine fn_ok (ws := w_commutes) T.d_commutes.fn sc_commutes rfl (fun cdv A outer s H E hr => ?_) pk_commutes
  exact (dss_one (ds_ret (de_cmp (ov_eq hr.units) (de_op ov_mod (de_call G_ones_paulis (hr.mono (by decide)) (by rfl) T.d_ones_paulis.gl T.d_ones_paulis.fn.kp T.d_ones_paulis.bd (da_cons (de_op ov_and (de_ix (de_var 0 (pv 0)) de_int (fun _ _ => rfl)) (de_ix (de_var 1 (pv 1)) de_int (fun _ _ => rfl))) da_nil)) de_int) (de_op ov_mod (de_call G_ones_paulis (hr.mono (by decide)) (by rfl) T.d_ones_paulis.gl T.d_ones_paulis.fn.kp T.d_ones_paulis.bd (da_cons (de_op ov_and (de_ix (de_var 0 (pv 0)) de_int (fun _ _ => rfl)) (de_ix (de_var 1 (pv 1)) de_int (fun _ _ => rfl))) da_nil)) de_int) (nomark _))))
theorem ok_product (T : Txt K w mg A B) : FnOk P w K mg base CX0 2 (A 2) (B 2) ["one", "other"] (spOf K 2 sp_product) := by
  have G_ones_paulis : FnOk P w K mg base CX0 1 (A 0) (B 0) ["mask"] (spOf K 1 sp_ones_paulis) := ok_ones_paulis T
  refine fn_ok (ws := w_product) T.d_product.fn sc_product rfl (fun cdv A outer s H E hr => ?_) pk_product
  exact (dss_cons (ds_set 2 (de_op ov_xor (de_ix (de_var 0 (pv 0)) de_int (fun _ _ => rfl)) (de_ix (de_var 1 (pv 1)) de_int (fun _ _ => rfl))) (fun _ he => ps_set (i := 2) sc_product.nd rfl (by first | exact .inl rfl | exact .inr rfl) he))
      (dss_cons (ds_set 3 (de_op ov_xor (de_ix (de_var 0 (pv 0)) de_int (fun _ _ => rfl)) (de_ix (de_var 1 (pv 1)) de_int (fun _ _ => rfl))) (fun _ he => ps_set (i := 3) sc_product.nd rfl (by first | exact .inl rfl | exact .inr rfl) he))
      (dss_cons (ds_set 4 (de_op ov_add (de_op ov_add (de_op ov_mulS de_int (de_op ov_add (de_ix (de_var 0 (pv 0)) de_int (fun _ _ => rfl)) (de_ix (de_var 1 (pv 1)) de_int (fun _ _ => rfl)))) (de_call G_ones_paulis (hr.mono (by decide)) (by rfl) T.d_ones_paulis.gl T.d_ones_paulis.fn.kp T.d_ones_paulis.bd (da_cons (de_op ov_and (de_ix (de_var 0 (pv 0)) de_int (fun _ _ => rfl)) (de_ix (de_var 0 (pv 0)) de_int (fun _ _ => rfl))) da_nil))) (de_call G_ones_paulis (hr.mono (by decide)) (by rfl) T.d_ones_paulis.gl T.d_ones_paulis.fn.kp T.d_ones_paulis.bd (da_cons (de_op ov_and (de_ix (de_var 1 (pv 1)) de_int (fun _ _ => rfl)) (de_ix (de_var 1 (pv 1)) de_int (fun _ _ => rfl))) da_nil))) (fun _ he => ps_set (i := 4) sc_product.nd rfl (by first | exact .inl rfl | exact .inr rfl) he))
      (dss_cons (ds_set 4 (de_op ov_mod (de_op ov_sub (de_op ov_add (de_var 4 (pv 4)) (de_op ov_mulS de_int (de_call G_ones_paulis (hr.mono (by decide)) (by rfl) T.d_ones_paulis.gl T.d_ones_paulis.fn.kp T.d_ones_paulis.bd (da_cons (de_op ov_and (de_ix (de_var 0 (pv 0)) de_int (fun _ _ => rfl)) (de_ix (de_var 1 (pv 1)) de_int (fun _ _ => rfl))) da_nil)))) (de_call G_ones_paulis (hr.mono (by decide)) (by rfl) T.d_ones_paulis.gl T.d_ones_paulis.fn.kp T.d_ones_paulis.bd (da_cons (de_op ov_and (de_var 2 (pv 2)) (de_var 3 (pv 3))) da_nil))) de_int) (fun _ he => ps_set (i := 4) sc_product.nd rfl (by first | exact .inl rfl | exact .inr rfl) he))
      (dss_one (ds_ret (de_tup (da_cons (de_var 2 (pv 2)) (da_cons (de_var 3 (pv 3)) (da_cons (de_op ov_div (de_var 4 (pv 4)) de_int) da_nil))))))))))
theorem ok_Frame_add (T : Txt K w mg A B) : FnOk P w K mg base (L2.CX P w) 2 (A 7) (B 7) ["self", "name", "slot"] (spOfX K 3 sp_Frame_add) := by
  have G_single : FnOk P w K mg base CX0 1 (A 3) (B 3) ["name", "qubit"] (spOf K 2 sp_single) := ok_single T
  refine fn_okX (ws := w_Frame_add) T.d_Frame_add.fn sc_Frame_add rfl (fun cdv A outer s H E hr => ?_) pk_Frame_add
  exact (dss_cons (ds_if (dt_din hr.units (de_var 1 (pv 1)) (de_fld (de_var 0 (pv 0)) T.k_Frame T.n_Frame_rows)) (dss_one (ds_raise rfl (takes_of rfl rfl rfl rfl) (pmk_own0 PySem.F.excBase_ValueError T.x_NotValid.xP T.x_NotValid.gC T.x_NotValid.kP (raises_own T.x_NotValid.bP T.x_NotValid.tP) (by rfl)))) dss_nil)
      (dss_one (ds_dput hr.units (de_fld (de_var 0 (pv 0)) T.k_Frame T.n_Frame_rows) (de_var 1 (pv 1)) (de_new (dn_lst (da_cons (de_call G_single (hr.mono (by decide)) (by rfl) T.d_single.gl T.d_single.fn.kp T.d_single.bd (da_cons de_str (da_cons (de_var 2 (pv 2)) da_nil))) (da_cons (de_call G_single (hr.mono (by decide)) (by rfl) T.d_single.gl T.d_single.fn.kp T.d_single.bd (da_cons de_str (da_cons (de_var 2 (pv 2)) da_nil))) da_nil)))))))
theorem ok_plus (T : Txt K w mg A B) : FnOk P w K mg base CX0 2 (A 17) (B 17) ["x", "y"] (spOf K 2 sp_plus) := by
  have G_raised : FnOk P w K mg base CX0 1 (A 16) (B 16) ["x", "k"] (spOf K 2 sp_raised) := ok_raised T
  have G_formed : FnOk P w K mg base CX0 1 (A 15) (B 15) ["a", "b", "c", "d", "k"] (spOf K 5 sp_formed) := ok_formed T
  refine fn_ok (ws := w_plus) T.d_plus.fn sc_plus rfl (fun cdv A outer s H E hr => ?_) pk_plus
  exact (dss_cons (ds_set 2 (de_cb (cv_max rfl) (by rfl) T.z_max (by decide +kernel) (da_cons (de_ix (de_var 0 (pv 0)) de_int (fun _ _ => rfl)) (da_cons (de_ix (de_var 1 (pv 1)) de_int (fun _ _ => rfl)) da_nil))) (fun _ he => ps_set (i := 2) sc_plus.nd rfl (by first | exact .inl rfl | exact .inr rfl) he))
      (dss_cons (ds_set 3 (de_call G_raised (hr.mono (by decide)) (by rfl) T.d_raised.gl T.d_raised.fn.kp T.d_raised.bd (da_cons (de_var 0 (pv 0)) (da_cons (de_var 2 (pv 2)) da_nil))) (fun _ he => ps_set (i := 3) sc_plus.nd rfl (by first | exact .inl rfl | exact .inr rfl) he))
      (dss_cons (ds_set 4 (de_call G_raised (hr.mono (by decide)) (by rfl) T.d_raised.gl T.d_raised.fn.kp T.d_raised.bd (da_cons (de_var 1 (pv 1)) (da_cons (de_var 2 (pv 2)) da_nil))) (fun _ he => ps_set (i := 4) sc_plus.nd rfl (by first | exact .inl rfl | exact .inr rfl) he))
      (dss_one (ds_ret (de_call G_formed (hr.mono (by decide)) (by rfl) T.d_formed.gl T.d_formed.fn.kp T.d_formed.bd (da_cons (de_op ov_add (de_ix (de_var 3 (pv 3)) de_int (fun _ _ => rfl)) (de_ix (de_var 4 (pv 4)) de_int (fun _ _ => rfl))) (da_cons (de_op ov_add (de_ix (de_var 3 (pv 3)) de_int (fun _ _ => rfl)) (de_ix (de_var 4 (pv 4)) de_int (fun _ _ => rfl))) (da_cons (de_op ov_add (de_ix (de_var 3 (pv 3)) de_int (fun _ _ => rfl)) (de_ix (de_var 4 (pv 4)) de_int (fun _ _ => rfl))) (da_cons (de_op ov_add (de_ix (de_var 3 (pv 3)) de_int (fun _ _ => rfl)) (de_ix (de_var 4 (pv 4)) de_int (fun _ _ => rfl))) (da_cons (de_var 2 (pv 2)) da_nil)))))))))))
theorem ok_times (T : Txt K w mg A B) : FnOk P w K mg base CX0 2 (A 20) (B 20) ["x", "y"] (spOf K 2 sp_times) := by
  have G_formed : FnOk P w K mg base CX0 1 (A 15) (B 15) ["a", "b", "c", "d", "k"] (spOf K 5 sp_formed) := ok_formed T
  refine fn_ok (ws := w_times) T.d_times.fn sc_times rfl (fun cdv A outer s H E hr => ?_) pk_times
  exact (dss_cons (ds_asg (de_var 0 (pv 0)) (dg_tup rfl (dgs_cons (dg_var 2 (pg_name (i := 2) sc_times.nd rfl (by first | exact .inl rfl | exact .inr rfl))) (dgs_cons (dg_var 3 (pg_name (i := 3) sc_times.nd rfl (by first | exact .inl rfl | exact .inr rfl))) (dgs_cons (dg_var 4 (pg_name (i := 4) sc_times.nd rfl (by first | exact .inl rfl | exact .inr rfl))) (dgs_cons (dg_var 5 (pg_name (i := 5) sc_times.nd rfl (by first | exact .inl rfl | exact .inr rfl))) (dgs_cons (dg_var 6 (pg_name (i := 6) sc_times.nd rfl (by first | exact .inl rfl | exact .inr rfl))) dgs_nil)))))))
      (dss_cons (ds_asg (de_var 1 (pv 1)) (dg_tup rfl (dgs_cons (dg_var 7 (pg_name (i := 7) sc_times.nd rfl (by first | exact .inl rfl | exact .inr rfl))) (dgs_cons (dg_var 8 (pg_name (i := 8) sc_times.nd rfl (by first | exact .inl rfl | exact .inr rfl))) (dgs_cons (dg_var 9 (pg_name (i := 9) sc_times.nd rfl (by first | exact .inl rfl | exact .inr rfl))) (dgs_cons (dg_var 10 (pg_name (i := 10) sc_times.nd rfl (by first | exact .inl rfl | exact .inr rfl))) (dgs_cons (dg_var 11 (pg_name (i := 11) sc_times.nd rfl (by first | exact .inl rfl | exact .inr rfl))) dgs_nil)))))))
      (dss_one (ds_ret (de_call G_formed (hr.mono (by decide)) (by rfl) T.d_formed.gl T.d_formed.fn.kp T.d_formed.bd (da_cons (de_op ov_sub (de_op ov_sub (de_op ov_sub (de_op ov_mulS (de_var 2 (pv 2)) (de_var 7 (pv 7))) (de_op ov_mulS (de_var 3 (pv 3)) (de_var 10 (pv 10)))) (de_op ov_mulS (de_var 4 (pv 4)) (de_var 9 (pv 9)))) (de_op ov_mulS (de_var 5 (pv 5)) (de_var 8 (pv 8)))) (da_cons (de_op ov_sub (de_op ov_sub (de_op ov_add (de_op ov_mulS (de_var 2 (pv 2)) (de_var 8 (pv 8))) (de_op ov_mulS (de_var 3 (pv 3)) (de_var 7 (pv 7)))) (de_op ov_mulS (de_var 4 (pv 4)) (de_var 10 (pv 10)))) (de_op ov_mulS (de_var 5 (pv 5)) (de_var 9 (pv 9)))) (da_cons (de_op ov_sub (de_op ov_add (de_op ov_add (de_op ov_mulS (de_var 2 (pv 2)) (de_var 9 (pv 9))) (de_op ov_mulS (de_var 3 (pv 3)) (de_var 8 (pv 8)))) (de_op ov_mulS (de_var 4 (pv 4)) (de_var 7 (pv 7)))) (de_op ov_mulS (de_var 5 (pv 5)) (de_var 10 (pv 10)))) (da_cons (de_op ov_add (de_op ov_add (de_op ov_add (de_op ov_mulS (de_var 2 (pv 2)) (de_var 10 (pv 10))) (de_op ov_mulS (de_var 3 (pv 3)) (de_var 9 (pv 9)))) (de_op ov_mulS (de_var 4 (pv 4)) (de_var 8 (pv 8)))) (de_op ov_mulS (de_var 5 (pv 5)) (de_var 7 (pv 7)))) (da_cons (de_op ov_add (de_var 6 (pv 6)) (de_var 11 (pv 11))) da_nil))))))))))
theorem ok__law_matrix (T : Txt K w mg A B) : FnOk P w K mg base CX0 2 (A 33) (B 33) ["name"] (spOf K 1 sp__law_matrix) := by
  have G_root : FnOk P w K mg base CX0 1 (A 22) (B 22) ["n"] (spOf K 1 sp_root) := ok_root T
  refine fn_ok (ws := w__law_matrix) T.d__law_matrix.fn sc__law_matrix rfl (fun cdv A outer s H E hr => ?_) pk__law_matrix
  exact (dss_cons (ds_asg (de_tup (da_cons (de_tup (da_cons de_int (da_cons de_int (da_cons de_int (da_cons de_int (da_cons de_int da_nil)))))) (da_cons (de_tup (da_cons de_int (da_cons de_int (da_cons de_int (da_cons de_int (da_cons de_int da_nil)))))) (da_cons (de_tup (da_cons de_int (da_cons de_int (da_cons de_int (da_cons de_int (da_cons de_int da_nil)))))) da_nil)))) (dg_tup rfl (dgs_cons (dg_var 3 (pg_name (i := 3) sc__law_matrix.nd rfl (by first | exact .inl rfl | exact .inr rfl))) (dgs_cons (dg_var 4 (pg_name (i := 4) sc__law_matrix.nd rfl (by first | exact .inl rfl | exact .inr rfl))) (dgs_cons (dg_var 5 (pg_name (i := 5) sc__law_matrix.nd rfl (by first | exact .inl rfl | exact .inr rfl))) dgs_nil)))))
      (dss_cons (ds_set 1 (de_tup (da_cons (de_un uv_neg de_int) (da_cons de_int (da_cons de_int (da_cons de_int (da_cons de_int da_nil)))))) (fun _ he => ps_set (i := 1) sc__law_matrix.nd rfl (by first | exact .inl rfl | exact .inr rfl) he))
      (dss_cons (ds_set 2 (de_new (dn_dlit (dps_cons de_str de_int (dps_cons de_str de_int (dps_cons de_str de_int (dps_cons de_str de_int (dps_cons de_str de_int dps_nil))))))) (fun _ he => ps_set (i := 2) sc__law_matrix.nd rfl (by first | exact .inl rfl | exact .inr rfl) he))
      (dss_cons (ds_if (dt_cmp (ov_eq hr.units) (de_var 0 (pv 0)) de_str (nomark _)) (dss_one (ds_ret (de_new (dn_lst (da_cons (de_new (dn_lst (da_cons (de_var 5 (pv 5)) (da_cons (de_var 5 (pv 5)) da_nil)))) (da_cons (de_new (dn_lst (da_cons (de_var 5 (pv 5)) (da_cons (de_var 1 (pv 1)) da_nil)))) da_nil)))))) dss_nil)
      (dss_cons (ds_if (dt_cmp (ov_eq hr.units) (de_var 0 (pv 0)) de_str (nomark _)) (dss_one (ds_ret (de_new (dn_lst (da_cons (de_new (dn_lst (da_cons (de_var 4 (pv 4)) (da_cons (de_var 3 (pv 3)) da_nil)))) (da_cons (de_new (dn_lst (da_cons (de_var 3 (pv 3)) (da_cons (de_var 4 (pv 4)) da_nil)))) da_nil)))))) dss_nil)
      (dss_cons (ds_if (dt_cmp (ov_eq hr.units) (de_var 0 (pv 0)) de_str (nomark _)) (dss_one (ds_ret (de_new (dn_lst (da_cons (de_new (dn_lst (da_cons (de_var 4 (pv 4)) (da_cons (de_call G_root (hr.mono (by decide)) (by rfl) T.d_root.gl T.d_root.fn.kp T.d_root.bd (da_cons de_int da_nil)) da_nil)))) (da_cons (de_new (dn_lst (da_cons (de_call G_root (hr.mono (by decide)) (by rfl) T.d_root.gl T.d_root.fn.kp T.d_root.bd (da_cons de_int da_nil)) (da_cons (de_var 4 (pv 4)) da_nil)))) da_nil)))))) dss_nil)
      (dss_one (ds_ret (de_new (dn_lst (da_cons (de_new (dn_lst (da_cons (de_var 3 (pv 3)) (da_cons (de_var 4 (pv 4)) da_nil)))) (da_cons (de_new (dn_lst (da_cons (de_var 4 (pv 4)) (da_cons (de_call G_root (hr.mono (by decide)) (by rfl) T.d_root.gl T.d_root.fn.kp T.d_root.bd (da_cons (de_dget hr.units (de_var 2 (pv 2)) (de_var 0 (pv 0)) (fun _ _ => rfl)) da_nil)) da_nil)))) da_nil))))))))))))
theorem ok__law_times (T : Txt K w mg A B) : FnOk P w K mg base CX0 2 (A 40) (B 40) ["one", "other"] (spOf K 2 sp__law_times) := by
  have G__law_letter : FnOk P w K mg base CX0 1 (A 36) (B 36) ["pauli", "qubit"] (spOf K 2 sp__law_letter) := ok__law_letter T
  refine fn_ok (ws := w__law_times) T.d__law_times.fn sc__law_times rfl (fun cdv A outer s H E hr => ?_) pk__law_times
  exact (dss_cons (ds_par 4 5 (da_cons (de_op ov_xor (de_ix (de_var 0 (pv 0)) de_int (fun _ _ => rfl)) (de_ix (de_var 1 (pv 1)) de_int (fun _ _ => rfl))) (da_cons (de_op ov_xor (de_ix (de_var 0 (pv 0)) de_int (fun _ _ => rfl)) (de_ix (de_var 1 (pv 1)) de_int (fun _ _ => rfl))) da_nil)) (fun _ h => ps_par rfl sc__law_times.nd rfl rfl (by decide) rfl rfl h (by rfl)))
      (dss_cons (ds_set 2 (de_op ov_add (de_op ov_mulS de_int (de_ix (de_var 0 (pv 0)) de_int (fun _ _ => rfl))) (de_op ov_mulS de_int (de_ix (de_var 1 (pv 1)) de_int (fun _ _ => rfl)))) (fun _ he => ps_set (i := 2) sc__law_times.nd rfl (by first | exact .inl rfl | exact .inr rfl) he))
      (dss_cons (ds_for PassesOwn.never rfl (di_rng1 (by rfl) T.z_range (da_cons de_int da_nil)) (dg_var 3 (pg_name (i := 3) sc__law_times.nd rfl (by first | exact .inl rfl | exact .inr rfl))) (dss_cons (ds_set 6 (de_op ov_add (de_call G__law_letter (hr.mono (by decide)) (by rfl) T.d__law_letter.gl T.d__law_letter.fn.kp T.d__law_letter.bd (da_cons (de_var 0 (pv 0)) (da_cons (de_var 3 (pv 3)) da_nil))) (de_call G__law_letter (hr.mono (by decide)) (by rfl) T.d__law_letter.gl T.d__law_letter.fn.kp T.d__law_letter.bd (da_cons (de_var 1 (pv 1)) (da_cons (de_var 3 (pv 3)) da_nil)))) (fun _ he => ps_set (i := 6) sc__law_times.nd rfl (by first | exact .inl rfl | exact .inr rfl) he))
      (dss_one (ds_aug 2 iv_add (de_dgetD hr.units (de_new (dn_dlit (dps_cons de_str de_int (dps_cons de_str de_int (dps_cons de_str de_int (dps_cons de_str de_int (dps_cons de_str de_int (dps_cons de_str de_int dps_nil)))))))) (de_var 6 (pv 6)) de_int ⟨rfl, rfl, rfl, rfl⟩) (fun _ _ he hp => ps_aug (i := 2) sc__law_times.nd rfl (by first | exact .inl rfl | exact .inr rfl) he hp)))))
      (dss_one (ds_ret (de_tup (da_cons (de_tup (da_cons (de_var 4 (pv 4)) (da_cons (de_var 5 (pv 5)) da_nil))) (da_cons (de_op ov_mod (de_var 2 (pv 2)) de_int) da_nil))))))))
theorem ok_Frame_pair (T : Txt K w mg A B) : FnOk P w K mg base CX0 3 (A 12) (B 12) ["self", "name", "first", "second"] (spOf K 4 sp_Frame_pair) := by
  have G_Frame_x : FnOk P w K mg base CX0 1 (A 8) (B 8) ["self", "name"] (spOf K 2 sp_Frame_x) := ok_Frame_x T
  have G_Frame_z : FnOk P w K mg base CX0 1 (A 9) (B 9) ["self", "name"] (spOf K 2 sp_Frame_z) := ok_Frame_z T
  have G_Frame_put : FnOk P w K mg base CX0 1 (A 10) (B 10) ["self", "name", "x", "z"] (spOf K 4 sp_Frame_put) := ok_Frame_put T
  have G_product : FnOk P w K mg base CX0 2 (A 2) (B 2) ["one", "other"] (spOf K 2 sp_product) := ok_product T
  refine fn_ok (ws := w_Frame_pair) T.d_Frame_pair.fn sc_Frame_pair rfl (fun cdv A outer s H E hr => ?_) pk_Frame_pair
  exact (dss_cons (ds_par 4 5 (da_cons (de_meth (de_var 0 (pv 0)) T.k_Frame T.d_Frame_x.mt G_Frame_x (hr.mono (by decide)) T.d_Frame_x.bd (da_cons (de_var 2 (pv 2)) da_nil)) (da_cons (de_meth (de_var 0 (pv 0)) T.k_Frame T.d_Frame_z.mt G_Frame_z (hr.mono (by decide)) T.d_Frame_z.bd (da_cons (de_var 2 (pv 2)) da_nil)) da_nil)) (fun _ h => ps_par rfl sc_Frame_pair.nd rfl rfl (by decide) rfl rfl h (by rfl)))
      (dss_cons (ds_par 6 7 (da_cons (de_meth (de_var 0 (pv 0)) T.k_Frame T.d_Frame_x.mt G_Frame_x (hr.mono (by decide)) T.d_Frame_x.bd (da_cons (de_var 3 (pv 3)) da_nil)) (da_cons (de_meth (de_var 0 (pv 0)) T.k_Frame T.d_Frame_z.mt G_Frame_z (hr.mono (by decide)) T.d_Frame_z.bd (da_cons (de_var 3 (pv 3)) da_nil)) da_nil)) (fun _ h => ps_par rfl sc_Frame_pair.nd rfl rfl (by decide) rfl rfl h (by rfl)))
      (dss_one (ds_if (dt_cmp (ov_eq hr.units) (de_var 1 (pv 1)) de_str (nomark _)) (dss_cons (ds_expr (de_meth (de_var 0 (pv 0)) T.k_Frame T.d_Frame_put.mt G_Frame_put (hr.mono (by decide)) T.d_Frame_put.bd (da_cons (de_var 2 (pv 2)) (da_cons (de_call G_product (hr.mono (by decide)) (by rfl) T.d_product.gl T.d_product.fn.kp T.d_product.bd (da_cons (de_var 4 (pv 4)) (da_cons (de_var 6 (pv 6)) da_nil))) (da_cons (de_var 5 (pv 5)) da_nil)))))
      (dss_one (ds_expr (de_meth (de_var 0 (pv 0)) T.k_Frame T.d_Frame_put.mt G_Frame_put (hr.mono (by decide)) T.d_Frame_put.bd (da_cons (de_var 3 (pv 3)) (da_cons (de_var 6 (pv 6)) (da_cons (de_call G_product (hr.mono (by decide)) (by rfl) T.d_product.gl T.d_product.fn.kp T.d_product.bd (da_cons (de_var 5 (pv 5)) (da_cons (de_var 7 (pv 7)) da_nil))) da_nil))))))) (dss_cons (ds_expr (de_meth (de_var 0 (pv 0)) T.k_Frame T.d_Frame_put.mt G_Frame_put (hr.mono (by decide)) T.d_Frame_put.bd (da_cons (de_var 2 (pv 2)) (da_cons (de_call G_product (hr.mono (by decide)) (by rfl) T.d_product.gl T.d_product.fn.kp T.d_product.bd (da_cons (de_var 4 (pv 4)) (da_cons (de_var 7 (pv 7)) da_nil))) (da_cons (de_var 5 (pv 5)) da_nil)))))
      (dss_one (ds_expr (de_meth (de_var 0 (pv 0)) T.k_Frame T.d_Frame_put.mt G_Frame_put (hr.mono (by decide)) T.d_Frame_put.bd (da_cons (de_var 3 (pv 3)) (da_cons (de_call G_product (hr.mono (by decide)) (by rfl) T.d_product.gl T.d_product.fn.kp T.d_product.bd (da_cons (de_var 5 (pv 5)) (da_cons (de_var 6 (pv 6)) da_nil))) (da_cons (de_var 7 (pv 7)) da_nil)))))))))))
theorem ok_Frame_turn (T : Txt K w mg A B) : FnOk P w K mg base CX0 3 (A 13) (B 13) ["self", "pauli"] (spOf K 2 sp_Frame_turn) := by
  have G_commutes : FnOk P w K mg base CX0 2 (A 1) (B 1) ["one", "other"] (spOf K 2 sp_commutes) := ok_commutes T
  have G_product : FnOk P w K mg base CX0 2 (A 2) (B 2) ["one", "other"] (spOf K 2 sp_product) := ok_product T
  refine fn_ok (ws := w_Frame_turn) T.d_Frame_turn.fn sc_Frame_turn rfl (fun cdv A outer s H E hr => ?_) pk_Frame_turn
  exact (dss_one (ds_for PassesOwn.never rfl (di_list (de_new (dn_keys rfl (de_fld (de_var 0 (pv 0)) T.k_Frame T.n_Frame_rows) (by rfl) T.z_list))) (dg_var 2 (pg_name (i := 2) sc_Frame_turn.nd rfl (by first | exact .inl rfl | exact .inr rfl))) (dss_one (ds_dput hr.units (de_fld (de_var 0 (pv 0)) T.k_Frame T.n_Frame_rows) (de_var 2 (pv 2)) (de_new (dn_lc (own := [("one", 3)]) rfl sc_Frame_turn.nd (di_list (de_dget hr.units (de_fld (de_var 0 (pv 0)) T.k_Frame T.n_Frame_rows) (de_var 2 (pv 2)) (fun _ _ => rfl))) (blkOk_by (N := ["self", "pauli", "name", "one"]) (sc := defScope s_Frame_turn) (by decide +kernel)) (tg_one (by decide)) (fun _ _ _ _ _ => pg_name (i := 3) sc_Frame_turn.nd rfl (Or.inl rfl)) (fun _ _ _ _ _ => pts_x0) (fun _ _ _ _ _ => (de_if (dt_tru (de_call G_commutes (hr.mono (by decide)) (by rfl) T.d_commutes.gl T.d_commutes.fn.kp T.d_commutes.bd (da_cons (de_var 3 (pv 3)) (da_cons (de_var 1 (pv 1)) da_nil)))) (de_var 3 (pv 3)) (de_call G_product (hr.mono (by decide)) (by rfl) T.d_product.gl T.d_product.fn.kp T.d_product.bd (da_cons (de_var 3 (pv 3)) (da_cons (de_var 1 (pv 1)) da_nil)))))))))))
theorem ok_Frame_flip (T : Txt K w mg A B) : FnOk P w K mg base CX0 3 (A 14) (B 14) ["self", "pauli"] (spOf K 2 sp_Frame_flip) := by
  have G_turned : FnOk P w K mg base CX0 1 (A 4) (B 4) ["pauli", "bit"] (spOf K 2 sp_turned) := ok_turned T
  have G_commutes : FnOk P w K mg base CX0 2 (A 1) (B 1) ["one", "other"] (spOf K 2 sp_commutes) := ok_commutes T
  refine fn_ok (ws := w_Frame_flip) T.d_Frame_flip.fn sc_Frame_flip rfl (fun cdv A outer s H E hr => ?_) pk_Frame_flip
  exact (dss_one (ds_for PassesOwn.never rfl (di_list (de_new (dn_keys rfl (de_fld (de_var 0 (pv 0)) T.k_Frame T.n_Frame_rows) (by rfl) T.z_list))) (dg_var 2 (pg_name (i := 2) sc_Frame_flip.nd rfl (by first | exact .inl rfl | exact .inr rfl))) (dss_one (ds_dput hr.units (de_fld (de_var 0 (pv 0)) T.k_Frame T.n_Frame_rows) (de_var 2 (pv 2)) (de_new (dn_lc (own := [("one", 3)]) rfl sc_Frame_flip.nd (di_list (de_dget hr.units (de_fld (de_var 0 (pv 0)) T.k_Frame T.n_Frame_rows) (de_var 2 (pv 2)) (fun _ _ => rfl))) (blkOk_by (N := ["self", "pauli", "name", "one"]) (sc := defScope s_Frame_flip) (by decide +kernel)) (tg_one (by decide)) (fun _ _ _ _ _ => pg_name (i := 3) sc_Frame_flip.nd rfl (Or.inl rfl)) (fun _ _ _ _ _ => pts_x0) (fun _ _ _ _ _ => (de_call G_turned (hr.mono (by decide)) (by rfl) T.d_turned.gl T.d_turned.fn.kp T.d_turned.bd (da_cons (de_var 3 (pv 3)) (da_cons (de_cty cv_int (by rfl) T.z_int (by decide +kernel) (da_cons (de_not (de_call G_commutes (hr.mono (by decide)) (by rfl) T.d_commutes.gl T.d_commutes.fn.kp T.d_commutes.bd (da_cons (de_var 3 (pv 3)) (da_cons (de_var 1 (pv 1)) da_nil)))) da_nil)) da_nil))))))))))
theorem ok_minus (T : Txt K w mg A B) : FnOk P w K mg base CX0 3 (A 19) (B 19) ["x", "y"] (spOf K 2 sp_minus) := by
  have G_plus : FnOk P w K mg base CX0 2 (A 17) (B 17) ["x", "y"] (spOf K 2 sp_plus) := ok_plus T
  have G_negative : FnOk P w K mg base CX0 1 (A 18) (B 18) ["x"] (spOf K 1 sp_negative) := ok_negative T
  refine fn_ok (ws := w_minus) T.d_minus.fn sc_minus rfl (fun cdv A outer s H E hr => ?_) pk_minus
  exact (dss_one (ds_ret (de_call G_plus (hr.mono (by decide)) (by rfl) T.d_plus.gl T.d_plus.fn.kp T.d_plus.bd (da_cons (de_var 0 (pv 0)) (da_cons (de_call G_negative (hr.mono (by decide)) (by rfl) T.d_negative.gl T.d_negative.fn.kp T.d_negative.bd (da_cons (de_var 1 (pv 1)) da_nil)) da_nil)))))
theorem ok_total (T : Txt K w mg A B) : FnOk P w K mg base CX0 3 (A 23) (B 23) ["numbers"] (spOf K 1 sp_total) := by
  have G_plus : FnOk P w K mg base CX0 2 (A 17) (B 17) ["x", "y"] (spOf K 2 sp_plus) := ok_plus T
  refine fn_ok (ws := w_total) T.d_total.fn sc_total rfl (fun cdv A outer s H E hr => ?_) pk_total
  exact (dss_cons (ds_set 1 (T.c_ZERO.de rfl) (fun _ he => ps_set (i := 1) sc_total.nd rfl (by first | exact .inl rfl | exact .inr rfl) he))
      (dss_cons (ds_for PassesOwn.never rfl (di_list (de_var 0 (pv 0))) (dg_var 2 (pg_name (i := 2) sc_total.nd rfl (by first | exact .inl rfl | exact .inr rfl))) (dss_one (ds_set 1 (de_call G_plus (hr.mono (by decide)) (by rfl) T.d_plus.gl T.d_plus.fn.kp T.d_plus.bd (da_cons (de_var 1 (pv 1)) (da_cons (de_var 2 (pv 2)) da_nil))) (fun _ he => ps_set (i := 1) sc_total.nd rfl (by first | exact .inl rfl | exact .inr rfl) he))))
      (dss_one (ds_ret (de_var 1 (pv 1))))))
theorem ok_acted (T : Txt K w mg A B) : FnOk P w K mg base CX0 3 (A 28) (B 28) ["state", "pauli"] (spOf K 2 sp_acted) := by
  have G_ones_states : FnOk P w K mg base CX0 1 (A 24) (B 24) ["value"] (spOf K 1 sp_ones_states) := ok_ones_states T
  have G_times : FnOk P w K mg base CX0 2 (A 20) (B 20) ["x", "y"] (spOf K 2 sp_times) := ok_times T
  have G_root : FnOk P w K mg base CX0 1 (A 22) (B 22) ["n"] (spOf K 1 sp_root) := ok_root T
  refine fn_ok (ws := w_acted) T.d_acted.fn sc_acted rfl (fun cdv A outer s H E hr => ?_) pk_acted
  exact (dss_cons (ds_asg (de_var 1 (pv 1)) (dg_tup rfl (dgs_cons (dg_var 5 (pg_name (i := 5) sc_acted.nd rfl (by first | exact .inl rfl | exact .inr rfl))) (dgs_cons (dg_var 6 (pg_name (i := 6) sc_acted.nd rfl (by first | exact .inl rfl | exact .inr rfl))) (dgs_cons (dg_var 7 (pg_name (i := 7) sc_acted.nd rfl (by first | exact .inl rfl | exact .inr rfl))) dgs_nil)))))
      (dss_cons (ds_set 2 (de_op ov_add (de_op ov_mulS de_int (de_call G_ones_states (hr.mono (by decide)) (by rfl) T.d_ones_states.gl T.d_ones_states.fn.kp T.d_ones_states.bd (da_cons (de_op ov_and (de_var 5 (pv 5)) (de_var 6 (pv 6))) da_nil))) (de_op ov_mulS de_int (de_var 7 (pv 7)))) (fun _ he => ps_set (i := 2) sc_acted.nd rfl (by first | exact .inl rfl | exact .inr rfl) he))
      (dss_cons (ds_setO 3 (dn_lst da_nil) (fun _ he => ps_set (i := 3) sc_acted.nd rfl (by first | exact .inl rfl | exact .inr rfl) he))
      (dss_cons (ds_for PassesOwn.never rfl (di_rng1 (by rfl) T.z_range (da_cons (de_cb cv_len (by rfl) T.z_len (by decide +kernel) (da_cons (de_var 0 (pv 0)) da_nil)) da_nil)) (dg_var 4 (pg_name (i := 4) sc_acted.nd rfl (by first | exact .inl rfl | exact .inr rfl))) (dss_cons (ds_set 8 (de_op ov_xor (de_var 4 (pv 4)) (de_var 5 (pv 5))) (fun _ he => ps_set (i := 8) sc_acted.nd rfl (by first | exact .inl rfl | exact .inr rfl) he))
      (dss_cons (ds_set 9 (de_op ov_and (de_call G_ones_states (hr.mono (by decide)) (by rfl) T.d_ones_states.gl T.d_ones_states.fn.kp T.d_ones_states.bd (da_cons (de_op ov_and (de_var 8 (pv 8)) (de_var 6 (pv 6))) da_nil)) de_int) (fun _ he => ps_set (i := 9) sc_acted.nd rfl (by first | exact .inl rfl | exact .inr rfl) he))
      (dss_one (ds_app 3 (pv 3) (de_call G_times (hr.mono (by decide)) (by rfl) T.d_times.gl T.d_times.fn.kp T.d_times.bd (da_cons (de_call G_root (hr.mono (by decide)) (by rfl) T.d_root.gl T.d_root.fn.kp T.d_root.bd (da_cons (de_op ov_add (de_var 2 (pv 2)) (de_op ov_mulS de_int (de_var 9 (pv 9)))) da_nil)) (da_cons (de_ix (de_var 0 (pv 0)) (de_var 8 (pv 8)) (fun _ _ => rfl)) da_nil))) (fun _ _ hx he => pe_bm PySem.F.plainAttrs_list PySem.F.slot_list_append PySem.F.type_list_append mt_append hx (pa_cons he pa_nil)))))))
      (dss_one (ds_ret (de_var 3 (pv 3))))))))
theorem ok__law_one (T : Txt K w mg A B) : FnOk P w K mg base CX0 3 (A 34) (B 34) ["state", "matrix", "qubit"] (spOf K 3 sp__law_one) := by
  have G_plus : FnOk P w K mg base CX0 2 (A 17) (B 17) ["x", "y"] (spOf K 2 sp_plus) := ok_plus T
  have G_times : FnOk P w K mg base CX0 2 (A 20) (B 20) ["x", "y"] (spOf K 2 sp_times) := ok_times T
  refine fn_ok (ws := w__law_one) T.d__law_one.fn sc__law_one rfl (fun cdv A outer s H E hr => ?_) pk__law_one
  exact (dss_cons (ds_setO 3 (dn_lst da_nil) (fun _ he => ps_set (i := 3) sc__law_one.nd rfl (by first | exact .inl rfl | exact .inr rfl) he))
      (dss_cons (ds_for PassesOwn.never rfl (di_rng1 (by rfl) T.z_range (da_cons (de_cb cv_len (by rfl) T.z_len (by decide +kernel) (da_cons (de_var 0 (pv 0)) da_nil)) da_nil)) (dg_var 4 (pg_name (i := 4) sc__law_one.nd rfl (by first | exact .inl rfl | exact .inr rfl))) (dss_cons (ds_set 5 (de_op ov_mod (de_op ov_div (de_var 4 (pv 4)) (de_op ov_shl de_int (de_var 2 (pv 2)))) de_int) (fun _ he => ps_set (i := 5) sc__law_one.nd rfl (by first | exact .inl rfl | exact .inr rfl) he))
      (dss_cons (ds_set 6 (de_op ov_sub (de_var 4 (pv 4)) (de_op ov_mulS (de_var 5 (pv 5)) (de_op ov_shl de_int (de_var 2 (pv 2))))) (fun _ he => ps_set (i := 6) sc__law_one.nd rfl (by first | exact .inl rfl | exact .inr rfl) he))
      (dss_cons (ds_set 7 (de_ix (de_var 1 (pv 1)) (de_var 5 (pv 5)) (fun _ _ => rfl)) (fun _ he => ps_set (i := 7) sc__law_one.nd rfl (by first | exact .inl rfl | exact .inr rfl) he))
      (dss_one (ds_app 3 (pv 3) (de_call G_plus (hr.mono (by decide)) (by rfl) T.d_plus.gl T.d_plus.fn.kp T.d_plus.bd (da_cons (de_call G_times (hr.mono (by decide)) (by rfl) T.d_times.gl T.d_times.fn.kp T.d_times.bd (da_cons (de_ix (de_var 7 (pv 7)) de_int (fun _ _ => rfl)) (da_cons (de_ix (de_var 0 (pv 0)) (de_var 6 (pv 6)) (fun _ _ => rfl)) da_nil))) (da_cons (de_call G_times (hr.mono (by decide)) (by rfl) T.d_times.gl T.d_times.fn.kp T.d_times.bd (da_cons (de_ix (de_var 7 (pv 7)) de_int (fun _ _ => rfl)) (da_cons (de_ix (de_var 0 (pv 0)) (de_op ov_add (de_var 6 (pv 6)) (de_op ov_shl de_int (de_var 2 (pv 2)))) (fun _ _ => rfl)) da_nil))) da_nil))) (fun _ _ hx he => pe_bm PySem.F.plainAttrs_list PySem.F.slot_list_append PySem.F.type_list_append mt_append hx (pa_cons he pa_nil))))))))
      (dss_one (ds_ret (de_var 3 (pv 3))))))
theorem ok__law_image (T : Txt K w mg A B) : FnOk P w K mg base CX0 3 (A 41) (B 41) ["frame", "pauli", "names"] (spOf K 3 sp__law_image) := by
  have G__law_letter : FnOk P w K mg base CX0 1 (A 36) (B 36) ["pauli", "qubit"] (spOf K 2 sp__law_letter) := ok__law_letter T
  have G__law_times : FnOk P w K mg base CX0 2 (A 40) (B 40) ["one", "other"] (spOf K 2 sp__law_times) := ok__law_times T
  have G_Frame_x : FnOk P w K mg base CX0 1 (A 8) (B 8) ["self", "name"] (spOf K 2 sp_Frame_x) := ok_Frame_x T
  have G_Frame_z : FnOk P w K mg base CX0 1 (A 9) (B 9) ["self", "name"] (spOf K 2 sp_Frame_z) := ok_Frame_z T
  refine fn_ok (ws := w__law_image) T.d__law_image.fn sc__law_image rfl (fun cdv A outer s H E hr => ?_) pk__law_image
  exact (dss_cons (ds_asg (de_tup (da_cons (de_tup (da_cons de_int (da_cons de_int (da_cons de_int da_nil)))) (da_cons de_int da_nil))) (dg_tup rfl (dgs_cons (dg_var 5 (pg_name (i := 5) sc__law_image.nd rfl (by first | exact .inl rfl | exact .inr rfl))) (dgs_cons (dg_var 4 (pg_name (i := 4) sc__law_image.nd rfl (by first | exact .inl rfl | exact .inr rfl))) dgs_nil))))
      (dss_cons (ds_for PassesOwn.never rfl (di_rng1 (by rfl) T.z_range (da_cons (de_cb cv_len (by rfl) T.z_len (by decide +kernel) (da_cons (de_var 2 (pv 2)) da_nil)) da_nil)) (dg_var 3 (pg_name (i := 3) sc__law_image.nd rfl (by first | exact .inl rfl | exact .inr rfl))) (dss_cons (ds_set 6 (de_call G__law_letter (hr.mono (by decide)) (by rfl) T.d__law_letter.gl T.d__law_letter.fn.kp T.d__law_letter.bd (da_cons (de_var 1 (pv 1)) (da_cons (de_var 3 (pv 3)) da_nil))) (fun _ he => ps_set (i := 6) sc__law_image.nd rfl (by first | exact .inl rfl | exact .inr rfl) he))
      (dss_cons (ds_set 7 (de_dget hr.units (de_new (dn_dlit (dps_cons de_str (de_new (dn_lst da_nil)) (dps_cons de_str (de_new (dn_lst (da_cons (de_meth (de_var 0 (pv 0)) T.k_Frame T.d_Frame_x.mt G_Frame_x (hr.mono (by decide)) T.d_Frame_x.bd (da_cons (de_ix (de_var 2 (pv 2)) (de_var 3 (pv 3)) (fun _ _ => rfl)) da_nil)) da_nil))) (dps_cons de_str (de_new (dn_lst (da_cons (de_meth (de_var 0 (pv 0)) T.k_Frame T.d_Frame_z.mt G_Frame_z (hr.mono (by decide)) T.d_Frame_z.bd (da_cons (de_ix (de_var 2 (pv 2)) (de_var 3 (pv 3)) (fun _ _ => rfl)) da_nil)) da_nil))) (dps_cons de_str (de_new (dn_lst (da_cons (de_meth (de_var 0 (pv 0)) T.k_Frame T.d_Frame_x.mt G_Frame_x (hr.mono (by decide)) T.d_Frame_x.bd (da_cons (de_ix (de_var 2 (pv 2)) (de_var 3 (pv 3)) (fun _ _ => rfl)) da_nil)) (da_cons (de_meth (de_var 0 (pv 0)) T.k_Frame T.d_Frame_z.mt G_Frame_z (hr.mono (by decide)) T.d_Frame_z.bd (da_cons (de_ix (de_var 2 (pv 2)) (de_var 3 (pv 3)) (fun _ _ => rfl)) da_nil)) da_nil)))) dps_nil)))))) (de_var 6 (pv 6)) (fun _ _ => rfl)) (fun _ he => ps_set (i := 7) sc__law_image.nd rfl (by first | exact .inl rfl | exact .inr rfl) he))
      (dss_cons (ds_aug 4 iv_add (de_cty cv_int (by rfl) T.z_int (by decide +kernel) (da_cons (de_cmp (ov_eq hr.units) (de_var 6 (pv 6)) de_str (nomark _)) da_nil)) (fun _ _ he hp => ps_aug (i := 4) sc__law_image.nd rfl (by first | exact .inl rfl | exact .inr rfl) he hp))
      (dss_one (ds_for PassesOwn.never rfl (di_list (de_var 7 (pv 7))) (dg_var 8 (pg_name (i := 8) sc__law_image.nd rfl (by first | exact .inl rfl | exact .inr rfl))) (dss_cons (ds_asg (de_call G__law_times (hr.mono (by decide)) (by rfl) T.d__law_times.gl T.d__law_times.fn.kp T.d__law_times.bd (da_cons (de_tup (da_cons (de_ix (de_var 5 (pv 5)) de_int (fun _ _ => rfl)) (da_cons (de_ix (de_var 5 (pv 5)) de_int (fun _ _ => rfl)) (da_cons de_int da_nil)))) (da_cons (de_var 8 (pv 8)) da_nil))) (dg_tup rfl (dgs_cons (dg_var 9 (pg_name (i := 9) sc__law_image.nd rfl (by first | exact .inl rfl | exact .inr rfl))) (dgs_cons (dg_var 10 (pg_name (i := 10) sc__law_image.nd rfl (by first | exact .inl rfl | exact .inr rfl))) dgs_nil))))
      (dss_cons (ds_set 5 (de_tup (da_cons (de_ix (de_var 9 (pv 9)) de_int (fun _ _ => rfl)) (da_cons (de_ix (de_var 9 (pv 9)) de_int (fun _ _ => rfl)) (da_cons de_int da_nil)))) (fun _ he => ps_set (i := 5) sc__law_image.nd rfl (by first | exact .inl rfl | exact .inr rfl) he))
      (dss_one (ds_aug 4 iv_add (de_var 10 (pv 10)) (fun _ _ he hp => ps_aug (i := 4) sc__law_image.nd rfl (by first | exact .inl rfl | exact .inr rfl) he hp)))))))))))
      (dss_cons (ds_set 4 (de_op ov_mod (de_op ov_add (de_var 4 (pv 4)) (de_op ov_mulS de_int (de_ix (de_var 1 (pv 1)) de_int (fun _ _ => rfl)))) de_int) (fun _ he => ps_set (i := 4) sc__law_image.nd rfl (by first | exact .inl rfl | exact .inr rfl) he))
      (dss_one (ds_ret (de_if (dt_cmp (ov_eq hr.units) (de_op ov_mod (de_var 4 (pv 4)) de_int) de_int (nomark _)) de_non (de_tup (da_cons (de_ix (de_var 5 (pv 5)) de_int (fun _ _ => rfl)) (da_cons (de_ix (de_var 5 (pv 5)) de_int (fun _ _ => rfl)) (da_cons (de_op ov_div (de_var 4 (pv 4)) de_int) da_nil))))))))))
theorem ok_Frame_gate (T : Txt K w mg A B) : FnOk P w K mg base (L2.CX P w) 4 (A 11) (B 11) ["self", "name", "qubits"] (spOfX K 3 sp_Frame_gate) := by
  have G_Frame_x : FnOk P w K mg base CX0 1 (A 8) (B 8) ["self", "name"] (spOf K 2 sp_Frame_x) := ok_Frame_x T
  have G_Frame_z : FnOk P w K mg base CX0 1 (A 9) (B 9) ["self", "name"] (spOf K 2 sp_Frame_z) := ok_Frame_z T
  have G_Frame_put : FnOk P w K mg base CX0 1 (A 10) (B 10) ["self", "name", "x", "z"] (spOf K 4 sp_Frame_put) := ok_Frame_put T
  have G_product : FnOk P w K mg base CX0 2 (A 2) (B 2) ["one", "other"] (spOf K 2 sp_product) := ok_product T
  have G_turned : FnOk P w K mg base CX0 1 (A 4) (B 4) ["pauli", "bit"] (spOf K 2 sp_turned) := ok_turned T
  have G_Frame_pair : FnOk P w K mg base CX0 3 (A 12) (B 12) ["self", "name", "first", "second"] (spOf K 4 sp_Frame_pair) := ok_Frame_pair T
  refine fn_okX (ws := w_Frame_gate) T.d_Frame_gate.fn sc_Frame_gate rfl (fun cdv A outer s H E hr => ?_) pk_Frame_gate
  exact (dss_cons (ds_set 3 (de_ix (de_var 2 (pv 2)) de_int (fun _ _ => rfl)) (fun _ he => ps_set (i := 3) sc_Frame_gate.nd rfl (by first | exact .inl rfl | exact .inr rfl) he))
      (dss_cons (ds_par 4 5 (da_cons (de_meth (de_var 0 (pv 0)) T.k_Frame T.d_Frame_x.mt G_Frame_x (hr.mono (by decide)) T.d_Frame_x.bd (da_cons (de_var 3 (pv 3)) da_nil)) (da_cons (de_meth (de_var 0 (pv 0)) T.k_Frame T.d_Frame_z.mt G_Frame_z (hr.mono (by decide)) T.d_Frame_z.bd (da_cons (de_var 3 (pv 3)) da_nil)) da_nil)) (fun _ h => ps_par rfl sc_Frame_gate.nd rfl rfl (by decide) rfl rfl h (by rfl)))
      (dss_one (ds_if (dt_cmp (ov_eq hr.units) (de_var 1 (pv 1)) de_str (nomark _)) (dss_one (ds_expr (de_meth (de_var 0 (pv 0)) T.k_Frame T.d_Frame_put.mt G_Frame_put (hr.mono (by decide)) T.d_Frame_put.bd (da_cons (de_var 3 (pv 3)) (da_cons (de_var 5 (pv 5)) (da_cons (de_var 4 (pv 4)) da_nil)))))) (dss_one (ds_if (dt_cmp (ov_eq hr.units) (de_var 1 (pv 1)) de_str (nomark _)) (dss_one (ds_expr (de_meth (de_var 0 (pv 0)) T.k_Frame T.d_Frame_put.mt G_Frame_put (hr.mono (by decide)) T.d_Frame_put.bd (da_cons (de_var 3 (pv 3)) (da_cons (de_call G_product (hr.mono (by decide)) (by rfl) T.d_product.gl T.d_product.fn.kp T.d_product.bd (da_cons (de_var 4 (pv 4)) (da_cons (de_var 5 (pv 5)) da_nil))) (da_cons (de_var 5 (pv 5)) da_nil)))))) (dss_one (ds_if (dt_cmp (ov_eq hr.units) (de_var 1 (pv 1)) de_str (nomark _)) (dss_one (ds_expr (de_meth (de_var 0 (pv 0)) T.k_Frame T.d_Frame_put.mt G_Frame_put (hr.mono (by decide)) T.d_Frame_put.bd (da_cons (de_var 3 (pv 3)) (da_cons (de_call G_product (hr.mono (by decide)) (by rfl) T.d_product.gl T.d_product.fn.kp T.d_product.bd (da_cons (de_var 5 (pv 5)) (da_cons (de_var 4 (pv 4)) da_nil))) (da_cons (de_var 5 (pv 5)) da_nil)))))) (dss_one (ds_if (dt_cmp (ov_eq hr.units) (de_var 1 (pv 1)) de_str (nomark _)) (dss_one (ds_expr (de_meth (de_var 0 (pv 0)) T.k_Frame T.d_Frame_put.mt G_Frame_put (hr.mono (by decide)) T.d_Frame_put.bd (da_cons (de_var 3 (pv 3)) (da_cons (de_var 4 (pv 4)) (da_cons (de_call G_turned (hr.mono (by decide)) (by rfl) T.d_turned.gl T.d_turned.fn.kp T.d_turned.bd (da_cons (de_var 5 (pv 5)) (da_cons de_int da_nil))) da_nil)))))) (dss_one (ds_if (dt_cmp (ov_eq hr.units) (de_var 1 (pv 1)) de_str (nomark _)) (dss_one (ds_expr (de_meth (de_var 0 (pv 0)) T.k_Frame T.d_Frame_put.mt G_Frame_put (hr.mono (by decide)) T.d_Frame_put.bd (da_cons (de_var 3 (pv 3)) (da_cons (de_call G_turned (hr.mono (by decide)) (by rfl) T.d_turned.gl T.d_turned.fn.kp T.d_turned.bd (da_cons (de_var 4 (pv 4)) (da_cons de_int da_nil))) (da_cons (de_call G_turned (hr.mono (by decide)) (by rfl) T.d_turned.gl T.d_turned.fn.kp T.d_turned.bd (da_cons (de_var 5 (pv 5)) (da_cons de_int da_nil))) da_nil)))))) (dss_one (ds_if (dt_cmp (ov_eq hr.units) (de_var 1 (pv 1)) de_str (nomark _)) (dss_one (ds_expr (de_meth (de_var 0 (pv 0)) T.k_Frame T.d_Frame_put.mt G_Frame_put (hr.mono (by decide)) T.d_Frame_put.bd (da_cons (de_var 3 (pv 3)) (da_cons (de_call G_turned (hr.mono (by decide)) (by rfl) T.d_turned.gl T.d_turned.fn.kp T.d_turned.bd (da_cons (de_var 4 (pv 4)) (da_cons de_int da_nil))) (da_cons (de_var 5 (pv 5)) da_nil)))))) (dss_one (ds_if (DW.pt (dw_or (dt_cmp (ov_eq hr.units) (de_var 1 (pv 1)) de_str (nomark _)) (dw_or1 (dt_cmp (ov_eq hr.units) (de_var 1 (pv 1)) de_str (nomark _))))) (dss_one (ds_expr (de_meth (de_var 0 (pv 0)) T.k_Frame T.d_Frame_pair.mt G_Frame_pair (hr.mono (by decide)) T.d_Frame_pair.bd (da_cons (de_var 1 (pv 1)) (da_cons (de_var 3 (pv 3)) (da_cons (de_ix (de_var 2 (pv 2)) de_int (fun _ _ => rfl)) da_nil)))))) (dss_one (ds_raise rfl (takes_of rfl rfl rfl rfl) (pmk_own0 PySem.F.excBase_ValueError T.x_NotValid.xP T.x_NotValid.gC T.x_NotValid.kP (raises_own T.x_NotValid.bP T.x_NotValid.tP) (by rfl))))))))))))))))))))
theorem ok_mixed (T : Txt K w mg A B) : FnOk P w K mg base CX0 4 (A 26) (B 26) ["state", "bit"] (spOf K 2 sp_mixed) := by
  have G_times : FnOk P w K mg base CX0 2 (A 20) (B 20) ["x", "y"] (spOf K 2 sp_times) := ok_times T
  have G_plus : FnOk P w K mg base CX0 2 (A 17) (B 17) ["x", "y"] (spOf K 2 sp_plus) := ok_plus T
  have G_minus : FnOk P w K mg base CX0 3 (A 19) (B 19) ["x", "y"] (spOf K 2 sp_minus) := ok_minus T
  refine fn_ok (ws := w_mixed) T.d_mixed.fn sc_mixed rfl (fun cdv A outer s H E hr => ?_) pk_mixed
  exact (dss_cons (ds_setO 2 (dn_lst da_nil) (fun _ he => ps_set (i := 2) sc_mixed.nd rfl (by first | exact .inl rfl | exact .inr rfl) he))
      (dss_cons (ds_for PassesOwn.never rfl (di_rng1 (by rfl) T.z_range (da_cons (de_cb cv_len (by rfl) T.z_len (by decide +kernel) (da_cons (de_var 0 (pv 0)) da_nil)) da_nil)) (dg_var 3 (pg_name (i := 3) sc_mixed.nd rfl (by first | exact .inl rfl | exact .inr rfl))) (dss_cons (ds_set 4 (de_ix (de_var 0 (pv 0)) (de_op ov_and (de_var 3 (pv 3)) (de_un uv_inv (de_var 1 (pv 1)))) (fun _ _ => rfl)) (fun _ he => ps_set (i := 4) sc_mixed.nd rfl (by first | exact .inl rfl | exact .inr rfl) he))
      (dss_cons (ds_set 5 (de_ix (de_var 0 (pv 0)) (de_op ov_or (de_var 3 (pv 3)) (de_var 1 (pv 1))) (fun _ _ => rfl)) (fun _ he => ps_set (i := 5) sc_mixed.nd rfl (by first | exact .inl rfl | exact .inr rfl) he))
      (dss_one (ds_app 2 (pv 2) (de_call G_times (hr.mono (by decide)) (by rfl) T.d_times.gl T.d_times.fn.kp T.d_times.bd (da_cons (T.c_ROOT.de rfl) (da_cons (de_if (dt_cmp (ov_eq hr.units) (de_op ov_and (de_var 3 (pv 3)) (de_var 1 (pv 1))) de_int (nomark _)) (de_call G_plus (hr.mono (by decide)) (by rfl) T.d_plus.gl T.d_plus.fn.kp T.d_plus.bd (da_cons (de_var 4 (pv 4)) (da_cons (de_var 5 (pv 5)) da_nil))) (de_call G_minus (hr.mono (by decide)) (by rfl) T.d_minus.gl T.d_minus.fn.kp T.d_minus.bd (da_cons (de_var 4 (pv 4)) (da_cons (de_var 5 (pv 5)) da_nil)))) da_nil))) (fun _ _ hx he => pe_bm PySem.F.plainAttrs_list PySem.F.slot_list_append PySem.F.type_list_append mt_append hx (pa_cons he pa_nil)))))))
      (dss_one (ds_ret (de_var 2 (pv 2))))))
theorem ok_projected (T : Txt K w mg A B) : FnOk P w K mg base CX0 4 (A 29) (B 29) ["state", "pauli", "bit"] (spOf K 3 sp_projected) := by
  have G_acted : FnOk P w K mg base CX0 3 (A 28) (B 28) ["state", "pauli"] (spOf K 2 sp_acted) := ok_acted T
  have G_times : FnOk P w K mg base CX0 2 (A 20) (B 20) ["x", "y"] (spOf K 2 sp_times) := ok_times T
  have G_minus : FnOk P w K mg base CX0 3 (A 19) (B 19) ["x", "y"] (spOf K 2 sp_minus) := ok_minus T
  have G_plus : FnOk P w K mg base CX0 2 (A 17) (B 17) ["x", "y"] (spOf K 2 sp_plus) := ok_plus T
  refine fn_ok (ws := w_projected) T.d_projected.fn sc_projected rfl (fun cdv A outer s H E hr => ?_) pk_projected
  exact (dss_cons (ds_set 3 (de_call G_acted (hr.mono (by decide)) (by rfl) T.d_acted.gl T.d_acted.fn.kp T.d_acted.bd (da_cons (de_var 0 (pv 0)) (da_cons (de_var 1 (pv 1)) da_nil))) (fun _ he => ps_set (i := 3) sc_projected.nd rfl (by first | exact .inl rfl | exact .inr rfl) he))
      (dss_cons (ds_setLcF (own := [("k", 5)]) (i := 4) rfl sc_projected.nd rfl rfl (sw_true rfl rfl rfl (by decide +kernel)) (di_rng1 (by rfl) T.z_range (da_cons (de_cb cv_len (by rfl) T.z_len (by decide +kernel) (da_cons (de_var 0 (pv 0)) da_nil)) da_nil)) (blkOk_by (N := ["state", "pauli", "bit", "other", "joins", "k", "one"]) (sc := defScope s_projected) (by decide +kernel)) (tg_one (by decide)) (fun _ _ _ _ _ => pg_name (i := 5) sc_projected.nd rfl (Or.inl rfl)) (fun _ _ _ _ _ => pts_x0) (fun _ _ _ _ _ => (de_if (dt_tru (de_var 2 (pv 2))) (de_call G_minus (hr.mono (by decide)) (by rfl) T.d_minus.gl T.d_minus.fn.kp T.d_minus.bd (da_cons (de_ix (de_var 0 (pv 0)) (de_var 5 (pv 5)) (fun _ _ => rfl)) (da_cons (de_ix (de_var 3 (pv 3)) (de_var 5 (pv 5)) (fun _ _ => rfl)) da_nil))) (de_call G_plus (hr.mono (by decide)) (by rfl) T.d_plus.gl T.d_plus.fn.kp T.d_plus.bd (da_cons (de_ix (de_var 0 (pv 0)) (de_var 5 (pv 5)) (fun _ _ => rfl)) (da_cons (de_ix (de_var 3 (pv 3)) (de_var 5 (pv 5)) (fun _ _ => rfl)) da_nil))))))
      (dss_one (ds_ret (de_new (dn_lc (own := [("one", 6)]) rfl sc_projected.nd (di_list (de_var 4 (pv 4))) (blkOk_by (N := ["state", "pauli", "bit", "other", "joins", "k", "one"]) (sc := defScope s_projected) (by decide +kernel)) (tg_one (by decide)) (fun _ _ _ _ _ => pg_name (i := 6) sc_projected.nd rfl (Or.inl rfl)) (fun _ _ _ _ _ => pts_x0) (fun _ _ _ _ _ => (de_call G_times (hr.mono (by decide)) (by rfl) T.d_times.gl T.d_times.fn.kp T.d_times.bd (da_cons (T.c_HALF.de rfl) (da_cons (de_var 6 (pv 6)) da_nil))))))))))
theorem ok_norm (T : Txt K w mg A B) : FnOk P w K mg base CX0 4 (A 30) (B 30) ["state"] (spOf K 1 sp_norm) := by
  have G_total : FnOk P w K mg base CX0 3 (A 23) (B 23) ["numbers"] (spOf K 1 sp_total) := ok_total T
  have G_times : FnOk P w K mg base CX0 2 (A 20) (B 20) ["x", "y"] (spOf K 2 sp_times) := ok_times T
  have G_conjugate : FnOk P w K mg base CX0 1 (A 21) (B 21) ["x"] (spOf K 1 sp_conjugate) := ok_conjugate T
  refine fn_ok (ws := w_norm) T.d_norm.fn sc_norm rfl (fun cdv A outer s H E hr => ?_) pk_norm
  exact (dss_one (ds_ret (de_call G_total (hr.mono (by decide)) (by rfl) T.d_total.gl T.d_total.fn.kp T.d_total.bd (da_cons (de_new (dn_lc (own := [("one", 1)]) rfl sc_norm.nd (di_list (de_var 0 (pv 0))) (blkOk_by (N := ["state", "one"]) (sc := defScope s_norm) (by decide +kernel)) (tg_one (by decide)) (fun _ _ _ _ _ => pg_name (i := 1) sc_norm.nd rfl (Or.inl rfl)) (fun _ _ _ _ _ => pts_x0) (fun _ _ _ _ _ => (de_call G_times (hr.mono (by decide)) (by rfl) T.d_times.gl T.d_times.fn.kp T.d_times.bd (da_cons (de_var 1 (pv 1)) (da_cons (de_call G_conjugate (hr.mono (by decide)) (by rfl) T.d_conjugate.gl T.d_conjugate.fn.kp T.d_conjugate.bd (da_cons (de_var 1 (pv 1)) da_nil)) da_nil)))))) da_nil))))
theorem ok__law_gate (T : Txt K w mg A B) : FnOk P w K mg base CX0 4 (A 35) (B 35) ["state", "name", "qubits"] (spOf K 3 sp__law_gate) := by
  have G__law_one : FnOk P w K mg base CX0 3 (A 34) (B 34) ["state", "matrix", "qubit"] (spOf K 3 sp__law_one) := ok__law_one T
  have G__law_matrix : FnOk P w K mg base CX0 2 (A 33) (B 33) ["name"] (spOf K 1 sp__law_matrix) := ok__law_matrix T
  refine fn_ok (ws := w__law_gate) T.d__law_gate.fn sc__law_gate rfl (fun cdv A outer s H E hr => ?_) pk__law_gate
  exact (dss_cons (ds_if (dt_cmp (ov_notInD (Room65 hr)) (de_var 1 (pv 1)) (de_tup (da_cons de_str (da_cons de_str da_nil))) (by rfl)) (dss_one (ds_ret (de_call G__law_one (hr.mono (by decide)) (by rfl) T.d__law_one.gl T.d__law_one.fn.kp T.d__law_one.bd (da_cons (de_var 0 (pv 0)) (da_cons (de_call G__law_matrix (hr.mono (by decide)) (by rfl) T.d__law_matrix.gl T.d__law_matrix.fn.kp T.d__law_matrix.bd (da_cons (de_var 1 (pv 1)) da_nil)) (da_cons (de_ix (de_var 2 (pv 2)) de_int (fun _ _ => rfl)) da_nil)))))) dss_nil)
      (dss_cons (ds_set 3 (de_call G__law_one (hr.mono (by decide)) (by rfl) T.d__law_one.gl T.d__law_one.fn.kp T.d__law_one.bd (da_cons (de_var 0 (pv 0)) (da_cons (de_call G__law_matrix (hr.mono (by decide)) (by rfl) T.d__law_matrix.gl T.d__law_matrix.fn.kp T.d__law_matrix.bd (da_cons (de_dget hr.units (de_new (dn_dlit (dps_cons de_str de_str (dps_cons de_str de_str dps_nil)))) (de_var 1 (pv 1)) (fun _ _ => rfl)) da_nil)) (da_cons (de_ix (de_var 2 (pv 2)) de_int (fun _ _ => rfl)) da_nil)))) (fun _ he => ps_set (i := 3) sc__law_gate.nd rfl (by first | exact .inl rfl | exact .inr rfl) he))
      (dss_one (ds_ret (de_new (dn_lc (own := [("k", 4)]) rfl sc__law_gate.nd (di_rng1 (by rfl) T.z_range (da_cons (de_cb cv_len (by rfl) T.z_len (by decide +kernel) (da_cons (de_var 0 (pv 0)) da_nil)) da_nil)) (blkOk_by (N := ["state", "name", "qubits", "turned_v", "k"]) (sc := defScope s__law_gate) (by decide +kernel)) (tg_one (by decide)) (fun _ _ _ _ _ => pg_name (i := 4) sc__law_gate.nd rfl (Or.inl rfl)) (fun _ _ _ _ _ => pts_x0) (fun _ _ _ _ _ => (de_if (dt_cmp (ov_eq hr.units) (de_op ov_mod (de_op ov_div (de_var 4 (pv 4)) (de_op ov_shl de_int (de_ix (de_var 2 (pv 2)) de_int (fun _ _ => rfl)))) de_int) de_int (nomark _)) (de_ix (de_var 3 (pv 3)) (de_var 4 (pv 4)) (fun _ _ => rfl)) (de_ix (de_var 0 (pv 0)) (de_var 4 (pv 4)) (fun _ _ => rfl))))))))))
theorem ok__law_acted (T : Txt K w mg A B) : FnOk P w K mg base CX0 4 (A 37) (B 37) ["state", "pauli", "many"] (spOf K 3 sp__law_acted) := by
  have G__law_letter : FnOk P w K mg base CX0 1 (A 36) (B 36) ["pauli", "qubit"] (spOf K 2 sp__law_letter) := ok__law_letter T
  have G_times : FnOk P w K mg base CX0 2 (A 20) (B 20) ["x", "y"] (spOf K 2 sp_times) := ok_times T
  have G__law_one : FnOk P w K mg base CX0 3 (A 34) (B 34) ["state", "matrix", "qubit"] (spOf K 3 sp__law_one) := ok__law_one T
  have G_root : FnOk P w K mg base CX0 1 (A 22) (B 22) ["n"] (spOf K 1 sp_root) := ok_root T
  have G__law_matrix : FnOk P w K mg base CX0 2 (A 33) (B 33) ["name"] (spOf K 1 sp__law_matrix) := ok__law_matrix T
  refine fn_ok (ws := w__law_acted) T.d__law_acted.fn sc__law_acted rfl (fun cdv A outer s H E hr => ?_) pk__law_acted
  exact (dss_cons (ds_set 3 (de_var 0 (pv 0)) (fun _ he => ps_set (i := 3) sc__law_acted.nd rfl (by first | exact .inl rfl | exact .inr rfl) he))
      (dss_cons (ds_for PassesOwn.never rfl (di_rng1 (by rfl) T.z_range (da_cons (de_var 2 (pv 2)) da_nil)) (dg_var 4 (pg_name (i := 4) sc__law_acted.nd rfl (by first | exact .inl rfl | exact .inr rfl))) (dss_cons (ds_set 5 (de_call G__law_letter (hr.mono (by decide)) (by rfl) T.d__law_letter.gl T.d__law_letter.fn.kp T.d__law_letter.bd (da_cons (de_var 1 (pv 1)) (da_cons (de_var 4 (pv 4)) da_nil))) (fun _ he => ps_set (i := 5) sc__law_acted.nd rfl (by first | exact .inl rfl | exact .inr rfl) he))
      (dss_one (ds_if (dt_cmp (ov_ne hr.units) (de_var 5 (pv 5)) de_str (nomark _)) (dss_one (ds_set 3 (de_call G__law_one (hr.mono (by decide)) (by rfl) T.d__law_one.gl T.d__law_one.fn.kp T.d__law_one.bd (da_cons (de_var 3 (pv 3)) (da_cons (de_call G__law_matrix (hr.mono (by decide)) (by rfl) T.d__law_matrix.gl T.d__law_matrix.fn.kp T.d__law_matrix.bd (da_cons (de_var 5 (pv 5)) da_nil)) (da_cons (de_var 4 (pv 4)) da_nil)))) (fun _ he => ps_set (i := 3) sc__law_acted.nd rfl (by first | exact .inl rfl | exact .inr rfl) he))) dss_nil))))
      (dss_one (ds_ret (de_new (dn_lc (own := [("one", 6)]) rfl sc__law_acted.nd (di_list (de_var 3 (pv 3))) (blkOk_by (N := ["state", "pauli", "many", "found", "qubit", "name", "one"]) (sc := defScope s__law_acted) (by decide +kernel)) (tg_one (by decide)) (fun _ _ _ _ _ => pg_name (i := 6) sc__law_acted.nd rfl (Or.inl rfl)) (fun _ _ _ _ _ => pts_x0) (fun _ _ _ _ _ => (de_call G_times (hr.mono (by decide)) (by rfl) T.d_times.gl T.d_times.fn.kp T.d_times.bd (da_cons (de_call G_root (hr.mono (by decide)) (by rfl) T.d_root.gl T.d_root.fn.kp T.d_root.bd (da_cons (de_op ov_mulS de_int (de_ix (de_var 1 (pv 1)) de_int (fun _ _ => rfl))) da_nil)) (da_cons (de_var 6 (pv 6)) da_nil))))))))))
theorem ok_gate (T : Txt K w mg A B) : FnOk P w K mg base (L2.CX P w) 5 (A 27) (B 27) ["state", "name", "qubits"] (spOfX K 3 sp_gate) := by
  have G_root : FnOk P w K mg base CX0 1 (A 22) (B 22) ["n"] (spOf K 1 sp_root) := ok_root T
  have G_mixed : FnOk P w K mg base CX0 4 (A 26) (B 26) ["state", "bit"] (spOf K 2 sp_mixed) := ok_mixed T
  have G_times : FnOk P w K mg base CX0 2 (A 20) (B 20) ["x", "y"] (spOf K 2 sp_times) := ok_times T
  have G_negative : FnOk P w K mg base CX0 1 (A 18) (B 18) ["x"] (spOf K 1 sp_negative) := ok_negative T
  refine fn_okX (ws := w_gate) T.d_gate.fn sc_gate rfl (fun cdv A outer s H E hr => ?_) pk_gate
  exact (dss_cons (ds_set 3 (de_op ov_shl de_int (de_ix (de_var 2 (pv 2)) de_int (fun _ _ => rfl))) (fun _ he => ps_set (i := 3) sc_gate.nd rfl (by first | exact .inl rfl | exact .inr rfl) he))
      (dss_cons (ds_set 4 (de_rng (by rfl) T.z_range (de_cb cv_len (by rfl) T.z_len (by decide +kernel) (da_cons (de_var 0 (pv 0)) da_nil))) (fun _ he => ps_set (i := 4) sc_gate.nd rfl (by first | exact .inl rfl | exact .inr rfl) he))
      (dss_cons (ds_if (dt_cmp (ov_inD (Room65 hr)) (de_var 1 (pv 1)) (T.c_PAIRS.de rfl) (by rfl)) (dss_cons (ds_set 6 (de_op ov_shl de_int (de_ix (de_var 2 (pv 2)) de_int (fun _ _ => rfl))) (fun _ he => ps_set (i := 6) sc_gate.nd rfl (by first | exact .inl rfl | exact .inr rfl) he))
      (dss_cons (ds_if (dt_cmp (ov_eq hr.units) (de_var 1 (pv 1)) de_str (nomark _)) (dss_one (ds_ret (de_new (dn_lc (own := [("index", 7)]) rfl sc_gate.nd (di_rngV (de_var 4 (pv 4))) (blkOk_by (N := ["state", "name", "qubits", "bit", "every", "factor", "other", "index"]) (sc := defScope s_gate) (by decide +kernel)) (tg_one (by decide)) (fun _ _ _ _ _ => pg_name (i := 7) sc_gate.nd rfl (Or.inl rfl)) (fun _ _ _ _ _ => pts_x0) (fun _ _ _ _ _ => (de_ix (de_var 0 (pv 0)) (de_if (dt_tru (de_op ov_and (de_var 7 (pv 7)) (de_var 3 (pv 3)))) (de_op ov_xor (de_var 7 (pv 7)) (de_var 6 (pv 6))) (de_var 7 (pv 7))) (fun _ _ => rfl))))))) dss_nil)
      (dss_one (ds_ret (de_new (dn_lc (own := [("index", 7)]) rfl sc_gate.nd (di_rngV (de_var 4 (pv 4))) (blkOk_by (N := ["state", "name", "qubits", "bit", "every", "factor", "other", "index"]) (sc := defScope s_gate) (by decide +kernel)) (tg_one (by decide)) (fun _ _ _ _ _ => pg_name (i := 7) sc_gate.nd rfl (Or.inl rfl)) (fun _ _ _ _ _ => pts_x0) (fun _ _ _ _ _ => (de_if (DW.pt (dw_and (dt_tru (de_op ov_and (de_var 7 (pv 7)) (de_var 3 (pv 3)))) (dw_and1 (dt_tru (de_op ov_and (de_var 7 (pv 7)) (de_var 6 (pv 6))))))) (de_call G_negative (hr.mono (by decide)) (by rfl) T.d_negative.gl T.d_negative.fn.kp T.d_negative.bd (da_cons (de_ix (de_var 0 (pv 0)) (de_var 7 (pv 7)) (fun _ _ => rfl)) da_nil)) (de_ix (de_var 0 (pv 0)) (de_var 7 (pv 7)) (fun _ _ => rfl)))))))))) dss_nil)
      (dss_cons (ds_if (dt_cmp (ov_eq hr.units) (de_var 1 (pv 1)) de_str (nomark _)) (dss_one (ds_ret (de_call G_mixed (hr.mono (by decide)) (by rfl) T.d_mixed.gl T.d_mixed.fn.kp T.d_mixed.bd (da_cons (de_var 0 (pv 0)) (da_cons (de_var 3 (pv 3)) da_nil))))) dss_nil)
      (dss_cons (ds_if (dt_cmp (ov_eq hr.units) (de_var 1 (pv 1)) de_str (nomark _)) (dss_one (ds_ret (de_new (dn_lc (own := [("index", 7)]) rfl sc_gate.nd (di_rngV (de_var 4 (pv 4))) (blkOk_by (N := ["state", "name", "qubits", "bit", "every", "factor", "other", "index"]) (sc := defScope s_gate) (by decide +kernel)) (tg_one (by decide)) (fun _ _ _ _ _ => pg_name (i := 7) sc_gate.nd rfl (Or.inl rfl)) (fun _ _ _ _ _ => pts_x0) (fun _ _ _ _ _ => (de_ix (de_var 0 (pv 0)) (de_op ov_xor (de_var 7 (pv 7)) (de_var 3 (pv 3))) (fun _ _ => rfl))))))) dss_nil)
      (dss_cons (ds_if (dt_cmp (ov_eq hr.units) (de_var 1 (pv 1)) de_str (nomark _)) (dss_one (ds_ret (de_new (dn_lc (own := [("index", 7)]) rfl sc_gate.nd (di_rngV (de_var 4 (pv 4))) (blkOk_by (N := ["state", "name", "qubits", "bit", "every", "factor", "other", "index"]) (sc := defScope s_gate) (by decide +kernel)) (tg_one (by decide)) (fun _ _ _ _ _ => pg_name (i := 7) sc_gate.nd rfl (Or.inl rfl)) (fun _ _ _ _ _ => pts_x0) (fun _ _ _ _ _ => (de_call G_times (hr.mono (by decide)) (by rfl) T.d_times.gl T.d_times.fn.kp T.d_times.bd (da_cons (de_call G_root (hr.mono (by decide)) (by rfl) T.d_root.gl T.d_root.fn.kp T.d_root.bd (da_cons (de_if (dt_tru (de_op ov_and (de_var 7 (pv 7)) (de_var 3 (pv 3)))) de_int de_int) da_nil)) (da_cons (de_ix (de_var 0 (pv 0)) (de_op ov_xor (de_var 7 (pv 7)) (de_var 3 (pv 3))) (fun _ _ => rfl)) da_nil)))))))) dss_nil)
      (dss_cons (ds_if (T.c_FACTORS.tnotin (by rfl) (de_var 1 (pv 1))) (dss_one (ds_raise rfl (takes_of rfl rfl rfl rfl) (pmk_own0 PySem.F.excBase_ValueError T.x_NotValid.xP T.x_NotValid.gC T.x_NotValid.kP (raises_own T.x_NotValid.bP T.x_NotValid.tP) (by rfl)))) dss_nil)
      (dss_cons (ds_set 5 (de_call G_root (hr.mono (by decide)) (by rfl) T.d_root.gl T.d_root.fn.kp T.d_root.bd (da_cons (T.c_FACTORS.de (by rfl) (de_var 1 (pv 1)) (fun _ _ => rfl)) da_nil)) (fun _ he => ps_set (i := 5) sc_gate.nd rfl (by first | exact .inl rfl | exact .inr rfl) he))
      (dss_one (ds_ret (de_new (dn_lc (own := [("index", 7)]) rfl sc_gate.nd (di_rngV (de_var 4 (pv 4))) (blkOk_by (N := ["state", "name", "qubits", "bit", "every", "factor", "other", "index"]) (sc := defScope s_gate) (by decide +kernel)) (tg_one (by decide)) (fun _ _ _ _ _ => pg_name (i := 7) sc_gate.nd rfl (Or.inl rfl)) (fun _ _ _ _ _ => pts_x0) (fun _ _ _ _ _ => (de_if (dt_tru (de_op ov_and (de_var 7 (pv 7)) (de_var 3 (pv 3)))) (de_call G_times (hr.mono (by decide)) (by rfl) T.d_times.gl T.d_times.fn.kp T.d_times.bd (da_cons (de_var 5 (pv 5)) (da_cons (de_ix (de_var 0 (pv 0)) (de_var 7 (pv 7)) (fun _ _ => rfl)) da_nil))) (de_ix (de_var 0 (pv 0)) (de_var 7 (pv 7)) (fun _ _ => rfl))))))))))))))))
theorem ok_expected (T : Txt K w mg A B) : FnOk P w K mg base CX0 5 (A 31) (B 31) ["state", "pauli"] (spOf K 2 sp_expected) := by
  have G_minus : FnOk P w K mg base CX0 3 (A 19) (B 19) ["x", "y"] (spOf K 2 sp_minus) := ok_minus T
  have G_norm : FnOk P w K mg base CX0 4 (A 30) (B 30) ["state"] (spOf K 1 sp_norm) := ok_norm T
  have G_projected : FnOk P w K mg base CX0 4 (A 29) (B 29) ["state", "pauli", "bit"] (spOf K 3 sp_projected) := ok_projected T
  refine fn_ok (ws := w_expected) T.d_expected.fn sc_expected rfl (fun cdv A outer s H E hr => ?_) pk_expected
  exact (dss_one (ds_ret (de_call G_minus (hr.mono (by decide)) (by rfl) T.d_minus.gl T.d_minus.fn.kp T.d_minus.bd (da_cons (de_call G_norm (hr.mono (by decide)) (by rfl) T.d_norm.gl T.d_norm.fn.kp T.d_norm.bd (da_cons (de_call G_projected (hr.mono (by decide)) (by rfl) T.d_projected.gl T.d_projected.fn.kp T.d_projected.bd (da_cons (de_var 0 (pv 0)) (da_cons (de_var 1 (pv 1)) (da_cons de_int da_nil)))) da_nil)) (da_cons (de_call G_norm (hr.mono (by decide)) (by rfl) T.d_norm.gl T.d_norm.fn.kp T.d_norm.bd (da_cons (de_call G_projected (hr.mono (by decide)) (by rfl) T.d_projected.gl T.d_projected.fn.kp T.d_projected.bd (da_cons (de_var 0 (pv 0)) (da_cons (de_var 1 (pv 1)) (da_cons de_int da_nil)))) da_nil)) da_nil)))))
theorem ok__law_projected (T : Txt K w mg A B) : FnOk P w K mg base CX0 5 (A 38) (B 38) ["state", "pauli", "bit", "many"] (spOf K 4 sp__law_projected) := by
  have G__law_acted : FnOk P w K mg base CX0 4 (A 37) (B 37) ["state", "pauli", "many"] (spOf K 3 sp__law_acted) := ok__law_acted T
  have G_times : FnOk P w K mg base CX0 2 (A 20) (B 20) ["x", "y"] (spOf K 2 sp_times) := ok_times T
  have G_plus : FnOk P w K mg base CX0 2 (A 17) (B 17) ["x", "y"] (spOf K 2 sp_plus) := ok_plus T
  have G_root : FnOk P w K mg base CX0 1 (A 22) (B 22) ["n"] (spOf K 1 sp_root) := ok_root T
  refine fn_ok (ws := w__law_projected) T.d__law_projected.fn sc__law_projected rfl (fun cdv A outer s H E hr => ?_) pk__law_projected
  exact (dss_cons (ds_set 4 (de_call G__law_acted (hr.mono (by decide)) (by rfl) T.d__law_acted.gl T.d__law_acted.fn.kp T.d__law_acted.bd (da_cons (de_var 0 (pv 0)) (da_cons (de_var 1 (pv 1)) (da_cons (de_var 3 (pv 3)) da_nil)))) (fun _ he => ps_set (i := 4) sc__law_projected.nd rfl (by first | exact .inl rfl | exact .inr rfl) he))
      (dss_one (ds_ret (de_new (dn_lc (own := [("k", 5)]) rfl sc__law_projected.nd (di_rng1 (by rfl) T.z_range (da_cons (de_cb cv_len (by rfl) T.z_len (by decide +kernel) (da_cons (de_var 0 (pv 0)) da_nil)) da_nil)) (blkOk_by (N := ["state", "pauli", "bit", "many", "other", "k"]) (sc := defScope s__law_projected) (by decide +kernel)) (tg_one (by decide)) (fun _ _ _ _ _ => pg_name (i := 5) sc__law_projected.nd rfl (Or.inl rfl)) (fun _ _ _ _ _ => pts_x0) (fun _ _ _ _ _ => (de_call G_times (hr.mono (by decide)) (by rfl) T.d_times.gl T.d_times.fn.kp T.d_times.bd (da_cons (de_tup (da_cons de_int (da_cons de_int (da_cons de_int (da_cons de_int (da_cons de_int da_nil)))))) (da_cons (de_call G_plus (hr.mono (by decide)) (by rfl) T.d_plus.gl T.d_plus.fn.kp T.d_plus.bd (da_cons (de_ix (de_var 0 (pv 0)) (de_var 5 (pv 5)) (fun _ _ => rfl)) (da_cons (de_call G_times (hr.mono (by decide)) (by rfl) T.d_times.gl T.d_times.fn.kp T.d_times.bd (da_cons (de_call G_root (hr.mono (by decide)) (by rfl) T.d_root.gl T.d_root.fn.kp T.d_root.bd (da_cons (de_op ov_mulS de_int (de_var 2 (pv 2))) da_nil)) (da_cons (de_ix (de_var 4 (pv 4)) (de_var 5 (pv 5)) (fun _ _ => rfl)) da_nil))) da_nil))) da_nil)))))))))
theorem ok__law_turned (T : Txt K w mg A B) : FnOk P w K mg base CX0 6 (A 39) (B 39) ["state", "pauli", "many"] (spOf K 3 sp__law_turned) := by
  have G__law_projected : FnOk P w K mg base CX0 5 (A 38) (B 38) ["state", "pauli", "bit", "many"] (spOf K 4 sp__law_projected) := ok__law_projected T
  have G_plus : FnOk P w K mg base CX0 2 (A 17) (B 17) ["x", "y"] (spOf K 2 sp_plus) := ok_plus T
  have G_times : FnOk P w K mg base CX0 2 (A 20) (B 20) ["x", "y"] (spOf K 2 sp_times) := ok_times T
  have G_root : FnOk P w K mg base CX0 1 (A 22) (B 22) ["n"] (spOf K 1 sp_root) := ok_root T
  refine fn_ok (ws := w__law_turned) T.d__law_turned.fn sc__law_turned rfl (fun cdv A outer s H E hr => ?_) pk__law_turned
  exact (dss_cons (ds_set 3 (de_call G__law_projected (hr.mono (by decide)) (by rfl) T.d__law_projected.gl T.d__law_projected.fn.kp T.d__law_projected.bd (da_cons (de_var 0 (pv 0)) (da_cons (de_var 1 (pv 1)) (da_cons de_int (da_cons (de_var 2 (pv 2)) da_nil))))) (fun _ he => ps_set (i := 3) sc__law_turned.nd rfl (by first | exact .inl rfl | exact .inr rfl) he))
      (dss_cons (ds_set 4 (de_call G__law_projected (hr.mono (by decide)) (by rfl) T.d__law_projected.gl T.d__law_projected.fn.kp T.d__law_projected.bd (da_cons (de_var 0 (pv 0)) (da_cons (de_var 1 (pv 1)) (da_cons de_int (da_cons (de_var 2 (pv 2)) da_nil))))) (fun _ he => ps_set (i := 4) sc__law_turned.nd rfl (by first | exact .inl rfl | exact .inr rfl) he))
      (dss_one (ds_ret (de_new (dn_lc (own := [("k", 5)]) rfl sc__law_turned.nd (di_rng1 (by rfl) T.z_range (da_cons (de_cb cv_len (by rfl) T.z_len (by decide +kernel) (da_cons (de_var 0 (pv 0)) da_nil)) da_nil)) (blkOk_by (N := ["state", "pauli", "many", "one", "other", "k"]) (sc := defScope s__law_turned) (by decide +kernel)) (tg_one (by decide)) (fun _ _ _ _ _ => pg_name (i := 5) sc__law_turned.nd rfl (Or.inl rfl)) (fun _ _ _ _ _ => pts_x0) (fun _ _ _ _ _ => (de_call G_plus (hr.mono (by decide)) (by rfl) T.d_plus.gl T.d_plus.fn.kp T.d_plus.bd (da_cons (de_ix (de_var 3 (pv 3)) (de_var 5 (pv 5)) (fun _ _ => rfl)) (da_cons (de_call G_times (hr.mono (by decide)) (by rfl) T.d_times.gl T.d_times.fn.kp T.d_times.bd (da_cons (de_call G_root (hr.mono (by decide)) (by rfl) T.d_root.gl T.d_root.fn.kp T.d_root.bd (da_cons de_int da_nil)) (da_cons (de_ix (de_var 4 (pv 4)) (de_var 5 (pv 5)) (fun _ _ => rfl)) da_nil))) da_nil))))))))))
theorem ok__law_state (T : Txt K w mg A B) : FnOk P w K mg base CX0 6 (A 42) (B 42) ["tape", "many"] (spOf K 2 sp__law_state) := by
  have G_zeros : FnOk P w K mg base CX0 1 (A 25) (B 25) ["m"] (spOf K 1 sp_zeros) := ok_zeros T
  have G__law_next : FnOk P w K mg base CX0 1 (A 32) (B 32) ["tape", "many"] (spOf K 2 sp__law_next) := ok__law_next T
  have G_gate : FnOk P w K mg base (L2.CX P w) 5 (A 27) (B 27) ["state", "name", "qubits"] (spOfX K 3 sp_gate) := ok_gate T
  refine fn_ok (ws := w__law_state) T.d__law_state.fn sc__law_state rfl (fun cdv A outer s H E hr => ?_) pk__law_state
  exact (dss_cons (ds_set 2 (de_call G_zeros (hr.mono (by decide)) (by rfl) T.d_zeros.gl T.d_zeros.fn.kp T.d_zeros.bd (da_cons (de_var 1 (pv 1)) da_nil)) (fun _ he => ps_set (i := 2) sc__law_state.nd rfl (by first | exact .inl rfl | exact .inr rfl) he))
      (dss_cons (ds_for PassesOwn.never rfl (di_rng1 (by rfl) T.z_range (da_cons de_int da_nil)) (dg_var 3 (pg_name (i := 3) sc__law_state.nd rfl (by first | exact .inl rfl | exact .inr rfl))) (dss_cons (ds_set 4 (de_call G__law_next (hr.mono (by decide)) (by rfl) T.d__law_next.gl T.d__law_next.fn.kp T.d__law_next.bd (da_cons (de_var 0 (pv 0)) (da_cons (de_var 1 (pv 1)) da_nil))) (fun _ he => ps_set (i := 4) sc__law_state.nd rfl (by first | exact .inl rfl | exact .inr rfl) he))
      (dss_cons (ds_set 5 (de_call G__law_next (hr.mono (by decide)) (by rfl) T.d__law_next.gl T.d__law_next.fn.kp T.d__law_next.bd (da_cons (de_var 0 (pv 0)) (da_cons de_int da_nil))) (fun _ he => ps_set (i := 5) sc__law_state.nd rfl (by first | exact .inl rfl | exact .inr rfl) he))
      (dss_one (ds_if (DW.pt (dw_or (dt_cmp ov_lt (de_var 5 (pv 5)) de_int (nomark _)) (dw_or1 (dt_cmp (ov_eq hr.units) (de_var 1 (pv 1)) de_int (nomark _))))) (dss_one (ds_set 2 (de_callL G_gate (hr.mono (by decide)) (by rfl) T.d_gate.gl T.d_gate.fn.kp T.d_gate.bd (da_cons (de_var 2 (pv 2)) (da_cons (de_ix (de_new (dn_lst (da_cons de_str (da_cons de_str (da_cons de_str (da_cons de_str (da_cons de_str da_nil))))))) (de_var 5 (pv 5)) (fun _ _ => rfl)) (da_cons (de_tup (da_cons (de_var 4 (pv 4)) da_nil)) da_nil)))) (fun _ he => ps_set (i := 2) sc__law_state.nd rfl (by first | exact .inl rfl | exact .inr rfl) he))) (dss_one (ds_set 2 (de_callL G_gate (hr.mono (by decide)) (by rfl) T.d_gate.gl T.d_gate.fn.kp T.d_gate.bd (da_cons (de_var 2 (pv 2)) (da_cons de_str (da_cons (de_tup (da_cons (de_var 4 (pv 4)) (da_cons (de_op ov_mod (de_op ov_add (de_var 4 (pv 4)) de_int) (de_var 1 (pv 1))) da_nil))) da_nil)))) (fun _ he => ps_set (i := 2) sc__law_state.nd rfl (by first | exact .inl rfl | exact .inr rfl) he))))))))
      (dss_one (ds_ret (de_var 2 (pv 2))))))
theorem ok_law (T : Txt K w mg A B) : FnOk P w K mg base CX0 7 (A 43) (B 43) ["script"] (spOf K 1 sp_law) := by
  have G_Frame___init__ : FnOk P w K mg base CX0 1 (A 5) (B 5) ["self"] (spOf K 1 sp_Frame___init__) := ok_Frame___init__ T
  have G__law_state : FnOk P w K mg base CX0 6 (A 42) (B 42) ["tape", "many"] (spOf K 2 sp__law_state) := ok__law_state T
  have G__law_next : FnOk P w K mg base CX0 1 (A 32) (B 32) ["tape", "many"] (spOf K 2 sp__law_next) := ok__law_next T
  have G_Frame_add : FnOk P w K mg base (L2.CX P w) 2 (A 7) (B 7) ["self", "name", "slot"] (spOfX K 3 sp_Frame_add) := ok_Frame_add T
  have G_Frame_gate : FnOk P w K mg base (L2.CX P w) 4 (A 11) (B 11) ["self", "name", "qubits"] (spOfX K 3 sp_Frame_gate) := ok_Frame_gate T
  have G_Frame_names : FnOk P w K mg base CX0 1 (A 6) (B 6) ["self"] (spOf K 1 sp_Frame_names) := ok_Frame_names T
  have G__law_turned : FnOk P w K mg base CX0 6 (A 39) (B 39) ["state", "pauli", "many"] (spOf K 3 sp__law_turned) := ok__law_turned T
  have G__law_image : FnOk P w K mg base CX0 3 (A 41) (B 41) ["frame", "pauli", "names"] (spOf K 3 sp__law_image) := ok__law_image T
  have G_Frame_turn : FnOk P w K mg base CX0 3 (A 13) (B 13) ["self", "pauli"] (spOf K 2 sp_Frame_turn) := ok_Frame_turn T
  have G_Frame_flip : FnOk P w K mg base CX0 3 (A 14) (B 14) ["self", "pauli"] (spOf K 2 sp_Frame_flip) := ok_Frame_flip T
  have G__law_acted : FnOk P w K mg base CX0 4 (A 37) (B 37) ["state", "pauli", "many"] (spOf K 3 sp__law_acted) := ok__law_acted T
  have G__law_gate : FnOk P w K mg base CX0 4 (A 35) (B 35) ["state", "name", "qubits"] (spOf K 3 sp__law_gate) := ok__law_gate T
  have G_expected : FnOk P w K mg base CX0 5 (A 31) (B 31) ["state", "pauli"] (spOf K 2 sp_expected) := ok_expected T
  refine fn_ok (ws := w_law) T.d_law.fn sc_law rfl (fun cdv A outer s H E hr => ?_) pk_law
  exact (dss_cons (ds_setM 1 (dn_lst (da_cons (de_cty (cv_lstS rfl) (by rfl) T.z_list (by decide +kernel) (da_cons (de_var 0 (pv 0)) da_nil)) (da_cons de_int (da_cons de_int (da_cons de_int da_nil))))) (fun _ he => ps_set (i := 1) sc_law.nd rfl (by first | exact .inl rfl | exact .inr rfl) he))
      (dss_cons (ds_set 2 (de_op ov_add de_int (de_call G__law_next (hr.mono (by decide)) (by rfl) T.d__law_next.gl T.d__law_next.fn.kp T.d__law_next.bd (da_cons (de_var 1 (pv 1)) (da_cons de_int da_nil)))) (fun _ he => ps_set (i := 2) sc_law.nd rfl (by first | exact .inl rfl | exact .inr rfl) he))
      (dss_cons (ds_set 3 (de_sl (de_new (dn_lst (da_cons de_str (da_cons de_str (da_cons de_str da_nil))))) do_none (do_some (de_var 2 (pv 2)))) (fun _ he => ps_set (i := 3) sc_law.nd rfl (by first | exact .inl rfl | exact .inr rfl) he))
      (dss_cons (ds_set 4 (de_make0 T.d_Frame___init__.mkr G_Frame___init__ (hr.mono (by decide)) (by rfl) T.d_Frame___init__.gl T.d_Frame___init__.bd) (fun _ he => ps_set (i := 4) sc_law.nd rfl (by first | exact .inl rfl | exact .inr rfl) he))
      (dss_cons (ds_for PassesOwn.never rfl (di_rng1 (by rfl) T.z_range (da_cons (de_var 2 (pv 2)) da_nil)) (dg_var 5 (pg_name (i := 5) sc_law.nd rfl (by first | exact .inl rfl | exact .inr rfl))) (dss_one (ds_expr (de_methL (de_var 4 (pv 4)) T.k_Frame T.d_Frame_add.mt G_Frame_add (hr.mono (by decide)) T.d_Frame_add.bd (da_cons (de_ix (de_var 3 (pv 3)) (de_var 5 (pv 5)) (fun _ _ => rfl)) (da_cons (de_var 5 (pv 5)) da_nil))))))
      (dss_cons (ds_set 6 (de_call G__law_state (hr.mono (by decide)) (by rfl) T.d__law_state.gl T.d__law_state.fn.kp T.d__law_state.bd (da_cons (de_var 1 (pv 1)) (da_cons (de_var 2 (pv 2)) da_nil))) (fun _ he => ps_set (i := 6) sc_law.nd rfl (by first | exact .inl rfl | exact .inr rfl) he))
      (dss_cons (ds_set 7 (de_new (dn_lst da_nil)) (fun _ he => ps_set (i := 7) sc_law.nd rfl (by first | exact .inl rfl | exact .inr rfl) he))
      (dss_cons (ds_for PassesOwn.never rfl (di_rng1 (by rfl) T.z_range (da_cons (de_call G__law_next (hr.mono (by decide)) (by rfl) T.d__law_next.gl T.d__law_next.fn.kp T.d__law_next.bd (da_cons (de_var 1 (pv 1)) (da_cons de_int da_nil))) da_nil)) (dg_var 8 (pg_name (i := 8) sc_law.nd rfl (by first | exact .inl rfl | exact .inr rfl))) (dss_cons (ds_set 11 (de_call G__law_next (hr.mono (by decide)) (by rfl) T.d__law_next.gl T.d__law_next.fn.kp T.d__law_next.bd (da_cons (de_var 1 (pv 1)) (da_cons de_int da_nil))) (fun _ he => ps_set (i := 11) sc_law.nd rfl (by first | exact .inl rfl | exact .inr rfl) he))
      (dss_cons (ds_set 12 (de_call G__law_next (hr.mono (by decide)) (by rfl) T.d__law_next.gl T.d__law_next.fn.kp T.d__law_next.bd (da_cons (de_var 1 (pv 1)) (da_cons (de_var 2 (pv 2)) da_nil))) (fun _ he => ps_set (i := 12) sc_law.nd rfl (by first | exact .inl rfl | exact .inr rfl) he))
      (dss_cons (ds_if (dt_cmp ov_gt (de_var 11 (pv 11)) de_int (nomark _)) (dss_cons (ds_set 18 (de_tup (da_cons (de_call G__law_next (hr.mono (by decide)) (by rfl) T.d__law_next.gl T.d__law_next.fn.kp T.d__law_next.bd (da_cons (de_var 1 (pv 1)) (da_cons (de_op ov_shl de_int (de_var 2 (pv 2))) da_nil))) (da_cons (de_call G__law_next (hr.mono (by decide)) (by rfl) T.d__law_next.gl T.d__law_next.fn.kp T.d__law_next.bd (da_cons (de_var 1 (pv 1)) (da_cons (de_op ov_shl de_int (de_var 2 (pv 2))) da_nil))) (da_cons (de_call G__law_next (hr.mono (by decide)) (by rfl) T.d__law_next.gl T.d__law_next.fn.kp T.d__law_next.bd (da_cons (de_var 1 (pv 1)) (da_cons de_int da_nil))) da_nil)))) (fun _ he => ps_set (i := 18) sc_law.nd rfl (by first | exact .inl rfl | exact .inr rfl) he))
      (dss_cons (ds_if (dt_cmp (ov_eq hr.units) (de_var 11 (pv 11)) de_int (nomark _)) (dss_one (ds_expr (de_meth (de_var 4 (pv 4)) T.k_Frame T.d_Frame_turn.mt G_Frame_turn (hr.mono (by decide)) T.d_Frame_turn.bd (da_cons (de_var 18 (pv 18)) da_nil)))) (dss_one (ds_expr (de_meth (de_var 4 (pv 4)) T.k_Frame T.d_Frame_flip.mt G_Frame_flip (hr.mono (by decide)) T.d_Frame_flip.bd (da_cons (de_var 18 (pv 18)) da_nil)))))
      (dss_cons (ds_set 7 (de_op ov_add (de_new (dn_lst (da_cons (de_tup (da_cons (de_ix (de_new (dn_lst (da_cons de_str (da_cons de_str da_nil)))) (de_op ov_sub (de_var 11 (pv 11)) de_int) (fun _ _ => rfl)) (da_cons (de_var 18 (pv 18)) da_nil))) da_nil))) (de_var 7 (pv 7))) (fun _ he => ps_set (i := 7) sc_law.nd rfl (by first | exact .inl rfl | exact .inr rfl) he))
      (dss_one ds_cont)))) dss_nil)
      (dss_cons (ds_set 13 (de_ix (de_new (dn_lst (da_cons de_str (da_cons de_str (da_cons de_str (da_cons de_str (da_cons de_str (da_cons de_str (da_cons de_str (da_cons de_str da_nil)))))))))) (de_var 11 (pv 11)) (fun _ _ => rfl)) (fun _ he => ps_set (i := 13) sc_law.nd rfl (by first | exact .inl rfl | exact .inr rfl) he))
      (dss_cons (ds_set 14 (de_op ov_mod (de_op ov_add (de_var 12 (pv 12)) de_int) (de_var 2 (pv 2))) (fun _ he => ps_set (i := 14) sc_law.nd rfl (by first | exact .inl rfl | exact .inr rfl) he))
      (dss_cons (ds_if (DW.pt (dw_and (dt_cmp ov_gt (de_var 11 (pv 11)) de_int (nomark _)) (dw_and1 (dt_cmp (ov_eq hr.units) (de_var 2 (pv 2)) de_int (nomark _))))) (dss_one ds_cont) dss_nil)
      (dss_cons (ds_set 15 (de_if (dt_cmp ov_gt (de_var 11 (pv 11)) de_int (nomark _)) (de_tup (da_cons (de_var 12 (pv 12)) (da_cons (de_var 14 (pv 14)) da_nil))) (de_tup (da_cons (de_var 12 (pv 12)) da_nil))) (fun _ he => ps_set (i := 15) sc_law.nd rfl (by first | exact .inl rfl | exact .inr rfl) he))
      (dss_cons (ds_expr (de_methL (de_var 4 (pv 4)) T.k_Frame T.d_Frame_gate.mt G_Frame_gate (hr.mono (by decide)) T.d_Frame_gate.bd (da_cons (de_var 13 (pv 13)) (da_cons (de_cty cv_tup (by rfl) T.z_tuple (by decide +kernel) (da_cons (de_new (dn_lc (own := [("one", 20)]) rfl sc_law.nd (di_tup (de_var 15 (pv 15))) (blkOk_by (N := ["script", "tape", "many", "names", "frame", "slot", "stored", "steps", "turn", "state", "x", "kind", "first", "name", "second", "places", "what", "z", "pauli", "image", "one"]) (sc := defScope s_law) (by decide +kernel)) (tg_one (by decide)) (fun _ _ _ _ _ => pg_name (i := 20) sc_law.nd rfl (Or.inl rfl)) (fun _ _ _ _ _ => pts_x0) (fun _ _ _ _ _ => (de_ix (de_var 3 (pv 3)) (de_var 20 (pv 20)) (fun _ _ => rfl))))) da_nil)) da_nil))))
      (dss_one (ds_set 7 (de_op ov_add (de_var 7 (pv 7)) (de_new (dn_lst (da_cons (de_tup (da_cons (de_var 13 (pv 13)) (da_cons (de_var 15 (pv 15)) da_nil))) da_nil)))) (fun _ he => ps_set (i := 7) sc_law.nd rfl (by first | exact .inl rfl | exact .inr rfl) he))))))))))))
      (dss_cons (ds_set 9 (de_var 6 (pv 6)) (fun _ he => ps_set (i := 9) sc_law.nd rfl (by first | exact .inl rfl | exact .inr rfl) he))
      (dss_cons (ds_for PassesOwn.never rfl (di_list (de_var 7 (pv 7))) (dg_tup rfl (dgs_cons (dg_var 13 (pg_name (i := 13) sc_law.nd rfl (by first | exact .inl rfl | exact .inr rfl))) (dgs_cons (dg_var 16 (pg_name (i := 16) sc_law.nd rfl (by first | exact .inl rfl | exact .inr rfl))) dgs_nil))) (dss_one (ds_if (dt_cmp (ov_eq hr.units) (de_var 13 (pv 13)) de_str (nomark _)) (dss_one (ds_set 9 (de_call G__law_turned (hr.mono (by decide)) (by rfl) T.d__law_turned.gl T.d__law_turned.fn.kp T.d__law_turned.bd (da_cons (de_var 9 (pv 9)) (da_cons (de_var 16 (pv 16)) (da_cons (de_var 2 (pv 2)) da_nil)))) (fun _ he => ps_set (i := 9) sc_law.nd rfl (by first | exact .inl rfl | exact .inr rfl) he))) (dss_one (ds_if (dt_cmp (ov_eq hr.units) (de_var 13 (pv 13)) de_str (nomark _)) (dss_one (ds_set 9 (de_call G__law_acted (hr.mono (by decide)) (by rfl) T.d__law_acted.gl T.d__law_acted.fn.kp T.d__law_acted.bd (da_cons (de_var 9 (pv 9)) (da_cons (de_var 16 (pv 16)) (da_cons (de_var 2 (pv 2)) da_nil)))) (fun _ he => ps_set (i := 9) sc_law.nd rfl (by first | exact .inl rfl | exact .inr rfl) he))) (dss_one (ds_set 9 (de_call G__law_gate (hr.mono (by decide)) (by rfl) T.d__law_gate.gl T.d__law_gate.fn.kp T.d__law_gate.bd (da_cons (de_var 9 (pv 9)) (da_cons (de_var 13 (pv 13)) (da_cons (de_var 16 (pv 16)) da_nil)))) (fun _ he => ps_set (i := 9) sc_law.nd rfl (by first | exact .inl rfl | exact .inr rfl) he))))))))
      (dss_cons (ds_if (dt_cmp (ov_ne hr.units) (de_meth0 (de_var 4 (pv 4)) T.k_Frame T.d_Frame_names.mt G_Frame_names (hr.mono (by decide)) T.d_Frame_names.bd) (de_var 3 (pv 3)) (nomark _)) (dss_one (ds_ret de_bl)) dss_nil)
      (dss_cons (ds_for PassesOwn.never rfl (di_rng1 (by rfl) T.z_range (da_cons (de_op ov_shl de_int (de_var 2 (pv 2))) da_nil)) (dg_var 10 (pg_name (i := 10) sc_law.nd rfl (by first | exact .inl rfl | exact .inr rfl))) (dss_one (ds_for PassesOwn.never rfl (di_rng1 (by rfl) T.z_range (da_cons (de_op ov_shl de_int (de_var 2 (pv 2))) da_nil)) (dg_var 17 (pg_name (i := 17) sc_law.nd rfl (by first | exact .inl rfl | exact .inr rfl))) (dss_cons (ds_set 19 (de_call G__law_image (hr.mono (by decide)) (by rfl) T.d__law_image.gl T.d__law_image.fn.kp T.d__law_image.bd (da_cons (de_var 4 (pv 4)) (da_cons (de_tup (da_cons (de_var 10 (pv 10)) (da_cons (de_var 17 (pv 17)) (da_cons de_int da_nil)))) (da_cons (de_var 3 (pv 3)) da_nil)))) (fun _ he => ps_set (i := 19) sc_law.nd rfl (by first | exact .inl rfl | exact .inr rfl) he))
      (dss_one (ds_if (DW.pt (dw_or (dt_cmp ov_isN (de_var 19 (pv 19)) de_non (nomark _)) (dw_or1 (dt_cmp (ov_ne hr.units) (de_call G_expected (hr.mono (by decide)) (by rfl) T.d_expected.gl T.d_expected.fn.kp T.d_expected.bd (da_cons (de_var 6 (pv 6)) (da_cons (de_var 19 (pv 19)) da_nil))) (de_call G_expected (hr.mono (by decide)) (by rfl) T.d_expected.gl T.d_expected.fn.kp T.d_expected.bd (da_cons (de_var 9 (pv 9)) (da_cons (de_tup (da_cons (de_var 10 (pv 10)) (da_cons (de_var 17 (pv 17)) (da_cons de_int da_nil)))) da_nil))) (nomark _))))) (dss_one (ds_ret de_bl)) dss_nil))))))
      (dss_one (ds_ret de_bl))))))))))))))
end
end K36

set_option Elab.async false
set_option linter.all false
set_option maxRecDepth 100000
set_option maxHeartbeats 4000000
namespace K36
open PySem PySem.Spec L2 VL
theorem all_mk {l : PySem.W.OpenLaw} {w : World} {K : PySem.W.Frag} {h : Heap} {mg : Str → Option Value} {fa : Addr} (X : K.In h) (G : h.Ns mainGlobals mg) (hfa : mg "law" = some (.ref fa))
    {f0 f1 f2 f3 f4 f5 f6 f7 f8 f9 f10 f11 f12 f13 f14 f15 f16 f17 f18 f19 f20 f21 f22 f23 f24 f25 f26 f27 f28 f29 f30 f31 f32 f33 f34 f35 f36 f37 f38 f39 f40 f41 f42 f43 C_Frame C_NotValid : Addr} {od0 an0 od1 an1 od2 an2 od3 an3 od4 an4 od5 an5 od6 an6 od7 an7 od8 an8 od9 an9 od10 an10 od11 an11 od12 an12 od13 an13 od14 an14 od15 an15 od16 an16 od17 an17 od18 an18 od19 an19 od20 an20 od21 an21 od22 an22 od23 an23 od24 an24 od25 an25 od26 an26 od27 an27 od28 an28 od29 an29 od30 an30 od31 an31 od32 an32 od33 an33 od34 an34 od35 an35 od36 an36 od37 an37 od38 an38 od39 an39 od40 an40 od41 an41 od42 an42 od43 an43 : Option Addr} {sl0 sl1 sl2 sl3 sl4 sl5 sl6 sl7 sl8 sl9 sl10 sl11 sl12 sl13 sl14 sl15 sl16 sl17 sl18 sl19 sl20 sl21 sl22 sl23 sl24 sl25 sl26 sl27 sl28 sl29 sl30 sl31 sl32 sl33 sl34 sl35 sl36 sl37 sl38 sl39 sl40 sl41 sl42 sl43 : Array (Option Value)} {oc0 kV0 dc0 pm0 cd0 ct0 oc1 kV1 dc1 pm1 cd1 ct1 oc2 kV2 dc2 pm2 cd2 ct2 oc3 kV3 dc3 pm3 cd3 ct3 oc4 kV4 dc4 pm4 cd4 ct4 oc5 kV5 dc5 pm5 cd5 ct5 oc6 kV6 dc6 pm6 cd6 ct6 oc7 kV7 dc7 pm7 cd7 ct7 oc8 kV8 dc8 pm8 cd8 ct8 oc9 kV9 dc9 pm9 cd9 ct9 oc10 kV10 dc10 pm10 cd10 ct10 oc11 kV11 dc11 pm11 cd11 ct11 oc12 kV12 dc12 pm12 cd12 ct12 oc13 kV13 dc13 pm13 cd13 ct13 oc14 kV14 dc14 pm14 cd14 ct14 oc15 kV15 dc15 pm15 cd15 ct15 oc16 kV16 dc16 pm16 cd16 ct16 oc17 kV17 dc17 pm17 cd17 ct17 oc18 kV18 dc18 pm18 cd18 ct18 oc19 kV19 dc19 pm19 cd19 ct19 oc20 kV20 dc20 pm20 cd20 ct20 oc21 kV21 dc21 pm21 cd21 ct21 oc22 kV22 dc22 pm22 cd22 ct22 oc23 kV23 dc23 pm23 cd23 ct23 oc24 kV24 dc24 pm24 cd24 ct24 oc25 kV25 dc25 pm25 cd25 ct25 oc26 kV26 dc26 pm26 cd26 ct26 oc27 kV27 dc27 pm27 cd27 ct27 oc28 kV28 dc28 pm28 cd28 ct28 oc29 kV29 dc29 pm29 cd29 ct29 oc30 kV30 dc30 pm30 cd30 ct30 oc31 kV31 dc31 pm31 cd31 ct31 oc32 kV32 dc32 pm32 cd32 ct32 oc33 kV33 dc33 pm33 cd33 ct33 oc34 kV34 dc34 pm34 cd34 ct34 oc35 kV35 dc35 pm35 cd35 ct35 oc36 kV36 dc36 pm36 cd36 ct36 oc37 kV37 dc37 pm37 cd37 ct37 oc38 kV38 dc38 pm38 cd38 ct38 oc39 kV39 dc39 pm39 cd39 ct39 oc40 kV40 dc40 pm40 cd40 ct40 oc41 kV41 dc41 pm41 cd41 ct41 oc42 kV42 dc42 pm42 cd42 ct42 oc43 kV43 dc43 pm43 cd43 ct43 : Value} {tNAMES : Tok} {pZERO : Addr} {ocZERO : Option Addr} {nZERO : Nat} {slZERO : Array (Option Value)} {tZERO0 tZERO1 tZERO2 tZERO3 tZERO4 : Tok} {pONE : Addr} {ocONE : Option Addr} {nONE : Nat} {slONE : Array (Option Value)} {tONE0 tONE1 tONE2 tONE3 tONE4 : Tok} {pHALF : Addr} {ocHALF : Option Addr} {nHALF : Nat} {slHALF : Array (Option Value)} {tHALF0 tHALF1 tHALF2 tHALF3 tHALF4 : Tok} {pROOT : Addr} {ocROOT : Option Addr} {nROOT : Nat} {slROOT : Array (Option Value)} {tROOT0 tROOT1 tROOT2 tROOT3 tROOT4 : Tok} {pPAIRS : Addr} {ocPAIRS : Option Addr} {nPAIRS : Nat} {slPAIRS : Array (Option Value)} {tPAIRS0 tPAIRS1 : Tok} {pFACTORS : Addr} {esFACTORS : Array DictEntry} {nFACTORS : Nat} {tFACTORS0_1 : Tok} {tFACTORS1_2 : Tok} {tFACTORS2_3 : Tok} {tFACTORS3_4 : Tok} {tFACTORS4_5 : Tok}
    (aC_Frame : PySem.W.nsIn K mainGlobals "Frame" = some (some (.ref C_Frame))) (pg_Frame : PySem.W.plainGet K C_Frame Str.empty = true) (hd_Frame : PySem.W.hasDictIn K C_Frame = true) (po_Frame : PySem.W.plainOver K C_Frame = true) (sa_Frame : PySem.W.findIn K (.ref C_Frame) "__setattr__" = some (some (.builtin "object.__setattr__"))) (mk_Frame : PySem.W.makesIn K C_Frame = true) (kc_Frame : PySem.W.keepIn K (.ref C_Frame) = true)
    (n_Frame_rows : PySem.W.findIn K (.ref C_Frame) "rows" = some none)
    (aC_NotValid : PySem.W.nsIn K mainGlobals "NotValid" = some (some (.ref C_NotValid))) (xP_NotValid : PySem.W.excIn K C_NotValid [.type "ValueError", .type "Exception", .type "BaseException", .type "object"] "ValueError.__new__" = true) (kP_NotValid : PySem.W.keepIn K (.ref C_NotValid) = true) (bP_NotValid : PySem.W.subIn K (.ref C_NotValid) (.type "BaseException") = some true) (tP_NotValid : PySem.W.typeIn K (.ref C_NotValid) = some (.type "type")) (iP_NotValid : PySem.W.isClsIn K C_NotValid = true) (sP_NotValid : PySem.W.subIn K (.ref C_NotValid) (.ref C_NotValid) = some true)
    (a0 : PySem.W.nsIn K mainGlobals "ones_paulis" = some (some (.ref f0))) (l0 : K.lookup f0 = some ⟨oc0, od0, .func (PySem.W.fnOf "ones" "ones" (defArgs s_ones_paulis) (defBody s_ones_paulis) (defScope s_ones_paulis) .none kV0 dc0 pm0 an0 cd0 ct0), sl0⟩) (c0 : PySem.W.codeIn K cd0 "ones" = true) (k0 : PySem.W.keepIn K (.ref f0) = true)
    (a1 : PySem.W.nsIn K mainGlobals "commutes" = some (some (.ref f1))) (l1 : K.lookup f1 = some ⟨oc1, od1, .func (PySem.W.fnOf "commutes" "commutes" (defArgs s_commutes) (defBody s_commutes) (defScope s_commutes) .none kV1 dc1 pm1 an1 cd1 ct1), sl1⟩) (c1 : PySem.W.codeIn K cd1 "commutes" = true) (k1 : PySem.W.keepIn K (.ref f1) = true)
    (a2 : PySem.W.nsIn K mainGlobals "product" = some (some (.ref f2))) (l2 : K.lookup f2 = some ⟨oc2, od2, .func (PySem.W.fnOf "product" "product" (defArgs s_product) (defBody s_product) (defScope s_product) .none kV2 dc2 pm2 an2 cd2 ct2), sl2⟩) (c2 : PySem.W.codeIn K cd2 "product" = true) (k2 : PySem.W.keepIn K (.ref f2) = true)
    (a3 : PySem.W.nsIn K mainGlobals "single" = some (some (.ref f3))) (l3 : K.lookup f3 = some ⟨oc3, od3, .func (PySem.W.fnOf "single" "single" (defArgs s_single) (defBody s_single) (defScope s_single) .none kV3 dc3 pm3 an3 cd3 ct3), sl3⟩) (c3 : PySem.W.codeIn K cd3 "single" = true) (k3 : PySem.W.keepIn K (.ref f3) = true)
    (a4 : PySem.W.nsIn K mainGlobals "turned" = some (some (.ref f4))) (l4 : K.lookup f4 = some ⟨oc4, od4, .func (PySem.W.fnOf "turned" "turned" (defArgs s_turned) (defBody s_turned) (defScope s_turned) .none kV4 dc4 pm4 an4 cd4 ct4), sl4⟩) (c4 : PySem.W.codeIn K cd4 "turned" = true) (k4 : PySem.W.keepIn K (.ref f4) = true)
    (a5 : PySem.W.findIn K (.ref C_Frame) "__init__" = some (some (.ref f5))) (i5 : PySem.W.isFn K (.ref f5) = true) (l5 : K.lookup f5 = some ⟨oc5, od5, .func (PySem.W.fnOf "__init__" "Frame.__init__" (defArgs s_Frame___init__) (defBody s_Frame___init__) (defScope s_Frame___init__) .none kV5 dc5 pm5 an5 cd5 ct5), sl5⟩) (c5 : PySem.W.codeIn K cd5 "Frame.__init__" = true) (k5 : PySem.W.keepIn K (.ref f5) = true)
    (a6 : PySem.W.findIn K (.ref C_Frame) "names" = some (some (.ref f6))) (i6 : PySem.W.isFn K (.ref f6) = true) (l6 : K.lookup f6 = some ⟨oc6, od6, .func (PySem.W.fnOf "names" "Frame.names" (defArgs s_Frame_names) (defBody s_Frame_names) (defScope s_Frame_names) .none kV6 dc6 pm6 an6 cd6 ct6), sl6⟩) (c6 : PySem.W.codeIn K cd6 "Frame.names" = true) (k6 : PySem.W.keepIn K (.ref f6) = true)
    (a7 : PySem.W.findIn K (.ref C_Frame) "add" = some (some (.ref f7))) (i7 : PySem.W.isFn K (.ref f7) = true) (l7 : K.lookup f7 = some ⟨oc7, od7, .func (PySem.W.fnOf "add" "Frame.add" (defArgs s_Frame_add) (defBody s_Frame_add) (defScope s_Frame_add) .none kV7 dc7 pm7 an7 cd7 ct7), sl7⟩) (c7 : PySem.W.codeIn K cd7 "Frame.add" = true) (k7 : PySem.W.keepIn K (.ref f7) = true)
    (a8 : PySem.W.findIn K (.ref C_Frame) "x" = some (some (.ref f8))) (i8 : PySem.W.isFn K (.ref f8) = true) (l8 : K.lookup f8 = some ⟨oc8, od8, .func (PySem.W.fnOf "x" "Frame.x" (defArgs s_Frame_x) (defBody s_Frame_x) (defScope s_Frame_x) .none kV8 dc8 pm8 an8 cd8 ct8), sl8⟩) (c8 : PySem.W.codeIn K cd8 "Frame.x" = true) (k8 : PySem.W.keepIn K (.ref f8) = true)
    (a9 : PySem.W.findIn K (.ref C_Frame) "z" = some (some (.ref f9))) (i9 : PySem.W.isFn K (.ref f9) = true) (l9 : K.lookup f9 = some ⟨oc9, od9, .func (PySem.W.fnOf "z" "Frame.z" (defArgs s_Frame_z) (defBody s_Frame_z) (defScope s_Frame_z) .none kV9 dc9 pm9 an9 cd9 ct9), sl9⟩) (c9 : PySem.W.codeIn K cd9 "Frame.z" = true) (k9 : PySem.W.keepIn K (.ref f9) = true)
    (a10 : PySem.W.findIn K (.ref C_Frame) "put" = some (some (.ref f10))) (i10 : PySem.W.isFn K (.ref f10) = true) (l10 : K.lookup f10 = some ⟨oc10, od10, .func (PySem.W.fnOf "put" "Frame.put" (defArgs s_Frame_put) (defBody s_Frame_put) (defScope s_Frame_put) .none kV10 dc10 pm10 an10 cd10 ct10), sl10⟩) (c10 : PySem.W.codeIn K cd10 "Frame.put" = true) (k10 : PySem.W.keepIn K (.ref f10) = true)
    (a11 : PySem.W.findIn K (.ref C_Frame) "gate" = some (some (.ref f11))) (i11 : PySem.W.isFn K (.ref f11) = true) (l11 : K.lookup f11 = some ⟨oc11, od11, .func (PySem.W.fnOf "gate" "Frame.gate" (defArgs s_Frame_gate) (defBody s_Frame_gate) (defScope s_Frame_gate) .none kV11 dc11 pm11 an11 cd11 ct11), sl11⟩) (c11 : PySem.W.codeIn K cd11 "Frame.gate" = true) (k11 : PySem.W.keepIn K (.ref f11) = true)
    (a12 : PySem.W.findIn K (.ref C_Frame) "pair" = some (some (.ref f12))) (i12 : PySem.W.isFn K (.ref f12) = true) (l12 : K.lookup f12 = some ⟨oc12, od12, .func (PySem.W.fnOf "pair" "Frame.pair" (defArgs s_Frame_pair) (defBody s_Frame_pair) (defScope s_Frame_pair) .none kV12 dc12 pm12 an12 cd12 ct12), sl12⟩) (c12 : PySem.W.codeIn K cd12 "Frame.pair" = true) (k12 : PySem.W.keepIn K (.ref f12) = true)
    (a13 : PySem.W.findIn K (.ref C_Frame) "turn" = some (some (.ref f13))) (i13 : PySem.W.isFn K (.ref f13) = true) (l13 : K.lookup f13 = some ⟨oc13, od13, .func (PySem.W.fnOf "turn" "Frame.turn" (defArgs s_Frame_turn) (defBody s_Frame_turn) (defScope s_Frame_turn) .none kV13 dc13 pm13 an13 cd13 ct13), sl13⟩) (c13 : PySem.W.codeIn K cd13 "Frame.turn" = true) (k13 : PySem.W.keepIn K (.ref f13) = true)
    (a14 : PySem.W.findIn K (.ref C_Frame) "flip" = some (some (.ref f14))) (i14 : PySem.W.isFn K (.ref f14) = true) (l14 : K.lookup f14 = some ⟨oc14, od14, .func (PySem.W.fnOf "flip" "Frame.flip" (defArgs s_Frame_flip) (defBody s_Frame_flip) (defScope s_Frame_flip) .none kV14 dc14 pm14 an14 cd14 ct14), sl14⟩) (c14 : PySem.W.codeIn K cd14 "Frame.flip" = true) (k14 : PySem.W.keepIn K (.ref f14) = true)
    (a15 : PySem.W.nsIn K mainGlobals "formed" = some (some (.ref f15))) (l15 : K.lookup f15 = some ⟨oc15, od15, .func (PySem.W.fnOf "formed" "formed" (defArgs s_formed) (defBody s_formed) (defScope s_formed) .none kV15 dc15 pm15 an15 cd15 ct15), sl15⟩) (c15 : PySem.W.codeIn K cd15 "formed" = true) (k15 : PySem.W.keepIn K (.ref f15) = true)
    (a16 : PySem.W.nsIn K mainGlobals "raised" = some (some (.ref f16))) (l16 : K.lookup f16 = some ⟨oc16, od16, .func (PySem.W.fnOf "raised" "raised" (defArgs s_raised) (defBody s_raised) (defScope s_raised) .none kV16 dc16 pm16 an16 cd16 ct16), sl16⟩) (c16 : PySem.W.codeIn K cd16 "raised" = true) (k16 : PySem.W.keepIn K (.ref f16) = true)
    (a17 : PySem.W.nsIn K mainGlobals "plus" = some (some (.ref f17))) (l17 : K.lookup f17 = some ⟨oc17, od17, .func (PySem.W.fnOf "plus" "plus" (defArgs s_plus) (defBody s_plus) (defScope s_plus) .none kV17 dc17 pm17 an17 cd17 ct17), sl17⟩) (c17 : PySem.W.codeIn K cd17 "plus" = true) (k17 : PySem.W.keepIn K (.ref f17) = true)
    (a18 : PySem.W.nsIn K mainGlobals "negative" = some (some (.ref f18))) (l18 : K.lookup f18 = some ⟨oc18, od18, .func (PySem.W.fnOf "negative" "negative" (defArgs s_negative) (defBody s_negative) (defScope s_negative) .none kV18 dc18 pm18 an18 cd18 ct18), sl18⟩) (c18 : PySem.W.codeIn K cd18 "negative" = true) (k18 : PySem.W.keepIn K (.ref f18) = true)
    (a19 : PySem.W.nsIn K mainGlobals "minus" = some (some (.ref f19))) (l19 : K.lookup f19 = some ⟨oc19, od19, .func (PySem.W.fnOf "minus" "minus" (defArgs s_minus) (defBody s_minus) (defScope s_minus) .none kV19 dc19 pm19 an19 cd19 ct19), sl19⟩) (c19 : PySem.W.codeIn K cd19 "minus" = true) (k19 : PySem.W.keepIn K (.ref f19) = true)
    (a20 : PySem.W.nsIn K mainGlobals "times" = some (some (.ref f20))) (l20 : K.lookup f20 = some ⟨oc20, od20, .func (PySem.W.fnOf "times" "times" (defArgs s_times) (defBody s_times) (defScope s_times) .none kV20 dc20 pm20 an20 cd20 ct20), sl20⟩) (c20 : PySem.W.codeIn K cd20 "times" = true) (k20 : PySem.W.keepIn K (.ref f20) = true)
    (a21 : PySem.W.nsIn K mainGlobals "conjugate" = some (some (.ref f21))) (l21 : K.lookup f21 = some ⟨oc21, od21, .func (PySem.W.fnOf "conjugate" "conjugate" (defArgs s_conjugate) (defBody s_conjugate) (defScope s_conjugate) .none kV21 dc21 pm21 an21 cd21 ct21), sl21⟩) (c21 : PySem.W.codeIn K cd21 "conjugate" = true) (k21 : PySem.W.keepIn K (.ref f21) = true)
    (a22 : PySem.W.nsIn K mainGlobals "root" = some (some (.ref f22))) (l22 : K.lookup f22 = some ⟨oc22, od22, .func (PySem.W.fnOf "root" "root" (defArgs s_root) (defBody s_root) (defScope s_root) .none kV22 dc22 pm22 an22 cd22 ct22), sl22⟩) (c22 : PySem.W.codeIn K cd22 "root" = true) (k22 : PySem.W.keepIn K (.ref f22) = true)
    (a23 : PySem.W.nsIn K mainGlobals "total" = some (some (.ref f23))) (l23 : K.lookup f23 = some ⟨oc23, od23, .func (PySem.W.fnOf "total" "total" (defArgs s_total) (defBody s_total) (defScope s_total) .none kV23 dc23 pm23 an23 cd23 ct23), sl23⟩) (c23 : PySem.W.codeIn K cd23 "total" = true) (k23 : PySem.W.keepIn K (.ref f23) = true)
    (a24 : PySem.W.nsIn K mainGlobals "ones_states" = some (some (.ref f24))) (l24 : K.lookup f24 = some ⟨oc24, od24, .func (PySem.W.fnOf "ones" "ones" (defArgs s_ones_states) (defBody s_ones_states) (defScope s_ones_states) .none kV24 dc24 pm24 an24 cd24 ct24), sl24⟩) (c24 : PySem.W.codeIn K cd24 "ones" = true) (k24 : PySem.W.keepIn K (.ref f24) = true)
    (a25 : PySem.W.nsIn K mainGlobals "zeros" = some (some (.ref f25))) (l25 : K.lookup f25 = some ⟨oc25, od25, .func (PySem.W.fnOf "zeros" "zeros" (defArgs s_zeros) (defBody s_zeros) (defScope s_zeros) .none kV25 dc25 pm25 an25 cd25 ct25), sl25⟩) (c25 : PySem.W.codeIn K cd25 "zeros" = true) (k25 : PySem.W.keepIn K (.ref f25) = true)
    (a26 : PySem.W.nsIn K mainGlobals "mixed" = some (some (.ref f26))) (l26 : K.lookup f26 = some ⟨oc26, od26, .func (PySem.W.fnOf "mixed" "mixed" (defArgs s_mixed) (defBody s_mixed) (defScope s_mixed) .none kV26 dc26 pm26 an26 cd26 ct26), sl26⟩) (c26 : PySem.W.codeIn K cd26 "mixed" = true) (k26 : PySem.W.keepIn K (.ref f26) = true)
    (a27 : PySem.W.nsIn K mainGlobals "gate" = some (some (.ref f27))) (l27 : K.lookup f27 = some ⟨oc27, od27, .func (PySem.W.fnOf "gate" "gate" (defArgs s_gate) (defBody s_gate) (defScope s_gate) .none kV27 dc27 pm27 an27 cd27 ct27), sl27⟩) (c27 : PySem.W.codeIn K cd27 "gate" = true) (k27 : PySem.W.keepIn K (.ref f27) = true)
    (a28 : PySem.W.nsIn K mainGlobals "acted" = some (some (.ref f28))) (l28 : K.lookup f28 = some ⟨oc28, od28, .func (PySem.W.fnOf "acted" "acted" (defArgs s_acted) (defBody s_acted) (defScope s_acted) .none kV28 dc28 pm28 an28 cd28 ct28), sl28⟩) (c28 : PySem.W.codeIn K cd28 "acted" = true) (k28 : PySem.W.keepIn K (.ref f28) = true)
    (a29 : PySem.W.nsIn K mainGlobals "projected" = some (some (.ref f29))) (l29 : K.lookup f29 = some ⟨oc29, od29, .func (PySem.W.fnOf "projected" "projected" (defArgs s_projected) (defBody s_projected) (defScope s_projected) .none kV29 dc29 pm29 an29 cd29 ct29), sl29⟩) (c29 : PySem.W.codeIn K cd29 "projected" = true) (k29 : PySem.W.keepIn K (.ref f29) = true)
    (a30 : PySem.W.nsIn K mainGlobals "norm" = some (some (.ref f30))) (l30 : K.lookup f30 = some ⟨oc30, od30, .func (PySem.W.fnOf "norm" "norm" (defArgs s_norm) (defBody s_norm) (defScope s_norm) .none kV30 dc30 pm30 an30 cd30 ct30), sl30⟩) (c30 : PySem.W.codeIn K cd30 "norm" = true) (k30 : PySem.W.keepIn K (.ref f30) = true)
    (a31 : PySem.W.nsIn K mainGlobals "expected" = some (some (.ref f31))) (l31 : K.lookup f31 = some ⟨oc31, od31, .func (PySem.W.fnOf "expected" "expected" (defArgs s_expected) (defBody s_expected) (defScope s_expected) .none kV31 dc31 pm31 an31 cd31 ct31), sl31⟩) (c31 : PySem.W.codeIn K cd31 "expected" = true) (k31 : PySem.W.keepIn K (.ref f31) = true)
    (a32 : PySem.W.nsIn K mainGlobals "_law_next" = some (some (.ref f32))) (l32 : K.lookup f32 = some ⟨oc32, od32, .func (PySem.W.fnOf "_law_next" "_law_next" (defArgs s__law_next) (defBody s__law_next) (defScope s__law_next) .none kV32 dc32 pm32 an32 cd32 ct32), sl32⟩) (c32 : PySem.W.codeIn K cd32 "_law_next" = true) (k32 : PySem.W.keepIn K (.ref f32) = true)
    (a33 : PySem.W.nsIn K mainGlobals "_law_matrix" = some (some (.ref f33))) (l33 : K.lookup f33 = some ⟨oc33, od33, .func (PySem.W.fnOf "_law_matrix" "_law_matrix" (defArgs s__law_matrix) (defBody s__law_matrix) (defScope s__law_matrix) .none kV33 dc33 pm33 an33 cd33 ct33), sl33⟩) (c33 : PySem.W.codeIn K cd33 "_law_matrix" = true) (k33 : PySem.W.keepIn K (.ref f33) = true)
    (a34 : PySem.W.nsIn K mainGlobals "_law_one" = some (some (.ref f34))) (l34 : K.lookup f34 = some ⟨oc34, od34, .func (PySem.W.fnOf "_law_one" "_law_one" (defArgs s__law_one) (defBody s__law_one) (defScope s__law_one) .none kV34 dc34 pm34 an34 cd34 ct34), sl34⟩) (c34 : PySem.W.codeIn K cd34 "_law_one" = true) (k34 : PySem.W.keepIn K (.ref f34) = true)
    (a35 : PySem.W.nsIn K mainGlobals "_law_gate" = some (some (.ref f35))) (l35 : K.lookup f35 = some ⟨oc35, od35, .func (PySem.W.fnOf "_law_gate" "_law_gate" (defArgs s__law_gate) (defBody s__law_gate) (defScope s__law_gate) .none kV35 dc35 pm35 an35 cd35 ct35), sl35⟩) (c35 : PySem.W.codeIn K cd35 "_law_gate" = true) (k35 : PySem.W.keepIn K (.ref f35) = true)
    (a36 : PySem.W.nsIn K mainGlobals "_law_letter" = some (some (.ref f36))) (l36 : K.lookup f36 = some ⟨oc36, od36, .func (PySem.W.fnOf "_law_letter" "_law_letter" (defArgs s__law_letter) (defBody s__law_letter) (defScope s__law_letter) .none kV36 dc36 pm36 an36 cd36 ct36), sl36⟩) (c36 : PySem.W.codeIn K cd36 "_law_letter" = true) (k36 : PySem.W.keepIn K (.ref f36) = true)
    (a37 : PySem.W.nsIn K mainGlobals "_law_acted" = some (some (.ref f37))) (l37 : K.lookup f37 = some ⟨oc37, od37, .func (PySem.W.fnOf "_law_acted" "_law_acted" (defArgs s__law_acted) (defBody s__law_acted) (defScope s__law_acted) .none kV37 dc37 pm37 an37 cd37 ct37), sl37⟩) (c37 : PySem.W.codeIn K cd37 "_law_acted" = true) (k37 : PySem.W.keepIn K (.ref f37) = true)
    (a38 : PySem.W.nsIn K mainGlobals "_law_projected" = some (some (.ref f38))) (l38 : K.lookup f38 = some ⟨oc38, od38, .func (PySem.W.fnOf "_law_projected" "_law_projected" (defArgs s__law_projected) (defBody s__law_projected) (defScope s__law_projected) .none kV38 dc38 pm38 an38 cd38 ct38), sl38⟩) (c38 : PySem.W.codeIn K cd38 "_law_projected" = true) (k38 : PySem.W.keepIn K (.ref f38) = true)
    (a39 : PySem.W.nsIn K mainGlobals "_law_turned" = some (some (.ref f39))) (l39 : K.lookup f39 = some ⟨oc39, od39, .func (PySem.W.fnOf "_law_turned" "_law_turned" (defArgs s__law_turned) (defBody s__law_turned) (defScope s__law_turned) .none kV39 dc39 pm39 an39 cd39 ct39), sl39⟩) (c39 : PySem.W.codeIn K cd39 "_law_turned" = true) (k39 : PySem.W.keepIn K (.ref f39) = true)
    (a40 : PySem.W.nsIn K mainGlobals "_law_times" = some (some (.ref f40))) (l40 : K.lookup f40 = some ⟨oc40, od40, .func (PySem.W.fnOf "_law_times" "_law_times" (defArgs s__law_times) (defBody s__law_times) (defScope s__law_times) .none kV40 dc40 pm40 an40 cd40 ct40), sl40⟩) (c40 : PySem.W.codeIn K cd40 "_law_times" = true) (k40 : PySem.W.keepIn K (.ref f40) = true)
    (a41 : PySem.W.nsIn K mainGlobals "_law_image" = some (some (.ref f41))) (l41 : K.lookup f41 = some ⟨oc41, od41, .func (PySem.W.fnOf "_law_image" "_law_image" (defArgs s__law_image) (defBody s__law_image) (defScope s__law_image) .none kV41 dc41 pm41 an41 cd41 ct41), sl41⟩) (c41 : PySem.W.codeIn K cd41 "_law_image" = true) (k41 : PySem.W.keepIn K (.ref f41) = true)
    (a42 : PySem.W.nsIn K mainGlobals "_law_state" = some (some (.ref f42))) (l42 : K.lookup f42 = some ⟨oc42, od42, .func (PySem.W.fnOf "_law_state" "_law_state" (defArgs s__law_state) (defBody s__law_state) (defScope s__law_state) .none kV42 dc42 pm42 an42 cd42 ct42), sl42⟩) (c42 : PySem.W.codeIn K cd42 "_law_state" = true) (k42 : PySem.W.keepIn K (.ref f42) = true)
    (a43 : PySem.W.nsIn K mainGlobals "law" = some (some (.ref f43))) (l43 : K.lookup f43 = some ⟨oc43, od43, .func (PySem.W.fnOf "law" "law" (defArgs s_law) (defBody s_law) (defScope s_law) .none kV43 dc43 pm43 an43 cd43 ct43), sl43⟩) (c43 : PySem.W.codeIn K cd43 "law" = true) (k43 : PySem.W.keepIn K (.ref f43) = true)
    (z_len : PySem.W.nsIn K mainGlobals "len" = some none) (z_abs : PySem.W.nsIn K mainGlobals "abs" = some none) (z_max : PySem.W.nsIn K mainGlobals "max" = some none) (z_int : PySem.W.nsIn K mainGlobals "int" = some none) (z_tuple : PySem.W.nsIn K mainGlobals "tuple" = some none) (z_list : PySem.W.nsIn K mainGlobals "list" = some none) (z_range : PySem.W.nsIn K mainGlobals "range" = some none) (aNAMES : PySem.W.nsIn K mainGlobals "NAMES" = some (some (.str "IXZY" tNAMES))) (aZERO : PySem.W.nsIn K mainGlobals "ZERO" = some (some (.ref pZERO))) (lZERO : K.lookup pZERO = some ⟨.type "tuple", ocZERO, .seq #[.int 0 tZERO0, .int 0 tZERO1, .int 0 tZERO2, .int 0 tZERO3, .int 0 tZERO4] nZERO, slZERO⟩) (aONE : PySem.W.nsIn K mainGlobals "ONE" = some (some (.ref pONE))) (lONE : K.lookup pONE = some ⟨.type "tuple", ocONE, .seq #[.int 1 tONE0, .int 0 tONE1, .int 0 tONE2, .int 0 tONE3, .int 0 tONE4] nONE, slONE⟩) (aHALF : PySem.W.nsIn K mainGlobals "HALF" = some (some (.ref pHALF))) (lHALF : K.lookup pHALF = some ⟨.type "tuple", ocHALF, .seq #[.int 1 tHALF0, .int 0 tHALF1, .int 0 tHALF2, .int 0 tHALF3, .int 2 tHALF4] nHALF, slHALF⟩) (aROOT : PySem.W.nsIn K mainGlobals "ROOT" = some (some (.ref pROOT))) (lROOT : K.lookup pROOT = some ⟨.type "tuple", ocROOT, .seq #[.int 1 tROOT0, .int 0 tROOT1, .int 0 tROOT2, .int 0 tROOT3, .int 1 tROOT4] nROOT, slROOT⟩) (aPAIRS : PySem.W.nsIn K mainGlobals "PAIRS" = some (some (.ref pPAIRS))) (lPAIRS : K.lookup pPAIRS = some ⟨.type "tuple", ocPAIRS, .seq #[.str "CX" tPAIRS0, .str "CZ" tPAIRS1] nPAIRS, slPAIRS⟩) (aFACTORS : PySem.W.nsIn K mainGlobals "FACTORS" = some (some (.ref pFACTORS))) (lFACTORS : K.lookup pFACTORS = some ⟨.type "dict", none, .dict esFACTORS nFACTORS, #[]⟩) (kFACTORS : PySem.W.KeysLit w.params esFACTORS.toList) (sFACTORS : (pFACTORS == sysModules) = false) (eFACTORS_0 : PySem.W.nsIn K pFACTORS "Z" = some (some (.int 4 tFACTORS0_1))) (eFACTORS_1 : PySem.W.nsIn K pFACTORS "S" = some (some (.int 2 tFACTORS1_2))) (eFACTORS_2 : PySem.W.nsIn K pFACTORS "SI" = some (some (.int 6 tFACTORS2_3))) (eFACTORS_3 : PySem.W.nsIn K pFACTORS "T" = some (some (.int 1 tFACTORS3_4))) (eFACTORS_4 : PySem.W.nsIn K pFACTORS "TI" = some (some (.int 7 tFACTORS4_5))) :
    ∃ fd : FuncData, (∀ (s : Shared) (v : Value), BindsTo s fd ⟨[v], []⟩ [("script", v)]) ∧ ∀ base : Heap, K.In base → base.Ns mainGlobals mg → FnOk l.prog w K mg base CX0 7 fa fd ["script"] (spOf K 1 sp_law) := by
  have e := hfa.symm.trans (PySem.W.mg_of X G a43)
  cases e
  have eC_Frame := VL.clsAt_is aC_Frame
  subst eC_Frame
  have eC_NotValid := VL.clsAt_is aC_NotValid
  subst eC_NotValid
  have F0 := fun_mk (st := s_ones_paulis) l0 c0 k0
  have D0 : DefAs K mg "ones_paulis" "ones" s_ones_paulis ["mask"] f0 _ := ⟨F0, F0.binds fun _ _ _ _ _ _ us hl => match us, hl with | [_], _ => rfl, PySem.W.mg_of X G a0⟩
  have F1 := fun_mk (st := s_commutes) l1 c1 k1
  have D1 : DefAt K mg "commutes" s_commutes ["one", "other"] f1 _ := ⟨F1, F1.binds fun _ _ _ _ _ _ us hl => match us, hl with | [_, _], _ => rfl, PySem.W.mg_of X G a1⟩
  have F2 := fun_mk (st := s_product) l2 c2 k2
  have D2 : DefAt K mg "product" s_product ["one", "other"] f2 _ := ⟨F2, F2.binds fun _ _ _ _ _ _ us hl => match us, hl with | [_, _], _ => rfl, PySem.W.mg_of X G a2⟩
  have F3 := fun_mk (st := s_single) l3 c3 k3
  have D3 : DefAt K mg "single" s_single ["name", "qubit"] f3 _ := ⟨F3, F3.binds fun _ _ _ _ _ _ us hl => match us, hl with | [_, _], _ => rfl, PySem.W.mg_of X G a3⟩
  have F4 := fun_mk (st := s_turned) l4 c4 k4
  have D4 : DefAt K mg "turned" s_turned ["pauli", "bit"] f4 _ := ⟨F4, F4.binds fun _ _ _ _ _ _ us hl => match us, hl with | [_, _], _ => rfl, PySem.W.mg_of X G a4⟩
  have F5 := fun_mk (st := s_Frame___init__) l5 c5 k5
  have D5 : InitAt K mg "Frame" "Frame.__init__" s_Frame___init__ ["self"] f5 _ := ⟨F5, F5.binds fun _ _ _ _ _ _ us hl => match us, hl with | [_], _ => rfl, ⟨mk_Frame, a5, i5, kc_Frame⟩, PySem.W.mg_of X G aC_Frame⟩
  have F6 := fun_mk (st := s_Frame_names) l6 c6 k6
  have D6 : MethAt K "Frame" "names" "Frame.names" s_Frame_names ["self"] f6 _ := ⟨F6, F6.binds fun _ _ _ _ _ _ us hl => match us, hl with | [_], _ => rfl, ⟨a6, i6, k6⟩⟩
  have F7 := fun_mk (st := s_Frame_add) l7 c7 k7
  have D7 : MethAt K "Frame" "add" "Frame.add" s_Frame_add ["self", "name", "slot"] f7 _ := ⟨F7, F7.binds fun _ _ _ _ _ _ us hl => match us, hl with | [_, _, _], _ => rfl, ⟨a7, i7, k7⟩⟩
  have F8 := fun_mk (st := s_Frame_x) l8 c8 k8
  have D8 : MethAt K "Frame" "x" "Frame.x" s_Frame_x ["self", "name"] f8 _ := ⟨F8, F8.binds fun _ _ _ _ _ _ us hl => match us, hl with | [_, _], _ => rfl, ⟨a8, i8, k8⟩⟩
  have F9 := fun_mk (st := s_Frame_z) l9 c9 k9
  have D9 : MethAt K "Frame" "z" "Frame.z" s_Frame_z ["self", "name"] f9 _ := ⟨F9, F9.binds fun _ _ _ _ _ _ us hl => match us, hl with | [_, _], _ => rfl, ⟨a9, i9, k9⟩⟩
  have F10 := fun_mk (st := s_Frame_put) l10 c10 k10
  have D10 : MethAt K "Frame" "put" "Frame.put" s_Frame_put ["self", "name", "x", "z"] f10 _ := ⟨F10, F10.binds fun _ _ _ _ _ _ us hl => match us, hl with | [_, _, _, _], _ => rfl, ⟨a10, i10, k10⟩⟩
  have F11 := fun_mk (st := s_Frame_gate) l11 c11 k11
  have D11 : MethAt K "Frame" "gate" "Frame.gate" s_Frame_gate ["self", "name", "qubits"] f11 _ := ⟨F11, F11.binds fun _ _ _ _ _ _ us hl => match us, hl with | [_, _, _], _ => rfl, ⟨a11, i11, k11⟩⟩
  have F12 := fun_mk (st := s_Frame_pair) l12 c12 k12
  have D12 : MethAt K "Frame" "pair" "Frame.pair" s_Frame_pair ["self", "name", "first", "second"] f12 _ := ⟨F12, F12.binds fun _ _ _ _ _ _ us hl => match us, hl with | [_, _, _, _], _ => rfl, ⟨a12, i12, k12⟩⟩
  have F13 := fun_mk (st := s_Frame_turn) l13 c13 k13
  have D13 : MethAt K "Frame" "turn" "Frame.turn" s_Frame_turn ["self", "pauli"] f13 _ := ⟨F13, F13.binds fun _ _ _ _ _ _ us hl => match us, hl with | [_, _], _ => rfl, ⟨a13, i13, k13⟩⟩
  have F14 := fun_mk (st := s_Frame_flip) l14 c14 k14
  have D14 : MethAt K "Frame" "flip" "Frame.flip" s_Frame_flip ["self", "pauli"] f14 _ := ⟨F14, F14.binds fun _ _ _ _ _ _ us hl => match us, hl with | [_, _], _ => rfl, ⟨a14, i14, k14⟩⟩
  have F15 := fun_mk (st := s_formed) l15 c15 k15
  have D15 : DefAt K mg "formed" s_formed ["a", "b", "c", "d", "k"] f15 _ := ⟨F15, F15.binds fun _ _ _ _ _ _ us hl => match us, hl with | [_, _, _, _, _], _ => rfl, PySem.W.mg_of X G a15⟩
  have F16 := fun_mk (st := s_raised) l16 c16 k16
  have D16 : DefAt K mg "raised" s_raised ["x", "k"] f16 _ := ⟨F16, F16.binds fun _ _ _ _ _ _ us hl => match us, hl with | [_, _], _ => rfl, PySem.W.mg_of X G a16⟩
  have F17 := fun_mk (st := s_plus) l17 c17 k17
  have D17 : DefAt K mg "plus" s_plus ["x", "y"] f17 _ := ⟨F17, F17.binds fun _ _ _ _ _ _ us hl => match us, hl with | [_, _], _ => rfl, PySem.W.mg_of X G a17⟩
  have F18 := fun_mk (st := s_negative) l18 c18 k18
  have D18 : DefAt K mg "negative" s_negative ["x"] f18 _ := ⟨F18, F18.binds fun _ _ _ _ _ _ us hl => match us, hl with | [_], _ => rfl, PySem.W.mg_of X G a18⟩
  have F19 := fun_mk (st := s_minus) l19 c19 k19
  have D19 : DefAt K mg "minus" s_minus ["x", "y"] f19 _ := ⟨F19, F19.binds fun _ _ _ _ _ _ us hl => match us, hl with | [_, _], _ => rfl, PySem.W.mg_of X G a19⟩
  have F20 := fun_mk (st := s_times) l20 c20 k20
  have D20 : DefAt K mg "times" s_times ["x", "y"] f20 _ := ⟨F20, F20.binds fun _ _ _ _ _ _ us hl => match us, hl with | [_, _], _ => rfl, PySem.W.mg_of X G a20⟩
  have F21 := fun_mk (st := s_conjugate) l21 c21 k21
  have D21 : DefAt K mg "conjugate" s_conjugate ["x"] f21 _ := ⟨F21, F21.binds fun _ _ _ _ _ _ us hl => match us, hl with | [_], _ => rfl, PySem.W.mg_of X G a21⟩
  have F22 := fun_mk (st := s_root) l22 c22 k22
  have D22 : DefAt K mg "root" s_root ["n"] f22 _ := ⟨F22, F22.binds fun _ _ _ _ _ _ us hl => match us, hl with | [_], _ => rfl, PySem.W.mg_of X G a22⟩
  have F23 := fun_mk (st := s_total) l23 c23 k23
  have D23 : DefAt K mg "total" s_total ["numbers"] f23 _ := ⟨F23, F23.binds fun _ _ _ _ _ _ us hl => match us, hl with | [_], _ => rfl, PySem.W.mg_of X G a23⟩
  have F24 := fun_mk (st := s_ones_states) l24 c24 k24
  have D24 : DefAs K mg "ones_states" "ones" s_ones_states ["value"] f24 _ := ⟨F24, F24.binds fun _ _ _ _ _ _ us hl => match us, hl with | [_], _ => rfl, PySem.W.mg_of X G a24⟩
  have F25 := fun_mk (st := s_zeros) l25 c25 k25
  have D25 : DefAt K mg "zeros" s_zeros ["m"] f25 _ := ⟨F25, F25.binds fun _ _ _ _ _ _ us hl => match us, hl with | [_], _ => rfl, PySem.W.mg_of X G a25⟩
  have F26 := fun_mk (st := s_mixed) l26 c26 k26
  have D26 : DefAt K mg "mixed" s_mixed ["state", "bit"] f26 _ := ⟨F26, F26.binds fun _ _ _ _ _ _ us hl => match us, hl with | [_, _], _ => rfl, PySem.W.mg_of X G a26⟩
  have F27 := fun_mk (st := s_gate) l27 c27 k27
  have D27 : DefAt K mg "gate" s_gate ["state", "name", "qubits"] f27 _ := ⟨F27, F27.binds fun _ _ _ _ _ _ us hl => match us, hl with | [_, _, _], _ => rfl, PySem.W.mg_of X G a27⟩
  have F28 := fun_mk (st := s_acted) l28 c28 k28
  have D28 : DefAt K mg "acted" s_acted ["state", "pauli"] f28 _ := ⟨F28, F28.binds fun _ _ _ _ _ _ us hl => match us, hl with | [_, _], _ => rfl, PySem.W.mg_of X G a28⟩
  have F29 := fun_mk (st := s_projected) l29 c29 k29
  have D29 : DefAt K mg "projected" s_projected ["state", "pauli", "bit"] f29 _ := ⟨F29, F29.binds fun _ _ _ _ _ _ us hl => match us, hl with | [_, _, _], _ => rfl, PySem.W.mg_of X G a29⟩
  have F30 := fun_mk (st := s_norm) l30 c30 k30
  have D30 : DefAt K mg "norm" s_norm ["state"] f30 _ := ⟨F30, F30.binds fun _ _ _ _ _ _ us hl => match us, hl with | [_], _ => rfl, PySem.W.mg_of X G a30⟩
  have F31 := fun_mk (st := s_expected) l31 c31 k31
  have D31 : DefAt K mg "expected" s_expected ["state", "pauli"] f31 _ := ⟨F31, F31.binds fun _ _ _ _ _ _ us hl => match us, hl with | [_, _], _ => rfl, PySem.W.mg_of X G a31⟩
  have F32 := fun_mk (st := s__law_next) l32 c32 k32
  have D32 : DefAt K mg "_law_next" s__law_next ["tape", "many"] f32 _ := ⟨F32, F32.binds fun _ _ _ _ _ _ us hl => match us, hl with | [_, _], _ => rfl, PySem.W.mg_of X G a32⟩
  have F33 := fun_mk (st := s__law_matrix) l33 c33 k33
  have D33 : DefAt K mg "_law_matrix" s__law_matrix ["name"] f33 _ := ⟨F33, F33.binds fun _ _ _ _ _ _ us hl => match us, hl with | [_], _ => rfl, PySem.W.mg_of X G a33⟩
  have F34 := fun_mk (st := s__law_one) l34 c34 k34
  have D34 : DefAt K mg "_law_one" s__law_one ["state", "matrix", "qubit"] f34 _ := ⟨F34, F34.binds fun _ _ _ _ _ _ us hl => match us, hl with | [_, _, _], _ => rfl, PySem.W.mg_of X G a34⟩
  have F35 := fun_mk (st := s__law_gate) l35 c35 k35
  have D35 : DefAt K mg "_law_gate" s__law_gate ["state", "name", "qubits"] f35 _ := ⟨F35, F35.binds fun _ _ _ _ _ _ us hl => match us, hl with | [_, _, _], _ => rfl, PySem.W.mg_of X G a35⟩
  have F36 := fun_mk (st := s__law_letter) l36 c36 k36
  have D36 : DefAt K mg "_law_letter" s__law_letter ["pauli", "qubit"] f36 _ := ⟨F36, F36.binds fun _ _ _ _ _ _ us hl => match us, hl with | [_, _], _ => rfl, PySem.W.mg_of X G a36⟩
  have F37 := fun_mk (st := s__law_acted) l37 c37 k37
  have D37 : DefAt K mg "_law_acted" s__law_acted ["state", "pauli", "many"] f37 _ := ⟨F37, F37.binds fun _ _ _ _ _ _ us hl => match us, hl with | [_, _, _], _ => rfl, PySem.W.mg_of X G a37⟩
  have F38 := fun_mk (st := s__law_projected) l38 c38 k38
  have D38 : DefAt K mg "_law_projected" s__law_projected ["state", "pauli", "bit", "many"] f38 _ := ⟨F38, F38.binds fun _ _ _ _ _ _ us hl => match us, hl with | [_, _, _, _], _ => rfl, PySem.W.mg_of X G a38⟩
  have F39 := fun_mk (st := s__law_turned) l39 c39 k39
  have D39 : DefAt K mg "_law_turned" s__law_turned ["state", "pauli", "many"] f39 _ := ⟨F39, F39.binds fun _ _ _ _ _ _ us hl => match us, hl with | [_, _, _], _ => rfl, PySem.W.mg_of X G a39⟩
  have F40 := fun_mk (st := s__law_times) l40 c40 k40
  have D40 : DefAt K mg "_law_times" s__law_times ["one", "other"] f40 _ := ⟨F40, F40.binds fun _ _ _ _ _ _ us hl => match us, hl with | [_, _], _ => rfl, PySem.W.mg_of X G a40⟩
  have F41 := fun_mk (st := s__law_image) l41 c41 k41
  have D41 : DefAt K mg "_law_image" s__law_image ["frame", "pauli", "names"] f41 _ := ⟨F41, F41.binds fun _ _ _ _ _ _ us hl => match us, hl with | [_, _, _], _ => rfl, PySem.W.mg_of X G a41⟩
  have F42 := fun_mk (st := s__law_state) l42 c42 k42
  have D42 : DefAt K mg "_law_state" s__law_state ["tape", "many"] f42 _ := ⟨F42, F42.binds fun _ _ _ _ _ _ us hl => match us, hl with | [_, _], _ => rfl, PySem.W.mg_of X G a42⟩
  have F43 := fun_mk (st := s_law) l43 c43 k43
  have D43 : DefAt K mg "law" s_law ["script"] fa _ := ⟨F43, F43.binds fun _ _ _ _ _ _ us hl => match us, hl with | [_], _ => rfl, PySem.W.mg_of X G a43⟩
  have T : Txt K w mg (fun i => ([f0, f1, f2, f3, f4, f5, f6, f7, f8, f9, f10, f11, f12, f13, f14, f15, f16, f17, f18, f19, f20, f21, f22, f23, f24, f25, f26, f27, f28, f29, f30, f31, f32, f33, f34, f35, f36, f37, f38, f39, f40, f41, f42, fa] : List Addr).getD i 0) (fun i => ([PySem.W.fnOf "ones" "ones" (defArgs s_ones_paulis) (defBody s_ones_paulis) (defScope s_ones_paulis) .none kV0 dc0 pm0 an0 cd0 ct0, PySem.W.fnOf "commutes" "commutes" (defArgs s_commutes) (defBody s_commutes) (defScope s_commutes) .none kV1 dc1 pm1 an1 cd1 ct1, PySem.W.fnOf "product" "product" (defArgs s_product) (defBody s_product) (defScope s_product) .none kV2 dc2 pm2 an2 cd2 ct2, PySem.W.fnOf "single" "single" (defArgs s_single) (defBody s_single) (defScope s_single) .none kV3 dc3 pm3 an3 cd3 ct3, PySem.W.fnOf "turned" "turned" (defArgs s_turned) (defBody s_turned) (defScope s_turned) .none kV4 dc4 pm4 an4 cd4 ct4, PySem.W.fnOf "__init__" "Frame.__init__" (defArgs s_Frame___init__) (defBody s_Frame___init__) (defScope s_Frame___init__) .none kV5 dc5 pm5 an5 cd5 ct5, PySem.W.fnOf "names" "Frame.names" (defArgs s_Frame_names) (defBody s_Frame_names) (defScope s_Frame_names) .none kV6 dc6 pm6 an6 cd6 ct6, PySem.W.fnOf "add" "Frame.add" (defArgs s_Frame_add) (defBody s_Frame_add) (defScope s_Frame_add) .none kV7 dc7 pm7 an7 cd7 ct7, PySem.W.fnOf "x" "Frame.x" (defArgs s_Frame_x) (defBody s_Frame_x) (defScope s_Frame_x) .none kV8 dc8 pm8 an8 cd8 ct8, PySem.W.fnOf "z" "Frame.z" (defArgs s_Frame_z) (defBody s_Frame_z) (defScope s_Frame_z) .none kV9 dc9 pm9 an9 cd9 ct9, PySem.W.fnOf "put" "Frame.put" (defArgs s_Frame_put) (defBody s_Frame_put) (defScope s_Frame_put) .none kV10 dc10 pm10 an10 cd10 ct10, PySem.W.fnOf "gate" "Frame.gate" (defArgs s_Frame_gate) (defBody s_Frame_gate) (defScope s_Frame_gate) .none kV11 dc11 pm11 an11 cd11 ct11, PySem.W.fnOf "pair" "Frame.pair" (defArgs s_Frame_pair) (defBody s_Frame_pair) (defScope s_Frame_pair) .none kV12 dc12 pm12 an12 cd12 ct12, PySem.W.fnOf "turn" "Frame.turn" (defArgs s_Frame_turn) (defBody s_Frame_turn) (defScope s_Frame_turn) .none kV13 dc13 pm13 an13 cd13 ct13, PySem.W.fnOf "flip" "Frame.flip" (defArgs s_Frame_flip) (defBody s_Frame_flip) (defScope s_Frame_flip) .none kV14 dc14 pm14 an14 cd14 ct14, PySem.W.fnOf "formed" "formed" (defArgs s_formed) (defBody s_formed) (defScope s_formed) .none kV15 dc15 pm15 an15 cd15 ct15, PySem.W.fnOf "raised" "raised" (defArgs s_raised) (defBody s_raised) (defScope s_raised) .none kV16 dc16 pm16 an16 cd16 ct16, PySem.W.fnOf "plus" "plus" (defArgs s_plus) (defBody s_plus) (defScope s_plus) .none kV17 dc17 pm17 an17 cd17 ct17, PySem.W.fnOf "negative" "negative" (defArgs s_negative) (defBody s_negative) (defScope s_negative) .none kV18 dc18 pm18 an18 cd18 ct18, PySem.W.fnOf "minus" "minus" (defArgs s_minus) (defBody s_minus) (defScope s_minus) .none kV19 dc19 pm19 an19 cd19 ct19, PySem.W.fnOf "times" "times" (defArgs s_times) (defBody s_times) (defScope s_times) .none kV20 dc20 pm20 an20 cd20 ct20, PySem.W.fnOf "conjugate" "conjugate" (defArgs s_conjugate) (defBody s_conjugate) (defScope s_conjugate) .none kV21 dc21 pm21 an21 cd21 ct21, PySem.W.fnOf "root" "root" (defArgs s_root) (defBody s_root) (defScope s_root) .none kV22 dc22 pm22 an22 cd22 ct22, PySem.W.fnOf "total" "total" (defArgs s_total) (defBody s_total) (defScope s_total) .none kV23 dc23 pm23 an23 cd23 ct23, PySem.W.fnOf "ones" "ones" (defArgs s_ones_states) (defBody s_ones_states) (defScope s_ones_states) .none kV24 dc24 pm24 an24 cd24 ct24, PySem.W.fnOf "zeros" "zeros" (defArgs s_zeros) (defBody s_zeros) (defScope s_zeros) .none kV25 dc25 pm25 an25 cd25 ct25, PySem.W.fnOf "mixed" "mixed" (defArgs s_mixed) (defBody s_mixed) (defScope s_mixed) .none kV26 dc26 pm26 an26 cd26 ct26, PySem.W.fnOf "gate" "gate" (defArgs s_gate) (defBody s_gate) (defScope s_gate) .none kV27 dc27 pm27 an27 cd27 ct27, PySem.W.fnOf "acted" "acted" (defArgs s_acted) (defBody s_acted) (defScope s_acted) .none kV28 dc28 pm28 an28 cd28 ct28, PySem.W.fnOf "projected" "projected" (defArgs s_projected) (defBody s_projected) (defScope s_projected) .none kV29 dc29 pm29 an29 cd29 ct29, PySem.W.fnOf "norm" "norm" (defArgs s_norm) (defBody s_norm) (defScope s_norm) .none kV30 dc30 pm30 an30 cd30 ct30, PySem.W.fnOf "expected" "expected" (defArgs s_expected) (defBody s_expected) (defScope s_expected) .none kV31 dc31 pm31 an31 cd31 ct31, PySem.W.fnOf "_law_next" "_law_next" (defArgs s__law_next) (defBody s__law_next) (defScope s__law_next) .none kV32 dc32 pm32 an32 cd32 ct32, PySem.W.fnOf "_law_matrix" "_law_matrix" (defArgs s__law_matrix) (defBody s__law_matrix) (defScope s__law_matrix) .none kV33 dc33 pm33 an33 cd33 ct33, PySem.W.fnOf "_law_one" "_law_one" (defArgs s__law_one) (defBody s__law_one) (defScope s__law_one) .none kV34 dc34 pm34 an34 cd34 ct34, PySem.W.fnOf "_law_gate" "_law_gate" (defArgs s__law_gate) (defBody s__law_gate) (defScope s__law_gate) .none kV35 dc35 pm35 an35 cd35 ct35, PySem.W.fnOf "_law_letter" "_law_letter" (defArgs s__law_letter) (defBody s__law_letter) (defScope s__law_letter) .none kV36 dc36 pm36 an36 cd36 ct36, PySem.W.fnOf "_law_acted" "_law_acted" (defArgs s__law_acted) (defBody s__law_acted) (defScope s__law_acted) .none kV37 dc37 pm37 an37 cd37 ct37, PySem.W.fnOf "_law_projected" "_law_projected" (defArgs s__law_projected) (defBody s__law_projected) (defScope s__law_projected) .none kV38 dc38 pm38 an38 cd38 ct38, PySem.W.fnOf "_law_turned" "_law_turned" (defArgs s__law_turned) (defBody s__law_turned) (defScope s__law_turned) .none kV39 dc39 pm39 an39 cd39 ct39, PySem.W.fnOf "_law_times" "_law_times" (defArgs s__law_times) (defBody s__law_times) (defScope s__law_times) .none kV40 dc40 pm40 an40 cd40 ct40, PySem.W.fnOf "_law_image" "_law_image" (defArgs s__law_image) (defBody s__law_image) (defScope s__law_image) .none kV41 dc41 pm41 an41 cd41 ct41, PySem.W.fnOf "_law_state" "_law_state" (defArgs s__law_state) (defBody s__law_state) (defScope s__law_state) .none kV42 dc42 pm42 an42 cd42 ct42, PySem.W.fnOf "law" "law" (defArgs s_law) (defBody s_law) (defScope s_law) .none kV43 dc43 pm43 an43 cd43 ct43] : List FuncData).getD i (PySem.W.fnOf "law" "law" (defArgs s_law) (defBody s_law) (defScope s_law) .none kV43 dc43 pm43 an43 cd43 ct43)) := ⟨PySem.W.mg_none_of X G z_len, PySem.W.mg_none_of X G z_abs, PySem.W.mg_none_of X G z_max, PySem.W.mg_none_of X G z_int, PySem.W.mg_none_of X G z_tuple, PySem.W.mg_none_of X G z_list, PySem.W.mg_none_of X G z_range, ⟨.str "IXZY", _, PySem.W.mg_of X G aNAMES, ⟨_, rfl⟩, fun F => .str _⟩, ⟨.ref pZERO, _, PySem.W.mg_of X G aZERO, rfl, fun F => .tup (.inr ⟨_, _, _, lZERO, rfl, rfl, (by show (5 : Nat) ≤ sizeLine; decide), (.cons VL.rv_int (.cons VL.rv_int (.cons VL.rv_int (.cons VL.rv_int (.cons VL.rv_int .nil)))))⟩) (.cons (.int _) (.cons (.int _) (.cons (.int _) (.cons (.int _) (.cons (.int _) .nil)))))⟩, ⟨.ref pONE, _, PySem.W.mg_of X G aONE, rfl, fun F => .tup (.inr ⟨_, _, _, lONE, rfl, rfl, (by show (5 : Nat) ≤ sizeLine; decide), (.cons VL.rv_int (.cons VL.rv_int (.cons VL.rv_int (.cons VL.rv_int (.cons VL.rv_int .nil)))))⟩) (.cons (.int _) (.cons (.int _) (.cons (.int _) (.cons (.int _) (.cons (.int _) .nil)))))⟩, ⟨.ref pHALF, _, PySem.W.mg_of X G aHALF, rfl, fun F => .tup (.inr ⟨_, _, _, lHALF, rfl, rfl, (by show (5 : Nat) ≤ sizeLine; decide), (.cons VL.rv_int (.cons VL.rv_int (.cons VL.rv_int (.cons VL.rv_int (.cons VL.rv_int .nil)))))⟩) (.cons (.int _) (.cons (.int _) (.cons (.int _) (.cons (.int _) (.cons (.int _) .nil)))))⟩, ⟨.ref pROOT, _, PySem.W.mg_of X G aROOT, rfl, fun F => .tup (.inr ⟨_, _, _, lROOT, rfl, rfl, (by show (5 : Nat) ≤ sizeLine; decide), (.cons VL.rv_int (.cons VL.rv_int (.cons VL.rv_int (.cons VL.rv_int (.cons VL.rv_int .nil)))))⟩) (.cons (.int _) (.cons (.int _) (.cons (.int _) (.cons (.int _) (.cons (.int _) .nil)))))⟩, ⟨.ref pPAIRS, _, PySem.W.mg_of X G aPAIRS, rfl, fun F => .tup (.inr ⟨_, _, _, lPAIRS, rfl, rfl, (by show (2 : Nat) ≤ sizeLine; decide), (.cons VL.rv_str (.cons VL.rv_str .nil))⟩) (.cons (.str _) (.cons (.str _) .nil))⟩, ⟨⟨pFACTORS, esFACTORS, nFACTORS, ⟨lFACTORS, kFACTORS, sFACTORS⟩, PySem.W.mg_of X G aFACTORS, (VL.tab_cons ⟨_, _, eFACTORS_0, VL.rv_int, fun F => (.int _)⟩ (VL.tab_cons ⟨_, _, eFACTORS_1, VL.rv_int, fun F => (.int _)⟩ (VL.tab_cons ⟨_, _, eFACTORS_2, VL.rv_int, fun F => (.int _)⟩ (VL.tab_cons ⟨_, _, eFACTORS_3, VL.rv_int, fun F => (.int _)⟩ (VL.tab_cons ⟨_, _, eFACTORS_4, VL.rv_int, fun F => (.int _)⟩ VL.tab_nil)))))⟩⟩, ⟨PySem.W.mg_of X G aC_NotValid, xP_NotValid, kP_NotValid, bP_NotValid, tP_NotValid, VL.exm_self bP_NotValid iP_NotValid tP_NotValid sP_NotValid⟩, ⟨⟨pg_Frame, hd_Frame, po_Frame, sa_Frame⟩⟩, n_Frame_rows, D0, D1, D2, D3, D4, D5, D6, D7, D8, D9, D10, D11, D12, D13, D14, D15, D16, D17, D18, D19, D20, D21, D22, D23, D24, D25, D26, D27, D28, D29, D30, D31, D32, D33, D34, D35, D36, D37, D38, D39, D40, D41, D42, D43⟩
  exact ⟨PySem.W.fnOf "law" "law" (defArgs s_law) (defBody s_law) (defScope s_law) .none kV43 dc43 pm43 an43 cd43 ct43, fun s v => .of_eq rfl, fun base _ _ => ok_law T⟩
end K36
open PySem PySem.W PyProof.Rows
set_option maxHeartbeats 0 in
theorem PySem.Challenge.cw_mendedgates_k36_frames_as_matrices_holds : PySem.Challenge.rw_mendedgates_k36_frames_as_matrices.Holds := by
  w_on; o_law; k_head; (case hw => w_witness2)
  k_fill
  refine L2.walk_of (l := PySem.Challenge.rw_mendedgates_k36_frames_as_matrices) (n := 63) (k := 7) (x := "script") (CX := fun _ => L2.CX0) (sp := fun w => VL.spOf _ 1 K36.sp_law) rfl (by decide) rfl ⟨rfl, by decide, by decide⟩ (fun w h Y => PySem.W.kIn_of Y) ?F (fun _ H a ns hl _ hS => VL.law_in hS ⟨ns, rfl, hl, fun _ => rfl⟩) (fun _ _ _ _ _ h => h)
  case F =>
    intro w mg fa h KX G hmg
    refine' K36.all_mk KX G hmg ?aC_Frame ?pg_Frame ?hd_Frame ?po_Frame ?sa_Frame ?mk_Frame ?kc_Frame ?n_Frame_rows ?aC_NotValid ?xP_NotValid ?kP_NotValid ?bP_NotValid ?tP_NotValid ?iP_NotValid ?sP_NotValid ?a0 ?l0 ?c0 ?k0 ?a1 ?l1 ?c1 ?k1 ?a2 ?l2 ?c2 ?k2 ?a3 ?l3 ?c3 ?k3 ?a4 ?l4 ?c4 ?k4 ?a5 ?i5 ?l5 ?c5 ?k5 ?a6 ?i6 ?l6 ?c6 ?k6 ?a7 ?i7 ?l7 ?c7 ?k7 ?a8 ?i8 ?l8 ?c8 ?k8 ?a9 ?i9 ?l9 ?c9 ?k9 ?a10 ?i10 ?l10 ?c10 ?k10 ?a11 ?i11 ?l11 ?c11 ?k11 ?a12 ?i12 ?l12 ?c12 ?k12 ?a13 ?i13 ?l13 ?c13 ?k13 ?a14 ?i14 ?l14 ?c14 ?k14 ?a15 ?l15 ?c15 ?k15 ?a16 ?l16 ?c16 ?k16 ?a17 ?l17 ?c17 ?k17 ?a18 ?l18 ?c18 ?k18 ?a19 ?l19 ?c19 ?k19 ?a20 ?l20 ?c20 ?k20 ?a21 ?l21 ?c21 ?k21 ?a22 ?l22 ?c22 ?k22 ?a23 ?l23 ?c23 ?k23 ?a24 ?l24 ?c24 ?k24 ?a25 ?l25 ?c25 ?k25 ?a26 ?l26 ?c26 ?k26 ?a27 ?l27 ?c27 ?k27 ?a28 ?l28 ?c28 ?k28 ?a29 ?l29 ?c29 ?k29 ?a30 ?l30 ?c30 ?k30 ?a31 ?l31 ?c31 ?k31 ?a32 ?l32 ?c32 ?k32 ?a33 ?l33 ?c33 ?k33 ?a34 ?l34 ?c34 ?k34 ?a35 ?l35 ?c35 ?k35 ?a36 ?l36 ?c36 ?k36 ?a37 ?l37 ?c37 ?k37 ?a38 ?l38 ?c38 ?k38 ?a39 ?l39 ?c39 ?k39 ?a40 ?l40 ?c40 ?k40 ?a41 ?l41 ?c41 ?k41 ?a42 ?l42 ?c42 ?k42 ?a43 ?l43 ?c43 ?k43 ?z_len ?z_abs ?z_max ?z_int ?z_tuple ?z_list ?z_range ?aNAMES ?aZERO ?lZERO ?aONE ?lONE ?aHALF ?lHALF ?aROOT ?lROOT ?aPAIRS ?lPAIRS ?aFACTORS ?lFACTORS ?kFACTORS ?sFACTORS ?eFACTORS_0 ?eFACTORS_1 ?eFACTORS_2 ?eFACTORS_3 ?eFACTORS_4
    (case aC_Frame => k_is); (case pg_Frame => k_is); (case hd_Frame => k_is); (case po_Frame => k_is); (case sa_Frame => k_is); (case mk_Frame => k_is)
    (case kc_Frame => k_is); (case n_Frame_rows => k_is); (case aC_NotValid => k_is); (case xP_NotValid => k_exc); (case kP_NotValid => k_is); (case bP_NotValid => k_is)
    (case tP_NotValid => k_is); (case iP_NotValid => k_is); (case sP_NotValid => first | rfl | k_is); (case a0 => k_is); (case l0 => k_is); (case c0 => k_is)
    (case k0 => k_is); (case a1 => k_is); (case l1 => k_is); (case c1 => k_is); (case k1 => k_is); (case a2 => k_is)
    (case l2 => k_is); (case c2 => k_is); (case k2 => k_is); (case a3 => k_is); (case l3 => k_is); (case c3 => k_is)
    (case k3 => k_is); (case a4 => k_is); (case l4 => k_is); (case c4 => k_is); (case k4 => k_is); (case a5 => k_is)
    (case i5 => k_is); (case l5 => k_is); (case c5 => k_is); (case k5 => k_is); (case a6 => k_is); (case i6 => k_is)
    (case l6 => k_is); (case c6 => k_is); (case k6 => k_is); (case a7 => k_is); (case i7 => k_is); (case l7 => k_is)
    (case c7 => k_is); (case k7 => k_is); (case a8 => k_is); (case i8 => k_is); (case l8 => k_is); (case c8 => k_is)
    (case k8 => k_is); (case a9 => k_is); (case i9 => k_is); (case l9 => k_is); (case c9 => k_is); (case k9 => k_is)
    (case a10 => k_is); (case i10 => k_is); (case l10 => k_is); (case c10 => k_is); (case k10 => k_is); (case a11 => k_is)
    (case i11 => k_is); (case l11 => k_is); (case c11 => k_is); (case k11 => k_is); (case a12 => k_is); (case i12 => k_is)
    (case l12 => k_is); (case c12 => k_is); (case k12 => k_is); (case a13 => k_is); (case i13 => k_is); (case l13 => k_is)
    (case c13 => k_is); (case k13 => k_is); (case a14 => k_is); (case i14 => k_is); (case l14 => k_is); (case c14 => k_is)
    (case k14 => k_is); (case a15 => k_is); (case l15 => k_is); (case c15 => k_is); (case k15 => k_is); (case a16 => k_is)
    (case l16 => k_is); (case c16 => k_is); (case k16 => k_is); (case a17 => k_is); (case l17 => k_is); (case c17 => k_is)
    (case k17 => k_is); (case a18 => k_is); (case l18 => k_is); (case c18 => k_is); (case k18 => k_is); (case a19 => k_is)
    (case l19 => k_is); (case c19 => k_is); (case k19 => k_is); (case a20 => k_is); (case l20 => k_is); (case c20 => k_is)
    (case k20 => k_is); (case a21 => k_is); (case l21 => k_is); (case c21 => k_is); (case k21 => k_is); (case a22 => k_is)
    (case l22 => k_is); (case c22 => k_is); (case k22 => k_is); (case a23 => k_is); (case l23 => k_is); (case c23 => k_is)
    (case k23 => k_is); (case a24 => k_is); (case l24 => k_is); (case c24 => k_is); (case k24 => k_is); (case a25 => k_is)
    (case l25 => k_is); (case c25 => k_is); (case k25 => k_is); (case a26 => k_is); (case l26 => k_is); (case c26 => k_is)
    (case k26 => k_is); (case a27 => k_is); (case l27 => k_is); (case c27 => k_is); (case k27 => k_is); (case a28 => k_is)
    (case l28 => k_is); (case c28 => k_is); (case k28 => k_is); (case a29 => k_is); (case l29 => k_is); (case c29 => k_is)
    (case k29 => k_is); (case a30 => k_is); (case l30 => k_is); (case c30 => k_is); (case k30 => k_is); (case a31 => k_is)
    (case l31 => k_is); (case c31 => k_is); (case k31 => k_is); (case a32 => k_is); (case l32 => k_is); (case c32 => k_is)
    (case k32 => k_is); (case a33 => k_is); (case l33 => k_is); (case c33 => k_is); (case k33 => k_is); (case a34 => k_is)
    (case l34 => k_is); (case c34 => k_is); (case k34 => k_is); (case a35 => k_is); (case l35 => k_is); (case c35 => k_is)
    (case k35 => k_is); (case a36 => k_is); (case l36 => k_is); (case c36 => k_is); (case k36 => k_is); (case a37 => k_is)
    (case l37 => k_is); (case c37 => k_is); (case k37 => k_is); (case a38 => k_is); (case l38 => k_is); (case c38 => k_is)
    (case k38 => k_is); (case a39 => k_is); (case l39 => k_is); (case c39 => k_is); (case k39 => k_is); (case a40 => k_is)
    (case l40 => k_is); (case c40 => k_is); (case k40 => k_is); (case a41 => k_is); (case l41 => k_is); (case c41 => k_is)
    (case k41 => k_is); (case a42 => k_is); (case l42 => k_is); (case c42 => k_is); (case k42 => k_is); (case a43 => k_is)
    (case l43 => k_is); (case c43 => k_is); (case k43 => k_is); (case z_len => k_is); (case z_abs => k_is); (case z_max => k_is)
    (case z_int => k_is); (case z_tuple => k_is); (case z_list => k_is); (case z_range => k_is); (case aNAMES => k_is); (case aZERO => k_is)
    (case lZERO => k_is); (case aONE => k_is); (case lONE => k_is); (case aHALF => k_is); (case lHALF => k_is); (case aROOT => k_is)
    (case lROOT => k_is); (case aPAIRS => k_is); (case lPAIRS => k_is); (case aFACTORS => k_is); (case lFACTORS => k_is); (case kFACTORS => exact ⟨⟨_, _, rfl, rfl⟩, ⟨_, _, rfl, rfl⟩, ⟨_, _, rfl, rfl⟩, ⟨_, _, rfl, rfl⟩, ⟨_, _, rfl, rfl⟩, trivial⟩)
    (case sFACTORS => first | rfl | decide); (case eFACTORS_0 => k_is); (case eFACTORS_1 => k_is); (case eFACTORS_2 => k_is); (case eFACTORS_3 => k_is); (case eFACTORS_4 => k_is)

