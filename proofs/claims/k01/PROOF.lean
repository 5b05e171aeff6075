import PyProof.Rows.All
import Wide.All
import OpenK.AllK
import Wide.FinOn
import HandS.ForMost
import HandS.Wide
import HandS.WideBits
import HandS.Style
import HandS.TupAny
import HandS.IsInst
import HandS.Deep
import HandS.Zip
import KE.GoesMore
import KE.BitLaws
import KE.KBits
import KE.SortKeyHeap
import HandS.SortKw
import HandS.Exc
import HandS.Replace
import HandS.Text
import PySem.Challenge.RW_mendedgates_k01_paulis_are_matrices
set_option Elab.async false
set_option linter.all false
set_option maxRecDepth 100000
set_option maxHeartbeats 4000000
/-! VL: a layer of plain data over HandS. Values are trees; frozen objects stand in F; what a name of the def owns is mutable. -/
namespace VL
open PySem PySem.Spec L2

/-- built-in classes as values -/
inductive Ty where
  | tint | tbool | tstr | ttup | tlst | tdct
def Ty.name : Ty → String
  | .tint => "int"
  | .tbool => "bool"
  | .tstr => "str"
  | .ttup => "tuple"
  | .tlst => "list"
  | .tdct => "dict"
inductive D where
  | non | bl (b : Bool) | int (i : Int) | str (x : Str)
  | tup (ds : List D) | lst (ds : List D) | dct (ks : List Key) (ds : List D) | obj (a : Addr) | scr (ns : List Int) | ty (t : Ty)

mutual
def D.pd : D → PyData
  | .non => .none
  | .bl b => .bool b
  | .int i => .int i
  | .str x => .str x
  | .tup ds => .tuple (D.pds ds)
  | .lst ds => .list (D.pds ds)
  | .dct _ _ => .none
  | .obj _ => .none
  | .scr _ => .none
  | .ty _ => .none
def D.pds : List D → List PyData
  | [] => []
  | d :: ds => D.pd d :: D.pds ds
end

/-- plain data of at most that depth -/
def shD : Nat → D → Bool
  | _, .non => true
  | _, .bl _ => true
  | _, .int _ => true
  | _, .str x => PyData.strOk x
  | n + 1, .tup ds => ds.all (shD n)
  | n + 1, .lst ds => ds.all (shD n)
  | _, _ => false

mutual
def eqD : D → D → Bool
  | .non, .non => true
  | .bl a, .bl b => a == b
  | .bl a, .int j => (if a then 1 else 0) == j
  | .int i, .bl b => i == (if b then 1 else 0)
  | .int i, .int j => i == j
  | .str x, .str y => x == y
  | .tup xs, .tup ys => eqDs xs ys
  | .lst xs, .lst ys => eqDs xs ys
  | _, _ => false
def eqDs : List D → List D → Bool
  | [], [] => true
  | x :: xs, y :: ys => eqD x y && eqDs xs ys
  | _, _ => false
end

/-- a value whose tree holds no list, no dict -/
def flD : Nat → D → Bool
  | _, .non => true
  | _, .bl _ => true
  | _, .int _ => true
  | _, .str _ => true
  | _, .obj _ => true
  | n + 1, .tup ds => ds.all (flD n)
  | _, _ => false

/-- a mutable object that has a name of its own -/
inductive Ob where
  | ml (ds : List D)
  | md (ks : List Key) (ds : List D)
  | ins (C : Addr) (fs : List (Str × D))

abbrev Oh := Addr → Option Ob
def Oh.put (h : Oh) (a : Addr) (o : Ob) : Oh := fun b => if b = a then some o else h b
theorem Oh.put_same {h : Oh} {a : Addr} {o : Ob} : h.put a o a = some o := by unfold Oh.put; rw [if_pos rfl]
theorem Oh.put_ne {h : Oh} {a b : Addr} {o : Ob} (n : b ≠ a) : h.put a o b = h b := by unfold Oh.put; rw [if_neg n]
theorem Oh.put_put {h : Oh} {a : Addr} {o u : Ob} : (h.put a o).put a u = h.put a u := by
  funext b; unfold Oh.put; split <;> rfl

/-- a slot: unset, a frozen value, a container that the name owns -/
inductive Sl where
  | u | f (d : D) | o (d : D)

structure Sg where
  s : List Sl
  h : Oh

/-! ### what a value is in the frozen part -/
mutual
inductive Rep (K : PySem.W.Frag) (F : Hp) : V → D → Prop
  | non : Rep K F .non .non
  | bl (b : Bool) : Rep K F (.bl b) (.bl b)
  | int (i : Int) : Rep K F (.int i) (.int i)
  | str (x : Str) : Rep K F (.str x) (.str x)
  | tup {a : Addr} {vs : List V} {ds : List D} : SqT K F a vs → Reps K F vs ds → Rep K F (.ref a) (.tup ds)
  | lst {a : Addr} {vs : List V} {ds : List D} : F a = some (.lst vs) → Reps K F vs ds → Rep K F (.ref a) (.lst ds)
  | dct {a : Addr} {kvs : List (Key × V)} {ks : List Key} {ds : List D} : F a = some (.dK kvs) → kvs.map (·.1) = ks → Reps K F (kvs.map (·.2)) ds → Rep K F (.ref a) (.dct ks ds)
  | obj (a : Addr) : Rep K F (.ref a) (.obj a)
  | scr {a : Addr} {ns : List Int} : SqL K F a (ns.map V.int) → Rep K F (.ref a) (.scr ns)
  | ty (t : Ty) : Rep K F (.ty t.name) (.ty t)
inductive Reps (K : PySem.W.Frag) (F : Hp) : List V → List D → Prop
  | nil : Reps K F [] []
  | cons {v : V} {vs : List V} {d : D} {ds : List D} : Rep K F v d → Reps K F vs ds → Reps K F (v :: vs) (d :: ds)
end

def Ext (F F' : Hp) : Prop := ∀ a o, F a = some o → F' a = some o
theorem Ext.refl (F : Hp) : Ext F F := fun _ _ h => h
theorem Ext.trans {F G H : Hp} (a : Ext F G) (b : Ext G H) : Ext F H := fun x o h => b x o (a x o h)
theorem Ext.new {F : Hp} {p : Addr} {o : HO} (h : F p = none) : Ext F (upd F p o) := fun a u e => by
  rw [upd_ne (ne_of_none e h)]
  exact e
theorem Ext.rd {F G : Hp} (e : Ext F G) {a : Addr} {u : HO} (h : Rd F a u) : Rd G a u := by
  rcases h with h | ⟨o, h⟩
  · exact .inl (e _ _ h)
  · exact .inr ⟨o, e _ _ h⟩
theorem Ext.sqL {K : PySem.W.Frag} {F G : Hp} (e : Ext F G) {a : Addr} {xs : List V} (h : SqL K F a xs) : SqL K G a xs := h.elim (fun z => .inl (e.rd z)) .inr
theorem Ext.sqT {K : PySem.W.Frag} {F G : Hp} (e : Ext F G) {a : Addr} {xs : List V} (h : SqT K F a xs) : SqT K G a xs := h.elim (fun z => .inl (e.rd z)) .inr

mutual
theorem Rep.mono {K : PySem.W.Frag} {F G : Hp} (e : Ext F G) : ∀ {v : V} {d : D}, Rep K F v d → Rep K G v d
  | _, _, .non => .non
  | _, _, .bl b => .bl b
  | _, _, .int i => .int i
  | _, _, .str x => .str x
  | _, _, .tup h r => .tup (e.sqT h) (Reps.mono e r)
  | _, _, .lst h r => .lst (e _ _ h) (Reps.mono e r)
  | _, _, .dct h k r => .dct (e _ _ h) k (Reps.mono e r)
  | _, _, .obj a => .obj a
  | _, _, .scr h => .scr (e.sqL h)
  | _, _, .ty t => .ty t
theorem Reps.mono {K : PySem.W.Frag} {F G : Hp} (e : Ext F G) : ∀ {vs : List V} {ds : List D}, Reps K F vs ds → Reps K G vs ds
  | _, _, .nil => .nil
  | _, _, .cons h r => .cons (Rep.mono e h) (Reps.mono e r)
end
section
variable {K : PySem.W.Frag} {F G H : Hp}
theorem Reps.length : ∀ {vs : List V} {ds : List D}, Reps K F vs ds → vs.length = ds.length
  | _, _, .nil => rfl
  | _, _, .cons _ r => congrArg (· + 1) (Reps.length r)
theorem Reps.get : ∀ {vs : List V} {ds : List D} {i : Nat} {d : D}, Reps K F vs ds → ds[i]? = some d → ∃ v, vs[i]? = some v ∧ Rep K F v d
  | _, _, _, _, .nil, h => by simp at h
  | _, _, 0, _, .cons r _, h => by
    have e := Option.some.inj h
    subst e
    exact ⟨_, rfl, r⟩
  | _, _, i + 1, _, .cons _ t, h => Reps.get (i := i) t h
theorem Reps.append : ∀ {vs ws : List V} {ds es : List D}, Reps K F vs ds → Reps K F ws es → Reps K F (vs ++ ws) (ds ++ es)
  | _, _, _, _, .nil, s => s
  | _, _, _, _, .cons r t, s => .cons r (Reps.append t s)
theorem Reps.one {v : V} {d : D} (h : Rep K F v d) : Reps K F [v] [d] := .cons h .nil
theorem Reps.set : ∀ {vs : List V} {ds : List D} {v : V} {d : D} (i : Nat), Reps K F vs ds → Rep K F v d → Reps K F (vs.set i v) (ds.set i d)
  | _, _, _, _, _, .nil, _ => .nil
  | _, _, _, _, 0, .cons _ t, r => .cons r t
  | _, _, _, _, i + 1, .cons q t, r => .cons q (Reps.set i t r)
theorem Reps.take : ∀ {vs : List V} {ds : List D} (n : Nat), Reps K F vs ds → Reps K F (vs.take n) (ds.take n)
  | _, _, 0, _ => .nil
  | _, _, _ + 1, .nil => .nil
  | _, _, n + 1, .cons r t => .cons r (Reps.take n t)
theorem Reps.drop : ∀ {vs : List V} {ds : List D} (n : Nat), Reps K F vs ds → Reps K F (vs.drop n) (ds.drop n)
  | _, _, 0, r => r
  | _, _, _ + 1, .nil => .nil
  | _, _, n + 1, .cons _ t => Reps.drop n t
theorem Reps.dropLast {vs : List V} {ds : List D} (h : Reps K F vs ds) : Reps K F vs.dropLast ds.dropLast := by
  rw [List.dropLast_eq_take, List.dropLast_eq_take, h.length]
  exact h.take _
theorem Reps.rep {vs : List V} {ds : List D} (h : Reps K F vs ds) : ∀ k : Nat, Reps K F (List.replicate k vs).flatten (List.replicate k ds).flatten
  | 0 => .nil
  | k + 1 => by
    rw [List.replicate_succ, List.replicate_succ, List.flatten_cons, List.flatten_cons]
    exact h.append (Reps.rep h k)
theorem Reps.rev {vs : List V} {ds : List D} (h : Reps K F vs ds) : Reps K F vs.reverse ds.reverse := by
  induction h using Reps.rec (motive_1 := fun _ _ _ => True) with
  | nil => exact .nil
  | cons a b _ ih =>
    rw [List.reverse_cons, List.reverse_cons]
    exact ih.append (.one a)
  | _ => trivial
theorem Reps.ints : ∀ {vs : List V} {ns : List Int}, Reps K F vs (ns.map D.int) → vs = ns.map V.int
  | _, [], .nil => rfl
  | _, n :: ns, .cons r t => by
    cases r
    rw [List.map_cons, Reps.ints t]
theorem Reps.ofInts : ∀ (ns : List Int), Reps K F (ns.map V.int) (ns.map D.int)
  | [] => .nil
  | n :: ns => .cons (.int n) (Reps.ofInts ns)
theorem Reps.bools : ∀ {vs : List V} {ns : List Bool}, Reps K F vs (ns.map D.bl) → vs = ns.map V.bl
  | _, [], .nil => rfl
  | _, n :: ns, .cons r t => by
    cases r
    rw [List.map_cons, Reps.bools t]
theorem Reps.strs : ∀ {vs : List V} {ns : List Str}, Reps K F vs (ns.map D.str) → vs = ns.map V.str
  | _, [], .nil => rfl
  | _, n :: ns, .cons r t => by
    cases r
    rw [List.map_cons, Reps.strs t]
end

/-! ### plain data as the library's data -/
mutual
theorem Rep.dp {K : PySem.W.Frag} {F H : Hp} (e : Ext F H) : ∀ {n : Nat} {v : V} {d : D}, Rep K F v d → shD n d = true → Dp K H v d.pd
  | _, _, _, .non, _ => .non
  | _, _, _, .bl b, _ => .bl b
  | _, _, _, .int i, _ => .int i
  | _, _, _, .str x, _ => .str x
  | 0, _, _, .tup _ _, s => by simp [shD] at s
  | n + 1, _, _, .tup h r, s => .tup (e.sqT h) (Reps.dp (n := n) e r s)
  | 0, _, _, .lst _ _, s => by simp [shD] at s
  | n + 1, _, _, .lst h r, s => .lst (.of (e _ _ h)) (Reps.dp (n := n) e r s)
  | 0, _, _, .dct _ _ _, s => by simp [shD] at s
  | n + 1, _, _, .dct _ _ _, s => by simp [shD] at s
  | 0, _, _, .obj _, s => by simp [shD] at s
  | n + 1, _, _, .obj _, s => by simp [shD] at s
  | 0, _, _, .scr _, s => by simp [shD] at s
  | n + 1, _, _, .scr _, s => by simp [shD] at s
  | 0, _, _, .ty _, s => by simp [shD] at s
  | n + 1, _, _, .ty _, s => by simp [shD] at s
theorem Reps.dp {K : PySem.W.Frag} {F H : Hp} (e : Ext F H) : ∀ {n : Nat} {vs : List V} {ds : List D}, Reps K F vs ds → ds.all (shD n) = true → DpAll K H vs (D.pds ds)
  | _, _, _, .nil, _ => .nil
  | n, _, _, .cons r t, s => by
    rw [List.all_cons, Bool.and_eq_true] at s
    exact .cons (Rep.dp e r s.1) (Reps.dp e t s.2)
end
mutual
theorem can_sh : ∀ (n : Nat) (d : D), shD n d = true → d.pd.canLay0 = true
  | _, .non, _ => rfl
  | _, .bl _, _ => rfl
  | _, .int _, _ => rfl
  | 0, .str x, h => h
  | n + 1, .str x, h => h
  | n + 1, .tup ds, h => can_shs n ds h
  | n + 1, .lst ds, h => can_shs n ds h
  | 0, .tup ds, h => by simp [shD] at h
  | 0, .lst ds, h => by simp [shD] at h
  | 0, .dct _ _, h => by simp [shD] at h
  | n + 1, .dct _ _, h => by simp [shD] at h
  | 0, .obj _, h => by simp [shD] at h
  | n + 1, .obj _, h => by simp [shD] at h
  | 0, .scr _, h => by simp [shD] at h
  | n + 1, .scr _, h => by simp [shD] at h
  | 0, .ty _, h => by simp [shD] at h
  | n + 1, .ty _, h => by simp [shD] at h
theorem can_shs : ∀ (n : Nat) (ds : List D), ds.all (shD n) = true → PyData.canLayAll0 (D.pds ds) = true
  | _, [], _ => rfl
  | n, d :: ds, h => by
    rw [List.all_cons, Bool.and_eq_true] at h
    show (PyData.canLay0 d.pd && PyData.canLayAll0 (D.pds ds)) = true
    rw [can_sh n d h.1, can_shs n ds h.2]
    rfl
end
mutual
theorem depth_sh : ∀ (n : Nat) (d : D), shD n d = true → d.pd.depth ≤ n
  | _, .non, _ => Nat.zero_le _
  | _, .bl _, _ => Nat.zero_le _
  | _, .int _, _ => Nat.zero_le _
  | _, .str x, _ => Nat.zero_le _
  | n + 1, .tup ds, h => Nat.succ_le_succ (depth_shs n ds h)
  | n + 1, .lst ds, h => Nat.succ_le_succ (depth_shs n ds h)
  | 0, .tup ds, h => by simp [shD] at h
  | 0, .lst ds, h => by simp [shD] at h
  | 0, .dct _ _, h => by simp [shD] at h
  | n + 1, .dct _ _, h => by simp [shD] at h
  | 0, .obj _, h => by simp [shD] at h
  | n + 1, .obj _, h => by simp [shD] at h
  | 0, .scr _, h => by simp [shD] at h
  | n + 1, .scr _, h => by simp [shD] at h
  | 0, .ty _, h => by simp [shD] at h
  | n + 1, .ty _, h => by simp [shD] at h
theorem depth_shs : ∀ (n : Nat) (ds : List D), ds.all (shD n) = true → PyData.depthAll (D.pds ds) ≤ n
  | _, [], _ => Nat.zero_le _
  | n, d :: ds, h => by
    rw [List.all_cons, Bool.and_eq_true] at h
    exact Nat.max_le.mpr ⟨depth_sh n d h.1, depth_shs n ds h.2⟩
end
theorem shaped_sh {n : Nat} {d : D} (h : shD n d = true) (hn : n ≤ 64) : SeqAt.shaped d.pd = true := by
  show (PyData.canLay0 d.pd && decide (PyData.depth d.pd ≤ 64)) = true
  rw [can_sh n d h, decide_eq_true (Nat.le_trans (depth_sh n d h) hn)]
  rfl
mutual
theorem eqD_pd : ∀ (n : Nat) (d e : D), shD n d = true → shD n e = true → PyData.eqv d.pd e.pd = eqD d e
  | _, .non, .non, _, _ => rfl
  | _, .non, .bl _, _, _ => rfl
  | _, .non, .int _, _, _ => rfl
  | _, .non, .str _, _, _ => rfl
  | _, .non, .tup _, _, _ => rfl
  | _, .non, .lst _, _, _ => rfl
  | _, .bl _, .non, _, _ => rfl
  | _, .bl _, .bl _, _, _ => rfl
  | _, .bl _, .int _, _, _ => rfl
  | _, .bl _, .str _, _, _ => rfl
  | _, .bl _, .tup _, _, _ => rfl
  | _, .bl _, .lst _, _, _ => rfl
  | _, .int _, .non, _, _ => rfl
  | _, .int _, .bl _, _, _ => rfl
  | _, .int _, .int _, _, _ => rfl
  | _, .int _, .str _, _, _ => rfl
  | _, .int _, .tup _, _, _ => rfl
  | _, .int _, .lst _, _, _ => rfl
  | _, .str _, .non, _, _ => rfl
  | _, .str _, .bl _, _, _ => rfl
  | _, .str _, .int _, _, _ => rfl
  | _, .str _, .str _, _, _ => rfl
  | _, .str _, .tup _, _, _ => rfl
  | _, .str _, .lst _, _, _ => rfl
  | _, .tup _, .non, _, _ => rfl
  | _, .tup _, .bl _, _, _ => rfl
  | _, .tup _, .int _, _, _ => rfl
  | _, .tup _, .str _, _, _ => rfl
  | n + 1, .tup xs, .tup ys, h, k => by
    show PyData.eqvAll (D.pds xs) (D.pds ys) = eqDs xs ys
    exact eqDs_pd n xs ys h k
  | _, .tup _, .lst _, _, _ => rfl
  | _, .lst _, .non, _, _ => rfl
  | _, .lst _, .bl _, _, _ => rfl
  | _, .lst _, .int _, _, _ => rfl
  | _, .lst _, .str _, _, _ => rfl
  | _, .lst _, .tup _, _, _ => rfl
  | n + 1, .lst xs, .lst ys, h, k => by
    show PyData.eqvAll (D.pds xs) (D.pds ys) = eqDs xs ys
    exact eqDs_pd n xs ys h k
  | 0, .tup _, _, h, _ => by simp [shD] at h
  | 0, .lst _, _, h, _ => by simp [shD] at h
  | n, .dct _ _, _, h, _ => by cases n <;> simp [shD] at h
  | n, .obj _, _, h, _ => by cases n <;> simp [shD] at h
  | n, .scr _, _, h, _ => by cases n <;> simp [shD] at h
  | n, .ty _, _, h, _ => by cases n <;> simp [shD] at h
  | n, _, .dct _ _, _, h => by cases n <;> simp [shD] at h
  | n, _, .obj _, _, h => by cases n <;> simp [shD] at h
  | n, _, .scr _, _, h => by cases n <;> simp [shD] at h
  | n, _, .ty _, _, h => by cases n <;> simp [shD] at h
theorem eqDs_pd : ∀ (n : Nat) (ds es : List D), ds.all (shD n) = true → es.all (shD n) = true → PyData.eqvAll (D.pds ds) (D.pds es) = eqDs ds es
  | _, [], [], _, _ => rfl
  | _, [], _ :: _, _, _ => rfl
  | _, _ :: _, [], _, _ => rfl
  | n, d :: ds, e :: es, h, k => by
    rw [List.all_cons, Bool.and_eq_true] at h k
    show (PyData.eqv d.pd e.pd && PyData.eqvAll (D.pds ds) (D.pds es)) = (eqD d e && eqDs ds es)
    rw [eqD_pd n d e h.1 k.1, eqDs_pd n ds es h.2 k.2]
end

/-! ### the state: slots, frozen part, objects -/
/-- the entry of a def (or of a comprehension's turn): frozen part, heap, objects, what its names own -/
structure En where
  F : Hp
  H : Hp
  h : Oh
  ow : Addr → Prop

def ObAt (K : PySem.W.Frag) (F H : Hp) (a : Addr) : Ob → Prop
  | .ml ds => ∃ vs, H a = some (.lst vs) ∧ Reps K F vs ds
  | .md ks ds => ∃ kvs, H a = some (.dK kvs) ∧ kvs.map (·.1) = ks ∧ Reps K F (kvs.map (·.2)) ds
  | .ins C fs => ∃ dx vfs, H a = some (.ins C dx vfs) ∧ vfs.map (·.1) = fs.map (·.1) ∧ Reps K F (vfs.map (·.2)) (fs.map (·.2))
/-- what stands at an owned address -/
def OwAt (K : PySem.W.Frag) (F H : Hp) (a : Addr) : D → Prop
  | .lst ds => ∃ vs, H a = some (.lst vs) ∧ Reps K F vs ds
  | .dct ks ds => ∃ kvs, H a = some (.dK kvs) ∧ kvs.map (·.1) = ks ∧ Reps K F (kvs.map (·.2)) ds
  | _ => False
section
variable {K : PySem.W.Frag} {F F' H H' : Hp} {a : Addr}
theorem ObAt.there {o : Ob} (h : ObAt K F H a o) : H a ≠ none := by
  cases o with
  | ml ds => obtain ⟨vs, e, _⟩ := h; rw [e]; simp
  | md ks ds => obtain ⟨vs, e, _⟩ := h; rw [e]; simp
  | ins C fs => obtain ⟨dx, vs, e, _⟩ := h; rw [e]; simp
theorem ObAt.mono {o : Ob} (h : ObAt K F H a o) (e : Ext F F') (k : H' a = H a) : ObAt K F' H' a o := by
  cases o with
  | ml ds => obtain ⟨vs, q, r⟩ := h; exact ⟨vs, k.trans q, r.mono e⟩
  | md ks ds => obtain ⟨vs, q, z, r⟩ := h; exact ⟨vs, k.trans q, z, r.mono e⟩
  | ins C fs => obtain ⟨dx, vs, q, z, r⟩ := h; exact ⟨dx, vs, k.trans q, z, r.mono e⟩
theorem OwAt.there {d : D} (h : OwAt K F H a d) : H a ≠ none := by
  cases d with
  | lst ds => obtain ⟨vs, e, _⟩ := h; rw [e]; simp
  | dct ks ds => obtain ⟨vs, e, _⟩ := h; rw [e]; simp
  | _ => exact h.elim
theorem OwAt.mono {d : D} (h : OwAt K F H a d) (e : Ext F F') (k : H' a = H a) : OwAt K F' H' a d := by
  cases d with
  | lst ds => obtain ⟨vs, q, r⟩ := h; exact ⟨vs, k.trans q, r.mono e⟩
  | dct ks ds => obtain ⟨vs, q, z, r⟩ := h; exact ⟨vs, k.trans q, z, r.mono e⟩
  | _ => exact h.elim
/-- an owned container, frozen -/
theorem OwAt.rep {d : D} {o : HO} (h : OwAt K F H a d) (ho : H a = some o) (hn : F a = none) : Rep K (upd F a o) (.ref a) d := by
  cases d with
  | lst ds =>
    obtain ⟨vs, q, r⟩ := h
    rw [ho] at q; cases q
    exact .lst upd_same (r.mono (.new hn))
  | dct ks ds =>
    obtain ⟨vs, q, z, r⟩ := h
    rw [ho] at q; cases q
    exact .dct upd_same z (r.mono (.new hn))
  | _ => exact h.elim
end

/-- what has grown since the entry -/
structure Gr (K : PySem.W.Frag) (E : En) (F H : Hp) (h : Oh) : Prop where
  ext : Ext F H
  gF : Ext E.F F
  gN : ∀ b, E.F b = none → E.H b ≠ none → ¬ E.ow b → F b = none
  gH : ∀ b o, E.H b = some o → E.h b = none → ¬ E.ow b → H b = some o
  gP : ∀ b, E.H b ≠ none → H b ≠ none
  gO : ∀ a, h a ≠ none → E.h a ≠ none ∨ E.H a = none
  obs : ∀ a ob, h a = some ob → ObAt K F H a ob ∧ F a = none

structure Rel (K : PySem.W.Frag) (E : En) (F H : Hp) (σ : L2.St) (S : Sg) : Prop where
  g : Gr K E F H S.h
  len : S.s.length = σ.length
  frz : ∀ (i : Nat) (d : D), S.s[i]? = some (.f d) → ∃ v, σ[i]? = some (some v) ∧ Rep K F v d
  own : ∀ (i : Nat) (d : D), S.s[i]? = some (.o d) → ∃ p, σ[i]? = some (some (.ref p)) ∧ OwAt K F H p d ∧ F p = none ∧ S.h p = none ∧ (E.H p = none ∨ E.ow p)
  inj : ∀ (i j : Nat) (d e : D) (p : Addr), S.s[i]? = some (.o d) → S.s[j]? = some (.o e) → σ[i]? = some (some (.ref p)) → σ[j]? = some (some (.ref p)) → i = j

/-- a fresh container that no name owns -/
structure Fresh (K : PySem.W.Frag) (E : En) (F H : Hp) (σ : L2.St) (S : Sg) (p : Addr) (d : D) : Prop where
  at_ : OwAt K F H p d
  nF : F p = none
  nh : S.h p = none
  nE : E.H p = none
  no : ∀ (i : Nat) (e : D), S.s[i]? = some (.o e) → σ[i]? ≠ some (some (.ref p))

section
variable {K : PySem.W.Frag} {E : En} {F F' H H' : Hp} {σ : L2.St} {S : Sg} {p : Addr} {o : HO}
theorem Gr.noF (g : Gr K E F H S.h) (hp : H p = none) : F p = none := by
  cases e : F p with
  | none => rfl
  | some x => rw [g.ext _ _ e] at hp; cases hp
theorem Gr.free (g : Gr K E F H S.h) (hp : H p = none) : E.H p = none := by
  cases e : E.H p with
  | none => rfl
  | some x => exact absurd hp (g.gP p (by rw [e]; simp))
theorem Gr.noob (g : Gr K E F H S.h) (hp : H p = none) : S.h p = none := by
  cases e : S.h p with
  | none => rfl
  | some x => exact absurd hp (g.obs _ _ e).1.there
/-- a new frozen object -/
theorem Rel.fz (R : Rel K E F H σ S) (hp : H p = none) : Rel K E (upd F p o) (upd H p o) σ S := by
  have nF : F p = none := R.g.noF hp
  have nE : E.H p = none := R.g.free hp
  have x : Ext F (upd F p o) := .new nF
  have ne : ∀ b, H b ≠ none → b ≠ p := fun b hb z => hb (z ▸ hp)
  refine ⟨⟨fun b u e => ?_, R.g.gF.trans x, fun b h1 h2 h3 => ?_, fun b u h1 h2 h3 => ?_, fun b h1 => ?_, R.g.gO, fun a ob e => ?_⟩, R.len, fun i d e => ?_, fun i d e => ?_, R.inj⟩
  · by_cases hb : b = p
    · subst hb; rw [upd_same] at e ⊢; exact e
    · rw [upd_ne hb] at e ⊢; exact R.g.ext _ _ e
  · rw [upd_ne (ne b (R.g.gP b h2))]; exact R.g.gN b h1 h2 h3
  · have := R.g.gH b u h1 h2 h3
    rw [upd_ne (ne b (by rw [this]; simp))]; exact this
  · by_cases hb : b = p
    · subst hb; rw [upd_same]; simp
    · rw [upd_ne hb]; exact R.g.gP b h1
  · obtain ⟨h1, h2⟩ := R.g.obs a ob e
    have na := ne a h1.there
    exact ⟨h1.mono x (upd_ne na), by rw [upd_ne na]; exact h2⟩
  · obtain ⟨v, h1, h2⟩ := R.frz i d e
    exact ⟨v, h1, h2.mono x⟩
  · obtain ⟨q, h1, h2, h3, h4, h5⟩ := R.own i d e
    have nq := ne q h2.there
    exact ⟨q, h1, h2.mono x (upd_ne nq), by rw [upd_ne nq]; exact h3, h4, h5⟩
/-- a new container that nobody owns -/
theorem Rel.fresh (R : Rel K E F H σ S) (hp : H p = none) : Rel K E F (upd H p o) σ S ∧ F p = none ∧ S.h p = none ∧ E.H p = none ∧ ∀ (i : Nat) (e : D), S.s[i]? = some (.o e) → σ[i]? ≠ some (some (.ref p)) := by
  have nF : F p = none := R.g.noF hp
  have nE : E.H p = none := R.g.free hp
  have ne : ∀ b, H b ≠ none → b ≠ p := fun b hb z => hb (z ▸ hp)
  refine ⟨⟨⟨fun b u e => ?_, R.g.gF, R.g.gN, fun b u h1 h2 h3 => ?_, fun b h1 => ?_, R.g.gO, fun a ob e => ?_⟩, R.len, R.frz, fun i d e => ?_, R.inj⟩, nF, R.g.noob hp, nE, fun i e h1 h2 => ?_⟩
  · have := R.g.ext _ _ e
    rw [upd_ne (ne b (by rw [this]; simp))]; exact this
  · have := R.g.gH b u h1 h2 h3
    rw [upd_ne (ne b (by rw [this]; simp))]; exact this
  · by_cases hb : b = p
    · subst hb; rw [upd_same]; simp
    · rw [upd_ne hb]; exact R.g.gP b h1
  · obtain ⟨h1, h2⟩ := R.g.obs a ob e
    have na := ne a h1.there
    exact ⟨h1.mono (.refl _) (upd_ne na), h2⟩
  · obtain ⟨q, h1, h2, h3, h4, h5⟩ := R.own i d e
    have nq := ne q h2.there
    exact ⟨q, h1, h2.mono (.refl _) (upd_ne nq), h3, h4, h5⟩
  · obtain ⟨q, h3, h4, _⟩ := R.own i e h1
    rw [h2] at h3
    cases h3
    exact h4.there hp
/-- a fresh container is frozen -/
theorem Rel.freezeN {d : D} (R : Rel K E F H σ S) (f : Fresh K E F H σ S p d) (ho : H p = some o) : Rel K E (upd F p o) H σ S := by
  have x : Ext F (upd F p o) := .new f.nF
  refine ⟨⟨fun b u e => ?_, R.g.gF.trans x, fun b h1 h2 h3 => ?_, R.g.gH, R.g.gP, R.g.gO, fun a ob e => ?_⟩, R.len, fun i d e => ?_, fun i d e => ?_, R.inj⟩
  · by_cases hb : b = p
    · subst hb; rw [upd_same] at e; cases e; exact ho
    · rw [upd_ne hb] at e; exact R.g.ext _ _ e
  · have : b ≠ p := fun z => h2 (z ▸ f.nE)
    rw [upd_ne this]; exact R.g.gN b h1 h2 h3
  · obtain ⟨h1, h2⟩ := R.g.obs a ob e
    have na : a ≠ p := fun z => by rw [z, f.nh] at e; cases e
    exact ⟨h1.mono x rfl, by rw [upd_ne na]; exact h2⟩
  · obtain ⟨v, h1, h2⟩ := R.frz i d e
    exact ⟨v, h1, h2.mono x⟩
  · obtain ⟨q, h1, h2, h3, h4, h5⟩ := R.own i d e
    have nq : q ≠ p := fun z => f.no i d e (z ▸ h1)
    exact ⟨q, h1, h2.mono x rfl, by rw [upd_ne nq]; exact h3, h4, h5⟩
end

/-- new frozen objects, nothing else -/
structure Al (F H F' H' : Hp) : Prop where
  xF : Ext F F'
  xH : Ext H H'
  new : ∀ b, F b = none → H b ≠ none → F' b = none
  ext : Ext F' H'
section
variable {K : PySem.W.Frag} {E : En} {F F' F2 H H' H2 : Hp} {σ σ' : L2.St} {S : Sg} {p : Addr} {o : HO} {d : D} {v : V} {i : Nat}
theorem Al.refl (e : Ext F H) : Al F H F H := ⟨.refl _, .refl _, fun _ h _ => h, e⟩
theorem Al.one (e : Ext F H) (hp : H p = none) : Al F H (upd F p o) (upd H p o) := by
  have nF : F p = none := by
    cases q : F p with
    | none => rfl
    | some x => rw [e _ _ q] at hp; cases hp
  refine ⟨.new nF, .new hp, fun b h1 h2 => ?_, fun b u h => ?_⟩
  · rw [upd_ne (fun z => h2 (by rw [z]; exact hp))]; exact h1
  · by_cases hb : b = p
    · subst hb; rw [upd_same] at h ⊢; exact h
    · rw [upd_ne hb] at h ⊢; exact e _ _ h
theorem Ext.ne {F H : Hp} (e : Ext F H) {b : Addr} (h : F b ≠ none) : H b = F b := by
  cases q : F b with
  | none => exact absurd q h
  | some x => exact e _ _ q
theorem Al.trans (a : Al F H F' H') (b : Al F' H' F2 H2) : Al F H F2 H2 :=
  ⟨a.xF.trans b.xF, a.xH.trans b.xH, fun c h1 h2 => b.new c (a.new c h1 h2) (by rw [a.xH.ne h2]; exact h2), b.ext⟩
theorem Rel.al (R : Rel K E F H σ S) (a : Al F H F' H') : Rel K E F' H' σ S := by
  refine ⟨⟨a.ext, R.g.gF.trans a.xF, fun b h1 h2 h3 => a.new b (R.g.gN b h1 h2 h3) (R.g.gP b h2), fun b u h1 h2 h3 => a.xH _ _ (R.g.gH b u h1 h2 h3), fun b h1 => ?_, R.g.gO, fun q ob e => ?_⟩, R.len, fun i d e => ?_, fun i d e => ?_, R.inj⟩
  · have := R.g.gP b h1
    rw [a.xH.ne this]; exact this
  · obtain ⟨h1, h2⟩ := R.g.obs q ob e
    exact ⟨h1.mono a.xF (a.xH.ne h1.there), a.new q h2 h1.there⟩
  · obtain ⟨v, h1, h2⟩ := R.frz i d e
    exact ⟨v, h1, h2.mono a.xF⟩
  · obtain ⟨q, h1, h2, h3, h4, h5⟩ := R.own i d e
    exact ⟨q, h1, h2.mono a.xF (a.xH.ne h2.there), a.new q h3 h2.there, h4, h5⟩
def Sg.st (S : Sg) (i : Nat) (x : Sl) : Sg := ⟨S.s.set i x, S.h⟩
theorem ix_lt {α : Type} {l : List α} {i : Nat} {x : α} (h : l[i]? = some x) : i < l.length := (List.getElem?_eq_some_iff.mp h).1
theorem set_get {α : Type} {l : List α} {i j : Nat} {x y : α} (h : (l.set i x)[j]? = some y) : (j = i ∧ x = y ∧ i < l.length) ∨ (j ≠ i ∧ l[j]? = some y) := by
  by_cases e : j = i
  · subst e
    have hl : j < l.length := by simpa using ix_lt h
    rw [List.getElem?_set_self hl] at h
    exact .inl ⟨rfl, Option.some.inj h, hl⟩
  · rw [List.getElem?_set_ne (Ne.symm e)] at h
    exact .inr ⟨e, h⟩
/-- a name gets a frozen value -/
theorem Rel.set (R : Rel K E F H σ S) (r : Rep K F v d) : Rel K E F H (σ.set i (some v)) (S.st i (.f d)) := by
  refine ⟨R.g, by show (S.s.set i _).length = _; rw [List.length_set, List.length_set]; exact R.len, fun j e h => ?_, fun j e h => ?_, fun j l e e' p h1 h2 h3 h4 => ?_⟩
  · rcases set_get h with ⟨rfl, h, hl⟩ | ⟨n, h⟩
    · cases h
      exact ⟨v, List.getElem?_set_self (R.len ▸ hl), r⟩
    · obtain ⟨u, h1, h2⟩ := R.frz j e h
      exact ⟨u, by rw [List.getElem?_set_ne (Ne.symm n)]; exact h1, h2⟩
  · rcases set_get h with ⟨rfl, h, hl⟩ | ⟨n, h⟩
    · cases h
    · obtain ⟨u, h1, h2⟩ := R.own j e h
      exact ⟨u, by rw [List.getElem?_set_ne (Ne.symm n)]; exact h1, h2⟩
  · rcases set_get h1 with ⟨_, h, _⟩ | ⟨n1, g1⟩
    · cases h
    rcases set_get h2 with ⟨_, h, _⟩ | ⟨n2, g2⟩
    · cases h
    rw [List.getElem?_set_ne (Ne.symm n1)] at h3
    rw [List.getElem?_set_ne (Ne.symm n2)] at h4
    exact R.inj j l e e' p g1 g2 h3 h4
/-- a name gets a fresh container -/
theorem Rel.setO (R : Rel K E F H σ S) (f : Fresh K E F H σ S p d) : Rel K E F H (σ.set i (some (.ref p))) (S.st i (.o d)) := by
  refine ⟨R.g, by show (S.s.set i _).length = _; rw [List.length_set, List.length_set]; exact R.len, fun j e h => ?_, fun j e h => ?_, fun j l e e' q h1 h2 h3 h4 => ?_⟩
  · rcases set_get h with ⟨rfl, h, hl⟩ | ⟨n, h⟩
    · cases h
    · obtain ⟨u, h1, h2⟩ := R.frz j e h
      exact ⟨u, by rw [List.getElem?_set_ne (Ne.symm n)]; exact h1, h2⟩
  · rcases set_get h with ⟨rfl, h, hl⟩ | ⟨n, h⟩
    · cases h
      exact ⟨p, List.getElem?_set_self (R.len ▸ hl), f.at_, f.nF, f.nh, .inl f.nE⟩
    · obtain ⟨u, h1, h2⟩ := R.own j e h
      exact ⟨u, by rw [List.getElem?_set_ne (Ne.symm n)]; exact h1, h2⟩
  · rcases set_get h1 with ⟨e1, h, l1⟩ | ⟨n1, g1⟩
    · rcases set_get h2 with ⟨e2, h', _⟩ | ⟨n2, g2⟩
      · exact e1.trans e2.symm
      · subst e1
        rw [List.getElem?_set_self (R.len ▸ l1)] at h3
        rw [List.getElem?_set_ne (Ne.symm n2)] at h4
        cases h3
        exact absurd h4 (f.no l e' g2)
    · rw [List.getElem?_set_ne (Ne.symm n1)] at h3
      rcases set_get h2 with ⟨e2, h', l2⟩ | ⟨n2, g2⟩
      · subst e2
        rw [List.getElem?_set_self (R.len ▸ l2)] at h4
        cases h4
        exact absurd h3 (f.no j e g1)
      · rw [List.getElem?_set_ne (Ne.symm n2)] at h4
        exact R.inj j l e e' q g1 g2 h3 h4
/-- a name's own container is frozen -/
theorem Rel.freeze (R : Rel K E F H σ S) (hi : S.s[i]? = some (.o d)) : ∃ p F', σ[i]? = some (some (.ref p)) ∧ Rep K F' (.ref p) d ∧ Ext F F' ∧ Rel K E F' H σ (S.st i (.f d)) := by
  obtain ⟨p, h1, h2, h3, h4, h5⟩ := R.own i d hi
  obtain ⟨o, ho⟩ := Option.ne_none_iff_exists'.mp h2.there
  have x : Ext F (upd F p o) := .new h3
  have rp := h2.rep ho h3
  refine ⟨p, upd F p o, h1, rp, x, ⟨⟨fun b u e => ?_, R.g.gF.trans x, fun b q1 q2 q3 => ?_, R.g.gH, R.g.gP, R.g.gO, fun a ob e => ?_⟩, by show (S.s.set i _).length = _; rw [List.length_set]; exact R.len, fun j e h => ?_, fun j e h => ?_, fun j l e e' q q1 q2 q3 q4 => ?_⟩⟩
  · by_cases hb : b = p
    · subst hb; rw [upd_same] at e; cases e; exact ho
    · rw [upd_ne hb] at e; exact R.g.ext _ _ e
  · have : b ≠ p := fun z => by
      subst z
      rcases h5 with h5 | h5
      · exact q2 h5
      · exact q3 h5
    rw [upd_ne this]; exact R.g.gN b q1 q2 q3
  · obtain ⟨q1, q2⟩ := R.g.obs a ob e
    have na : a ≠ p := fun z => by have e' : S.h a = some ob := e; rw [z, h4] at e'; cases e'
    exact ⟨q1.mono x rfl, by rw [upd_ne na]; exact q2⟩
  · rcases set_get h with ⟨rfl, h, hl⟩ | ⟨n, h⟩
    · cases h
      exact ⟨_, h1, rp⟩
    · obtain ⟨u, q1, q2⟩ := R.frz j e h
      exact ⟨u, q1, q2.mono x⟩
  · rcases set_get h with ⟨rfl, h, hl⟩ | ⟨n, h⟩
    · cases h
    · obtain ⟨u, q1, q2, q3, q4, q5⟩ := R.own j e h
      have nu : u ≠ p := fun z => n (R.inj j i e d p h hi (z ▸ q1) h1)
      exact ⟨u, q1, q2.mono x rfl, by rw [upd_ne nu]; exact q3, q4, q5⟩
  · rcases set_get q1 with ⟨_, h, _⟩ | ⟨n1, g1⟩
    · cases h
    rcases set_get q2 with ⟨_, h, _⟩ | ⟨n2, g2⟩
    · cases h
    exact R.inj j l e e' q g1 g2 q3 q4
/-- a name's own container changes -/
theorem Rel.mut {e : D} (R : Rel K E F H σ S) (hi : S.s[i]? = some (.o d)) (hp : σ[i]? = some (some (.ref p))) (ha : OwAt K F (upd H p o) p e) : Rel K E F (upd H p o) σ (S.st i (.o e)) := by
  obtain ⟨p', h1, h2, h3, h4, h5⟩ := R.own i d hi
  rw [hp] at h1
  cases h1
  have ne : ∀ b, F b ≠ none → b ≠ p := fun b hb z => hb (z ▸ h3)
  refine ⟨⟨fun b u q => ?_, R.g.gF, R.g.gN, fun b u q1 q2 q3 => ?_, fun b q => ?_, R.g.gO, fun a ob q => ?_⟩, by show (S.s.set i _).length = _; rw [List.length_set]; exact R.len, fun j e' h => ?_, fun j e' h => ?_, fun j l x y q q1 q2 q3 q4 => ?_⟩
  · rw [upd_ne (ne b (by rw [q]; simp))]; exact R.g.ext _ _ q
  · have : b ≠ p := fun z => by
      subst z
      rcases h5 with h5 | h5
      · rw [h5] at q1; cases q1
      · exact q3 h5
    rw [upd_ne this]; exact R.g.gH b u q1 q2 q3
  · by_cases hb : b = p
    · subst hb; rw [upd_same]; simp
    · rw [upd_ne hb]; exact R.g.gP b q
  · obtain ⟨q1, q2⟩ := R.g.obs a ob q
    have na : a ≠ p := fun z => by have e' : S.h a = some ob := q; rw [z, h4] at e'; cases e'
    exact ⟨q1.mono (.refl _) (upd_ne na), q2⟩
  · rcases set_get h with ⟨rfl, h, hl⟩ | ⟨n, h⟩
    · cases h
    · exact R.frz j e' h
  · rcases set_get h with ⟨rfl, h, hl⟩ | ⟨n, h⟩
    · cases h
      exact ⟨p, hp, ha, h3, h4, h5⟩
    · obtain ⟨u, q1, q2, q3, q4, q5⟩ := R.own j e' h
      have nu : u ≠ p := fun z => n (R.inj j i e' d p h hi (z ▸ q1) hp)
      exact ⟨u, q1, q2.mono (.refl _) (upd_ne nu), q3, q4, q5⟩
  · have get : ∀ (j : Nat) (x : D), (S.s.set i (.o e))[j]? = some (.o x) → ∃ x', S.s[j]? = some (.o x') := fun j x h => by
      rcases set_get h with ⟨rfl, _, _⟩ | ⟨_, h⟩
      · exact ⟨d, hi⟩
      · exact ⟨x, h⟩
    obtain ⟨x', z1⟩ := get j x q1
    obtain ⟨y', z2⟩ := get l y q2
    exact R.inj j l x' y' q z1 z2 q3 q4
def Sg.ob (S : Sg) (a : Addr) (o : Ob) : Sg := ⟨S.s, S.h.put a o⟩
/-- a known object changes -/
theorem Rel.obput {u : Ob} {a : Addr} (R : Rel K E F H σ S) (hu : S.h a ≠ none) (ha : ObAt K F (upd H a o) a u) : Rel K E F (upd H a o) σ (S.ob a u) := by
  obtain ⟨w, hw⟩ := Option.ne_none_iff_exists'.mp hu
  obtain ⟨h1, h2⟩ := R.g.obs a w hw
  have ne : ∀ b, F b ≠ none → b ≠ a := fun b hb z => hb (z ▸ h2)
  refine ⟨⟨fun b u q => ?_, R.g.gF, R.g.gN, fun b u q1 q2 q3 => ?_, fun b q => ?_, fun b q => ?_, fun b ob q => ?_⟩, R.len, R.frz, fun j e' h => ?_, R.inj⟩
  · rw [upd_ne (ne b (by rw [q]; simp))]; exact R.g.ext _ _ q
  · have : b ≠ a := fun z => by
      subst z
      rcases R.g.gO b hu with h | h
      · exact h q2
      · rw [h] at q1; cases q1
    rw [upd_ne this]; exact R.g.gH b u q1 q2 q3
  · by_cases hb : b = a
    · subst hb; rw [upd_same]; simp
    · rw [upd_ne hb]; exact R.g.gP b q
  · by_cases hb : b = a
    · subst hb; exact R.g.gO b hu
    · have q' : S.h.put a u b ≠ none := q
      rw [Oh.put_ne hb] at q'; exact R.g.gO b q'
  · by_cases hb : b = a
    · subst hb
      have q' : S.h.put b u b = some ob := q
      rw [Oh.put_same] at q'; cases q'
      exact ⟨ha, h2⟩
    · have q' : S.h.put a u b = some ob := q
      rw [Oh.put_ne hb] at q'
      obtain ⟨q1, q2⟩ := R.g.obs b ob q'
      exact ⟨q1.mono (.refl _) (upd_ne hb), q2⟩
  · obtain ⟨q, q1, q2, q3, q4, q5⟩ := R.own j e' h
    have nq : q ≠ a := fun z => hu (z ▸ q4)
    exact ⟨q, q1, q2.mono (.refl _) (upd_ne nq), q3, by show S.h.put a u q = none; rw [Oh.put_ne nq]; exact q4, q5⟩
/-- a fresh container becomes a known object -/
theorem Rel.obnew {u : Ob} (R : Rel K E F H σ S) (f : Fresh K E F H σ S p d) (ha : ObAt K F H p u) : Rel K E F H σ (S.ob p u) := by
  refine ⟨⟨R.g.ext, R.g.gF, R.g.gN, R.g.gH, R.g.gP, fun b q => ?_, fun b ob q => ?_⟩, R.len, R.frz, fun j e' h => ?_, R.inj⟩
  · by_cases hb : b = p
    · subst hb; exact .inr f.nE
    · have q' : S.h.put p u b ≠ none := q
      rw [Oh.put_ne hb] at q'; exact R.g.gO b q'
  · have q' : S.h.put p u b = some ob := q
    by_cases hb : b = p
    · subst hb
      rw [Oh.put_same] at q'; cases q'
      exact ⟨ha, f.nF⟩
    · rw [Oh.put_ne hb] at q'
      exact R.g.obs b ob q'
  · obtain ⟨q, q1, q2, q3, q4, q5⟩ := R.own j e' h
    have nq : q ≠ p := fun z => f.no j e' h (z ▸ q1)
    exact ⟨q, q1, q2, q3, by show S.h.put p u q = none; rw [Oh.put_ne nq]; exact q4, q5⟩
/-- what the names own, as the entry of a part -/
def owns (σ : L2.St) (S : Sg) : Addr → Prop := fun p => ∃ (i : Nat) (d : D), S.s[i]? = some (.o d) ∧ σ[i]? = some (some (.ref p))
theorem Rel.ownE (R : Rel K E F H σ S) {p : Addr} (h : owns σ S p) : E.H p = none ∨ E.ow p := by
  obtain ⟨i, d, h1, h2⟩ := h
  obtain ⟨q, h3, _, _, _, h5⟩ := R.own i d h1
  rw [h2] at h3; cases h3
  exact h5
theorem Gr.then {h h2 : Oh} {ow : Addr → Prop} (g : Gr K E F H h) (ho : ∀ p, ow p → E.H p = none ∨ E.ow p) (g2 : Gr K ⟨F, H, h, ow⟩ F2 H2 h2) : Gr K E F2 H2 h2 := by
  have now : ∀ b, E.H b ≠ none → ¬ E.ow b → ¬ ow b := fun b h1 h2 h3 => (ho b h3).elim h1 h2
  have nh : ∀ b, E.H b ≠ none → E.h b = none → h b = none := fun b h1 h2 => by
    cases q : h b with
    | none => rfl
    | some x => exact ((g.gO b (by rw [q]; simp)).elim (fun z => z h2) h1).elim
  refine ⟨g2.ext, g.gF.trans g2.gF, fun b h1 h2 h3 => g2.gN b (g.gN b h1 h2 h3) (g.gP b h2) (now b h2 h3), fun b o h1 h2 h3 => ?_, fun b h1 => g2.gP b (g.gP b h1), fun a h1 => ?_, g2.obs⟩
  · have hb : E.H b ≠ none := by rw [h1]; simp
    exact g2.gH b o (g.gH b o h1 h2 h3) (nh b hb h2) (now b hb h3)
  · rcases g2.gO a h1 with q | q
    · exact g.gO a q
    · refine .inr ?_
      cases z : E.H a with
      | none => rfl
      | some x => exact absurd q (g.gP a (by rw [z]; simp))
/-- the same state, with itself as the entry -/
theorem Rel.enter (R : Rel K E F H σ S) : Rel K ⟨F, H, S.h, owns σ S⟩ F H σ S :=
  ⟨⟨R.g.ext, .refl _, fun _ h _ _ => h, fun _ _ h _ _ => h, fun _ h => h, fun _ h => .inl h, R.g.obs⟩, R.len, R.frz,
    fun i d h => let ⟨p, h1, h2, h3, h4, _⟩ := R.own i d h; ⟨p, h1, h2, h3, h4, .inr ⟨i, d, h, h1⟩⟩, R.inj⟩
end
end VL

set_option Elab.async false
set_option linter.all false
set_option maxRecDepth 100000
set_option maxHeartbeats 4000000
/-! VL2: readings over plain data: expressions, tests, arguments, iterables, targets, statements, defs. -/
namespace VL
open PySem PySem.Spec L2

abbrev WE := Sg → (D → Sg → Prop) → Prop
abbrev WT := Sg → (Bool → Sg → Prop) → Prop
abbrev WA := Sg → (List D → Sg → Prop) → Prop
abbrev WG := D → Sg → (Sg → Prop) → Prop
structure We where
  nx : Sg → Prop
  rt : D → Sg → Prop
  bk : Sg → Prop := fun _ => False
  ct : Sg → Prop := fun _ => False
abbrev WS := We → Sg → Prop
/-- an exception: the address of its class, its fields; the objects behind it -/
abbrev XC := Addr → List (Str × D) → Oh → Prop
abbrev Spc := List D → Oh → (D → Oh → Prop) → XC → Prop

/-- a test: two ways -/
@[irreducible] def Br (b : Bool) (p q : Prop) : Prop := if b = true then p else q
theorem br_t {p q : Prop} (h : Br true p q) : p := by unfold Br at h; exact h
theorem br_f {p q : Prop} (h : Br false p q) : q := by unfold Br at h; exact h
theorem br {b : Bool} {p q : Prop} (h1 : b = true → p) (h2 : b = false → q) : Br b p q := by
  unfold Br
  cases b with
  | true => exact h1 rfl
  | false => exact h2 rfl
theorem brT {b : Bool} {p q : Prop} (e : b = true) (h : p) : Br b p q := by subst e; unfold Br; exact h
theorem brF {b : Bool} {p q : Prop} (e : b = false) (h : q) : Br b p q := by subst e; unfold Br; exact h

section
variable (K : PySem.W.Frag) (E : En)
def LE (w : WE) : TE := fun σ H Q => ∃ S F R, Rel K E F H σ S ∧ w S R ∧ ∀ d S' v F' H', R d S' → Rep K F' v d → Rel K E F' H' σ S' → Ext F F' → Q v H'
/-- .. to a fresh container -/
def LN (w : WE) : TE := fun σ H Q => ∃ S F R, Rel K E F H σ S ∧ w S R ∧ ∀ d S' p F' H', R d S' → Fresh K E F' H' σ S' p d → Rel K E F' H' σ S' → Ext F F' → Q (.ref p) H'
def LT (w : WT) : TT := fun σ H Q => ∃ S F R, Rel K E F H σ S ∧ w S R ∧ ∀ b S' F' H', R b S' → Rel K E F' H' σ S' → Ext F F' → Q b H'
def LA (n : Nat) (w : WA) : TA := fun σ H Q => ∃ S F R, Rel K E F H σ S ∧ w S R ∧ ∀ ds S' vs F' H', R ds S' → ds.length = n → Reps K F' vs ds → Rel K E F' H' σ S' → Ext F F' → Q vs H'
def LG (g : WG) : TG := fun v σ H Q => ∃ S F d R, Rel K E F H σ S ∧ Rep K F v d ∧ g d S R ∧ ∀ S' σ' F' H', R S' → Rel K E F' H' σ' S' → Ext F F' → Q σ' H'
/-- an iterable gives these items -/
def Feeds (J : It) (F : Hp) (ds : List D) : Prop := ∀ F' H', Ext F F' → Ext F' H' →
  (∀ i d, ds[i]? = some d → J.go i H' ∧ ∀ x H3, J.yld i H' x H3 → ∃ F3, Al F' H' F3 H3 ∧ Rep K F3 x d) ∧ ∀ i, ds.length ≤ i → J.stop i H'
def LI (w : WA) : TI := fun σ H Rr => ∃ S F R, Rel K E F H σ S ∧ w S R ∧ ∀ ds S' J F' H', R ds S' → Feeds K J F' ds → Rel K E F' H' σ S' → Ext F F' → Rr J H'
def LS (w : WS) : TS := fun D σ H => ∃ (S : Sg) (F : Hp) (R : We), Rel K E F H σ S ∧ w R S ∧
  (∀ S' σ' F' H', R.nx S' → Rel K E F' H' σ' S' → Ext F F' → D.nx σ' H') ∧ (∀ S' σ' F' H', R.bk S' → Rel K E F' H' σ' S' → Ext F F' → D.bk σ' H') ∧
  (∀ S' σ' F' H', R.ct S' → Rel K E F' H' σ' S' → Ext F F' → D.ct σ' H') ∧ (∀ d S' v σ' F' H', R.rt d S' → Rep K F' v d → Rel K E F' H' σ' S' → Ext F F' → D.rt v H')
end

def DE (X : Cx) (e : Expr) (w : WE) : Prop := ∀ E, PE X e (LE X.K E w)
def DN (X : Cx) (e : Expr) (w : WE) : Prop := ∀ E, PE X e (LN X.K E w)
def DT (X : Cx) (e : Expr) (w : WT) : Prop := ∀ E, PT X e (LT X.K E w)
def DW (X : Cx) (e : Expr) (w : WT) : Prop := ∀ E, PW X e (LT X.K E w)
def DA (X : Cx) (es : List Expr) (n : Nat) (w : WA) : Prop := ∀ E, PA X es (LA X.K E n w)
def DG (X : Cx) (e : Expr) (w : WG) : Prop := ∀ E, PG X e (LG X.K E w)
def DI (X : Cx) (tg e : Expr) (w : WA) : Prop := ∀ E, PI X tg e (LI X.K E w)
def DS (X : Cx) (s : Stmt) (w : WS) : Prop := ∀ E, PS X s (LS X.K E w)
def DSs (X : Cx) (s : List Stmt) (w : WS) : Prop := ∀ E, PSs X s (LS X.K E w)

/-! ### weakening -/
section
variable {X : Cx} {e : Expr} {es : List Expr} {st : Stmt} {sts : List Stmt}
theorem PE.imp {t t' : TE} (h : PE X e t) (hi : ∀ σ H Q, t' σ H Q → t σ H Q) : PE X e t' := ⟨fun pins s σ H Q I q => h.run pins s σ H Q I (hi _ _ _ q)⟩
theorem PT.imp {t t' : TT} (h : PT X e t) (hi : ∀ σ H Q, t' σ H Q → t σ H Q) : PT X e t' := ⟨fun pins s σ H Q I q => h.run pins s σ H Q I (hi _ _ _ q)⟩
theorem PW.imp {t t' : TT} (h : PW X e t) (hi : ∀ σ H Q, t' σ H Q → t σ H Q) : PW X e t' := ⟨fun wh pins s σ H Q I q => h.run wh pins s σ H Q I (hi _ _ _ q)⟩
theorem PA.imp {t t' : TA} (h : PA X es t) (hi : ∀ σ H Q, t' σ H Q → t σ H Q) : PA X es t' := ⟨fun pos pins s σ H Q I q => h.run pos pins s σ H Q I (hi _ _ _ q)⟩
theorem PG.imp {t t' : TG} (h : PG X e t) (hi : ∀ v σ H Q, t' v σ H Q → t v σ H Q) : PG X e t' := ⟨fun pins s σ H v u Q I r q => h.run pins s σ H v u Q I r (hi _ _ _ _ q)⟩
theorem PI.imp {tg : Expr} {t t' : TI} (h : PI X tg e t) (hi : ∀ σ H Q, t' σ H Q → t σ H Q) : PI X tg e t' := ⟨fun pins s σ H Q I q => h.run pins s σ H Q I (hi _ _ _ q)⟩
theorem PS.imp {t t' : TS} (h : PS X st t) (hi : ∀ D σ H, t' D σ H → t D σ H) : PS X st t' := ⟨fun pins s σ H D I q => h.run pins s σ H D I (hi _ _ _ q)⟩
theorem PSs.imp {t t' : TS} (h : PSs X sts t) (hi : ∀ D σ H, t' D σ H → t D σ H) : PSs X sts t' := ⟨fun pins s σ H D I q => h.run pins s σ H D I (hi _ _ _ q)⟩
theorem OpR.any {f : Value → Value → Sem Value} {r : R2} (h : ∀ x y H Q, r x y H Q → ∃ r', OpR X f r' ∧ r' x y H Q) : OpR X f r := fun pins s σ H x y v u Q I rx ry q =>
  let ⟨_, ho, q'⟩ := h x y H Q q
  ho pins s σ H x y v u Q I rx ry q'
theorem CallR.any {f : Value} {r : List V → Hp → VK → Prop} (h : ∀ xs H Q, r xs H Q → ∃ r', CallR X f r' ∧ r' xs H Q) : CallR X f r := fun pins s σ H xs us Q I rx q =>
  let ⟨_, ho, q'⟩ := h xs H Q q
  ho pins s σ H xs us Q I rx q'
theorem IxR.any {r : R2} (h : ∀ x y H Q, r x y H Q → ∃ r', IxR X r' ∧ r' x y H Q) : IxR X r := fun a b pins s σ H x y v u Q I rx ry q e =>
  let ⟨_, ho, q'⟩ := h x y H Q q
  ho a b pins s σ H x y v u Q I rx ry q' e
theorem MtR.any {id : String} {r : V → List V → Hp → VK → Prop} (h : ∀ x xs H Q, r x xs H Q → ∃ r', MtR X id r' ∧ r' x xs H Q) : MtR X id r := fun pins s σ H x xs v us Q I rx rs q =>
  let ⟨_, ho, q'⟩ := h x xs H Q q
  ho pins s σ H x xs v us Q I rx rs q'
theorem UnR.any {f : Value → Sem Value} {r : V → Hp → VK → Prop} (h : ∀ x H Q, r x H Q → ∃ r', UnR X f r' ∧ r' x H Q) : UnR X f r := fun pins s σ H x v Q I rx q =>
  let ⟨_, ho, q'⟩ := h x H Q q
  ho pins s σ H x v Q I rx q'
end

/-! ### names, constants, operators -/
def wVar (i : Nat) : WE := fun S R => match S.s[i]? with
  | some (.f d) => R d S
  | some (.o d) => R d (S.st i (.f d))
  | _ => False
def wC (d : D) : WE := fun S R => R d S
/-- a two-place operation on data: what it asks, what it gives -/
abbrev O2 := D → D → (D → Prop) → Prop
abbrev O1 := D → (D → Prop) → Prop
def wOp (g : O2) (wa wb : WE) : WE := fun S R => wa S fun x S1 => wb S1 fun y S2 => g x y fun z => R z S2
def wUn (g : O1) (wa : WE) : WE := fun S R => wa S fun x S1 => g x fun z => R z S1
def rV (K : PySem.W.Frag) (g : O2) : R2 := fun x y H Q => ∃ F d e R, Ext F H ∧ Rep K F x d ∧ Rep K F y e ∧ g d e R ∧ ∀ z v F' H', R z → Rep K F' v z → Al F H F' H' → Q v H'
def rV1 (K : PySem.W.Frag) (g : O1) : V → Hp → VK → Prop := fun x H Q => ∃ F d R, Ext F H ∧ Rep K F x d ∧ g d R ∧ ∀ z v F' H', R z → Rep K F' v z → Al F H F' H' → Q v H'
abbrev OpV (X : Cx) (f : Value → Value → Sem Value) (g : O2) : Prop := OpR X f (rV X.K g)
abbrev UnV (X : Cx) (f : Value → Sem Value) (g : O1) : Prop := UnR X f (rV1 X.K g)
section
variable {X : Cx} {a b c : Expr} {wa wb wc : WE} {pos : Pos}
theorem de_var {x : Str} (i : Nat) (h : PE X (.Name x pos) (tVar i)) : DE X (.Name x pos) (wVar i) := fun E => PE.imp h fun σ H Q => by
  rintro ⟨S, F, R, hR, hw, k⟩
  unfold wVar at hw
  split at hw
  · rename_i d hd
    obtain ⟨v, h1, h2⟩ := hR.frz i d hd
    exact ⟨v, h1, k d S v F H hw h2 hR (.refl _)⟩
  · rename_i d hd
    obtain ⟨p, F', h1, h2, h3, h4⟩ := hR.freeze hd
    exact ⟨_, h1, k d _ _ F' H hw h2 h4 h3⟩
  · exact hw.elim
theorem de_c {v : V} {d : D} (h : PE X a (tC v)) (r : ∀ F, Rep X.K F v d) : DE X a (wC d) := fun E => PE.imp h fun σ H Q => by
  rintro ⟨S, F, R, hR, hw, k⟩
  exact k d S v F H hw (r F) hR (.refl _)
theorem de_int {i : Int} {j : Nat} : DE X (.Constant (.int i) j pos) (wC (.int i)) := de_c pe_int fun _ => .int _
theorem de_bl {i : Bool} {j : Nat} : DE X (.Constant (.bool i) j pos) (wC (.bl i)) := de_c pe_bl fun _ => .bl _
theorem de_non {j : Nat} : DE X (.Constant .none j pos) (wC .non) := de_c pe_non fun _ => .non
theorem de_str {x : Str} {j : Nat} : DE X (.Constant (.str x) j pos) (wC (.str x)) := de_c pe_str fun _ => .str _
/-- a constant of the module -/
theorem de_glob {x : Str} {v : V} {u : Value} {d : D} (hg : Gl X x) (hm : X.mg x = some u) (r : RelV v u) (rd : ∀ F, Rep X.K F v d) (hd : (x == ("__debug__" : Str)) = false := by decide) : DE X (.Name x pos) (wC d) := de_c (pe_glob hg hm r hd) rd
theorem de_op {op : Operator} {g : O2} (ho : OpV X (binaryOp op) g) (ha : DE X a wa) (hb : DE X b wb) : DE X (.BinOp a op b pos) (wOp g wa wb) := fun E => PE.imp (pe_op ho (ha E) (hb E)) fun σ H Q => by
  rintro ⟨S, F, R, hR, hw, k⟩
  refine ⟨S, F, _, hR, hw, fun x S1 v1 F1 H1 hw1 r1 hR1 x1 => ?_⟩
  refine ⟨S1, F1, _, hR1, hw1, fun y S2 v2 F2 H2 hw2 r2 hR2 x2 => ?_⟩
  exact ⟨F2, x, y, _, hR2.g.ext, r1.mono x2, r2, hw2, fun z v F' H' hz rz al => k z S2 v F' H' hz rz (hR2.al al) ((x1.trans x2).trans al.xF)⟩
theorem de_un {op : UnaryOp} {g : O1} (ho : UnV X (unaryOp op) g) (ha : DE X a wa) : DE X (.UnaryOp op a pos) (wUn g wa) := fun E => PE.imp (pe_un ho (ha E)) fun σ H Q => by
  rintro ⟨S, F, R, hR, hw, k⟩
  refine ⟨S, F, _, hR, hw, fun x S1 v1 F1 H1 hw1 r1 hR1 x1 => ?_⟩
  exact ⟨F1, x, _, hR1.g.ext, r1, hw1, fun z v F' H' hz rz al => k z S1 v F' H' hz rz (hR1.al al) (x1.trans al.xF)⟩
/-- a fresh container as a value -/
theorem de_new (ha : DN X a wa) : DE X a wa := fun E => PE.imp (ha E) fun σ H Q => by
  rintro ⟨S, F, R, hR, hw, k⟩
  refine ⟨S, F, _, hR, hw, fun d S1 p F1 H1 hw1 f hR1 x1 => ?_⟩
  obtain ⟨o, ho⟩ := Option.ne_none_iff_exists'.mp f.at_.there
  exact k d S1 _ _ H1 hw1 (f.at_.rep ho f.nF) (hR1.freezeN f ho) (x1.trans (.new f.nF))
end

/-! ### the operators -/
def opAdd : O2
  | .int i, .int j, R => R (.int (i + j))
  | .int i, .bl k, R => R (.int (i + PyProof.Rows.b2i k))
  | .str x, .str y, R => x.length + y.length ≤ sizeLine ∧ R (.str (x ++ y))
  | .tup xs, .tup ys, R => xs.length + ys.length ≤ sizeLine ∧ R (.tup (xs ++ ys))
  | .lst xs, .lst ys, R => xs.length + ys.length ≤ sizeLine ∧ R (.lst (xs ++ ys))
  | _, _, _ => False
def opI (f : Int → Int → Int) : O2
  | .int i, .int j, R => R (.int (f i j))
  | _, _, _ => False
def opIC (C : Int → Int → Prop) (f : Int → Int → Int) : O2
  | .int i, .int j, R => C i j ∧ R (.int (f i j))
  | _, _, _ => False
def opIB (f : Int → Int → Bool) : O2
  | .int i, .int j, R => R (.bl (f i j))
  | _, _, _ => False
def opAddI : O2
  | .int i, .int j, R => R (.int (i + j))
  | _, _, _ => False
def opSub : O2
  | .int i, .int j, R => R (.int (i - j))
  | _, _, _ => False
def opMul : O2
  | .int i, .int j, R => CMulX i j ∧ R (.int (i * j))
  | .lst xs, .int k, R => -(2 ^ 63) ≤ k ∧ k < 2 ^ 63 ∧ xs.length * k.toNat ≤ sizeLine ∧ R (.lst (List.replicate k.toNat xs).flatten)
  | _, _, _ => False
def opDiv : O2
  | .int i, .int j, R => CDivW i j ∧ R (.int (i / j))
  | _, _, _ => False
def opMod : O2
  | .int i, .int j, R => 0 < j ∧ R (.int (i % j))
  | _, _, _ => False
def opPow : O2
  | .int i, .int j, R => CPow i j ∧ R (.int (i ^ j.toNat))
  | _, _, _ => False
def opShl : O2
  | .int i, .int j, R => CShl i j ∧ R (.int (i * 2 ^ j.toNat))
  | _, _, _ => False
def opShr : O2
  | .int i, .int j, R => 0 ≤ j ∧ R (.int (i / 2 ^ j.toNat))
  | _, _, _ => False
def opAnd : O2
  | .int i, .int j, R => R (.int (Builtin.bitAnd i j))
  | _, _, _ => False
def opOr : O2
  | .int i, .int j, R => R (.int (Builtin.bitOr i j))
  | _, _, _ => False
def opXor : O2
  | .int i, .int j, R => R (.int (Builtin.bitXor i j))
  | _, _, _ => False
def opNeg : O1
  | .int i, R => R (.int (-i))
  | _, _ => False
def opInv : O1
  | .int i, R => R (.int (Builtin.bitNot i))
  | _, _ => False
theorem OpV.imp {X : Cx} {f : Value → Value → Sem Value} {g g' : O2} (h : OpV X f g) (hi : ∀ d e R, g' d e R → g d e R) : OpV X f g' := fun pins s σ H x y v u Q I rx ry q =>
  let ⟨F, d, e, R, hx, r1, r2, hg, k⟩ := q
  h pins s σ H x y v u Q I rx ry ⟨F, d, e, R, hx, r1, r2, hi _ _ _ hg, k⟩
/-- ints alone -/
theorem opI_V {X : Cx} {f : Value → Value → Sem Value} {g : Int → Int → Int} (h : OpR X f (rI0 fun i j => .int (g i j))) : OpV X f (opI g) := OpR.any fun x y H Q => by
  rintro ⟨F, d, e, R, hx, r1, r2, hg, k⟩
  refine ⟨_, h, ?_⟩
  cases r1 <;> cases r2 <;> try exact hg.elim
  exact ⟨_, _, rfl, rfl, k _ _ F H hg (.int _) (.refl hx)⟩
theorem opIC_V {X : Cx} {f : Value → Value → Sem Value} {C : Int → Int → Prop} {g : Int → Int → Int} (h : OpR X f (rI C fun i j => .int (g i j))) : OpV X f (opIC C g) := OpR.any fun x y H Q => by
  rintro ⟨F, d, e, R, hx, r1, r2, hg, k⟩
  refine ⟨_, h, ?_⟩
  cases r1 <;> cases r2 <;> try exact hg.elim
  exact ⟨_, _, rfl, rfl, hg.1, k _ _ F H hg.2 (.int _) (.refl hx)⟩
theorem opIB_V {X : Cx} {f : Value → Value → Sem Value} {g : Int → Int → Bool} (h : OpR X f (rI0 fun i j => .bl (g i j))) : OpV X f (opIB g) := OpR.any fun x y H Q => by
  rintro ⟨F, d, e, R, hx, r1, r2, hg, k⟩
  refine ⟨_, h, ?_⟩
  cases r1 <;> cases r2 <;> try exact hg.elim
  exact ⟨_, _, rfl, rfl, k _ _ F H hg (.bl _) (.refl hx)⟩
section
variable {X : Cx}
theorem ov_add : OpV X (binaryOp .Add) opAdd := OpR.any fun x y H Q => by
  rintro ⟨F, d, e, R, hx, r1, r2, hg, k⟩
  cases r1 with
  | int i =>
    cases r2 with
    | int j => exact ⟨_, op_add, _, _, rfl, rfl, k _ _ F H hg (.int _) (.refl hx)⟩
    | bl j => exact ⟨_, op_add_ib, _, _, rfl, rfl, k _ _ F H hg (.int _) (.refl hx)⟩
    | _ => exact hg.elim
  | str x =>
    cases r2 with
    | str y => exact ⟨_, op_add_str, _, _, rfl, rfl, hg.1, k _ _ F H hg.2 (.str _) (.refl hx)⟩
    | _ => exact hg.elim
  | tup h1 s1 =>
    cases r2 with
    | tup h2 s2 =>
      have l1 := s1.length
      have l2 := s2.length
      have s12 := s1.append s2
      have q1 := hg.1
      rename_i a1 vs1 ds1 a2 vs2 ds2
      refine ⟨_, op_catA, a1, a2, vs1, vs2, rfl, rfl, hx.sqT h1, hx.sqT h2, by omega, fun z => ?_, fun z1 z2 => ?_, fun z1 z2 p hp => ?_⟩
      · subst z
        cases s1
        exact k _ _ F H hg.2 (.tup h2 s2) (.refl hx)
      · subst z2
        exact k _ _ F H hg.2 (.tup h1 (by rw [List.append_nil] at s12; exact s12)) (.refl hx)
      · have al := Al.one (o := .tup (vs1 ++ vs2)) hx hp
        exact k _ _ _ _ hg.2 (.tup (.of upd_same) (s12.mono al.xF)) al
    | _ => exact hg.elim
  | lst h1 s1 =>
    cases r2 with
    | lst h2 s2 =>
      have l1 := s1.length
      have l2 := s2.length
      have s12 := s1.append s2
      have q1 := hg.1
      rename_i a1 vs1 ds1 a2 vs2 ds2
      refine ⟨_, op_cat, a1, a2, vs1, vs2, rfl, rfl, hx _ _ h1, hx _ _ h2, by omega, fun p hp => ?_⟩
      have al := Al.one (o := .lst (vs1 ++ vs2)) hx hp
      exact k _ _ _ _ hg.2 (.lst upd_same (s12.mono al.xF)) al
    | _ => exact hg.elim
  | _ => exact hg.elim
end

section
variable {X : Cx}
theorem ov_sub : OpV X (binaryOp .Sub) opSub := OpV.imp (opI_V op_sub) fun d e R h => by cases d <;> cases e <;> first | exact h | exact h.elim
theorem ov_mul : OpV X (binaryOp .Mult) opMul := OpR.any fun x y H Q => by
  rintro ⟨F, d, e, R, hx, r1, r2, hg, k⟩
  cases r1 with
  | int i =>
    cases r2 with
    | int j => exact ⟨_, op_mulX, _, _, rfl, rfl, hg.1, k _ _ F H hg.2 (.int _) (.refl hx)⟩
    | _ => exact hg.elim
  | lst h1 s1 =>
    cases r2 with
    | int j =>
      have l1 := s1.length
      obtain ⟨q1, q2, q3, q4⟩ := hg
      rename_i a1 vs1 ds1
      refine ⟨_, op_rep, a1, j, vs1, rfl, rfl, hx _ _ h1, q1, q2, by rw [l1]; exact q3, fun p hp => ?_⟩
      have al := Al.one (o := .lst (List.replicate j.toNat vs1).flatten) hx hp
      exact k _ _ _ _ q4 (.lst upd_same ((s1.rep _).mono al.xF)) al
    | _ => exact hg.elim
  | _ => exact hg.elim
theorem ov_div : OpV X (binaryOp .FloorDiv) opDiv := OpV.imp (opIC_V op_fdivW) fun d e R h => by cases d <;> cases e <;> first | exact h | exact h.elim
theorem ov_mod : OpV X (binaryOp .Mod) opMod := OpV.imp (opIC_V op_mod) fun d e R h => by cases d <;> cases e <;> first | exact h | exact h.elim
theorem ov_pow : OpV X (binaryOp .Pow) opPow := OpV.imp (opIC_V op_pow) fun d e R h => by cases d <;> cases e <;> first | exact h | exact h.elim
theorem ov_shl : OpV X (binaryOp .LShift) opShl := OpV.imp (opIC_V op_shlW) fun d e R h => by cases d <;> cases e <;> first | exact h | exact h.elim
theorem ov_shr : OpV X (binaryOp .RShift) opShr := OpV.imp (opIC_V op_shr) fun d e R h => by cases d <;> cases e <;> first | exact h | exact h.elim
theorem ov_and : OpV X (binaryOp .BitAnd) opAnd := OpV.imp (opI_V op_and) fun d e R h => by cases d <;> cases e <;> first | exact h | exact h.elim
theorem ov_or : OpV X (binaryOp .BitOr) opOr := OpV.imp (opI_V op_or) fun d e R h => by cases d <;> cases e <;> first | exact h | exact h.elim
theorem ov_xor : OpV X (binaryOp .BitXor) opXor := OpV.imp (opI_V op_xor) fun d e R h => by cases d <;> cases e <;> first | exact h | exact h.elim
theorem iv_add : OpV X (inplaceOp .Add) opAddI := OpV.imp (opI_V iop_add) fun d e R h => by cases d <;> cases e <;> first | exact h | exact h.elim
theorem iv_sub : OpV X (inplaceOp .Sub) opSub := OpV.imp (opI_V iop_sub) fun d e R h => by cases d <;> cases e <;> first | exact h | exact h.elim
theorem iv_and : OpV X (inplaceOp .BitAnd) opAnd := OpV.imp (opI_V iop_and) fun d e R h => by cases d <;> cases e <;> first | exact h | exact h.elim
theorem iv_or : OpV X (inplaceOp .BitOr) opOr := OpV.imp (opI_V iop_or) fun d e R h => by cases d <;> cases e <;> first | exact h | exact h.elim
theorem iv_xor : OpV X (inplaceOp .BitXor) opXor := OpV.imp (opI_V iop_xor) fun d e R h => by cases d <;> cases e <;> first | exact h | exact h.elim
theorem uv_neg : UnV X (unaryOp .USub) opNeg := UnR.any fun x H Q => by
  rintro ⟨F, d, R, hx, r1, hg, k⟩
  cases r1 with
  | int i => exact ⟨_, un_neg, _, rfl, k _ _ F H hg (.int _) (.refl hx)⟩
  | _ => exact hg.elim
theorem uv_inv : UnV X (unaryOp .Invert) opInv := UnR.any fun x H Q => by
  rintro ⟨F, d, R, hx, r1, hg, k⟩
  cases r1 with
  | int i => exact ⟨_, un_inv, _, rfl, k _ _ F H hg (.int _) (.refl hx)⟩
  | _ => exact hg.elim
end

/-! ### comparisons -/
def opEq : O2
  | .int i, .int j, R => R (.bl (i == j))
  | .str i, .str j, R => R (.bl (i == j))
  | .bl i, .bl j, R => R (.bl (i == j))
  | d, e, R => shD 8 d = true ∧ shD 8 e = true ∧ R (.bl (eqD d e))
def opNe : O2
  | .int i, .int j, R => R (.bl (!(i == j)))
  | .str i, .str j, R => R (.bl (!(i == j)))
  | .bl i, .bl j, R => R (.bl (!(i == j)))
  | d, e, R => shD 8 d = true ∧ shD 8 e = true ∧ R (.bl (!eqD d e))
def opLt : O2
  | .int i, .int j, R => R (.bl (decide (i < j)))
  | _, _, _ => False
def opLe : O2
  | .int i, .int j, R => R (.bl (decide (i ≤ j)))
  | _, _, _ => False
def opGt : O2
  | .int i, .int j, R => R (.bl (decide (j < i)))
  | _, _, _ => False
def opGe : O2
  | .int i, .int j, R => R (.bl (decide (j ≤ i)))
  | _, _, _ => False
/-- tuples of ints in order, too -/
def opLtT : O2
  | .int i, .int j, R => R (.bl (decide (i < j)))
  | .tup ds, .tup es, R => ∃ ns ms, ds = ns.map D.int ∧ es = ms.map D.int ∧ R (.bl (HT.lexLt ns ms))
  | _, _, _ => False
def opIsN : O2
  | d, .non, R => R (.bl (match d with | .non => true | _ => false))
  | _, _, _ => False
def opNotN : O2
  | d, .non, R => R (.bl (match d with | .non => false | _ => true))
  | _, _, _ => False
def flat : D → Bool
  | .non => true
  | .bl _ => true
  | .int _ => true
  | .str _ => true
  | _ => false
def inD (x : D) (ds : List D) : Bool := ds.any fun y => eqD y x
def opIn : O2
  | x, .tup ds, R => flat x = true ∧ ds.all flat = true ∧ R (.bl (inD x ds))
  | x, .lst ds, R => flat x = true ∧ ds.all flat = true ∧ R (.bl (inD x ds))
  | .str x, .str y, R => R (.bl (!(Builtin.Str.occurrences y x 0 y.length 1).isEmpty))
  | _, _, _ => False
def opNotIn : O2
  | x, .tup ds, R => flat x = true ∧ ds.all flat = true ∧ R (.bl (!inD x ds))
  | x, .lst ds, R => flat x = true ∧ ds.all flat = true ∧ R (.bl (!inD x ds))
  | .str x, .str y, R => R (.bl (!(!(Builtin.Str.occurrences y x 0 y.length 1).isEmpty)))
  | _, _, _ => False
section
variable {X : Cx} {K : PySem.W.Frag} {F H : Hp}
theorem Rep.flat {v : V} {d : D} (r : Rep K F v d) (h : flat d = true) : flatV v = true := by
  cases r <;> first | rfl | exact nomatch h
theorem Reps.flat : ∀ {vs : List V} {ds : List D}, Reps K F vs ds → ds.all VL.flat = true → vs.all flatV = true
  | _, _, .nil, _ => rfl
  | _, _, .cons r t, h => by
    rw [List.all_cons, Bool.and_eq_true] at h ⊢
    exact ⟨r.flat h.1, Reps.flat t h.2⟩
theorem Rep.eqV {v u : V} {d e : D} (r : Rep K F v d) (s : Rep K F u e) (h : VL.flat d = true) (h' : VL.flat e = true) : L2.eqV v u = eqD d e := by
  cases r <;> cases s <;> first | rfl | exact nomatch h | exact nomatch h'
theorem Rep.inV {v : V} {x : D} (r : Rep K F v x) (h : VL.flat x = true) : ∀ {vs : List V} {ds : List D}, Reps K F vs ds → ds.all VL.flat = true → L2.inV v vs = inD x ds
  | _, _, .nil, _ => rfl
  | _, _, .cons s t, h' => by
    rw [List.all_cons, Bool.and_eq_true] at h'
    show (L2.eqV _ v || L2.inV v _) = (eqD _ x || inD x _)
    rw [s.eqV r h'.1 h, Rep.inV r h t h'.2]
theorem ov_eq (hu : X.A.units + 64 < cLine) : OpV X (compareOp .Eq) opEq := OpR.any fun x y H Q => by
  rintro ⟨F, d, e, R, hx, r1, r2, hg, k⟩
  unfold opEq at hg
  split at hg
  · cases r1; cases r2
    refine ⟨_, op_eq, rfl, ?_⟩
    rw [dec_int]
    exact k _ _ F H hg (.bl _) (.refl hx)
  · cases r1; cases r2
    refine ⟨_, op_eq, rfl, ?_⟩
    rw [dec_str]
    exact k _ _ F H hg (.bl _) (.refl hx)
  · cases r1; cases r2
    refine ⟨_, op_eq, rfl, ?_⟩
    rw [dec_bl]
    exact k _ _ F H hg (.bl _) (.refl hx)
  · obtain ⟨s1, s2, q⟩ := hg
    refine ⟨_, op_eqD hu, d.pd, e.pd, r1.dp hx s1, r2.dp hx s2, shaped_sh s1 (by decide), shaped_sh s2 (by decide), ?_⟩
    rw [eqD_pd 8 d e s1 s2]
    exact k _ _ F H q (.bl _) (.refl hx)
theorem ov_ne (hu : X.A.units + 64 < cLine) : OpV X (compareOp .NotEq) opNe := OpR.any fun x y H Q => by
  rintro ⟨F, d, e, R, hx, r1, r2, hg, k⟩
  unfold opNe at hg
  split at hg
  · cases r1; cases r2
    refine ⟨_, op_ne, rfl, ?_⟩
    rw [dec_int]
    exact k _ _ F H hg (.bl _) (.refl hx)
  · cases r1; cases r2
    refine ⟨_, op_ne, rfl, ?_⟩
    rw [dec_str]
    exact k _ _ F H hg (.bl _) (.refl hx)
  · cases r1; cases r2
    refine ⟨_, op_ne, rfl, ?_⟩
    rw [dec_bl]
    exact k _ _ F H hg (.bl _) (.refl hx)
  · obtain ⟨s1, s2, q⟩ := hg
    refine ⟨_, op_neD hu, d.pd, e.pd, r1.dp hx s1, r2.dp hx s2, shaped_sh s1 (by decide), shaped_sh s2 (by decide), ?_⟩
    rw [eqD_pd 8 d e s1 s2]
    exact k _ _ F H q (.bl _) (.refl hx)
theorem ov_lt : OpV X (compareOp .Lt) opLt := OpV.imp (opIB_V op_lt) fun d e R h => by cases d <;> cases e <;> first | exact h | exact h.elim
theorem ov_le : OpV X (compareOp .LtE) opLe := OpV.imp (opIB_V op_le) fun d e R h => by cases d <;> cases e <;> first | exact h | exact h.elim
theorem ov_gt : OpV X (compareOp .Gt) opGt := OpV.imp (opIB_V op_gt) fun d e R h => by cases d <;> cases e <;> first | exact h | exact h.elim
theorem ov_ge : OpV X (compareOp .GtE) opGe := OpV.imp (opIB_V op_ge) fun d e R h => by cases d <;> cases e <;> first | exact h | exact h.elim
theorem ov_ltT (hu : X.A.units + 64 < cLine) : OpV X (compareOp .Lt) opLtT := OpR.any fun x y H Q => by
  rintro ⟨F, d, e, R, hx, r1, r2, hg, k⟩
  unfold opLtT at hg
  split at hg
  · cases r1; cases r2
    exact ⟨_, op_lt, _, _, rfl, rfl, k _ _ F H hg (.bl _) (.refl hx)⟩
  · obtain ⟨ns, ms, rfl, rfl, q⟩ := hg
    cases r1 with
    | tup h1 s1 =>
      cases r2 with
      | tup h2 s2 =>
        have e1 := s1.ints
        have e2 := s2.ints
        subst e1
        subst e2
        exact ⟨_, op_ltT (by omega), _, _, ns, ms, rfl, rfl, hx.sqT h1, hx.sqT h2, k _ _ F H q (.bl _) (.refl hx)⟩
  · exact hg.elim
theorem ov_isN : OpV X (compareOp .Is) opIsN := OpR.any fun x y H Q => by
  rintro ⟨F, d, e, R, hx, r1, r2, hg, k⟩
  refine ⟨_, op_isN, ?_⟩
  unfold opIsN at hg
  split at hg
  · cases r2
    refine ⟨rfl, ?_⟩
    cases r1 <;> exact k _ _ F H hg (.bl _) (.refl hx)
  · exact hg.elim
theorem ov_notN : OpV X (compareOp .IsNot) opNotN := OpR.any fun x y H Q => by
  rintro ⟨F, d, e, R, hx, r1, r2, hg, k⟩
  refine ⟨_, op_notN, ?_⟩
  unfold opNotN at hg
  split at hg
  · cases r2
    refine ⟨rfl, ?_⟩
    cases r1 <;> exact k _ _ F H hg (.bl _) (.refl hx)
  · exact hg.elim
theorem ov_in : OpV X (compareOp .In) opIn := OpR.any fun x y H Q => by
  rintro ⟨F, d, e, R, hx, r1, r2, hg, k⟩
  unfold opIn at hg
  split at hg
  · obtain ⟨f1, f2, q⟩ := hg
    cases r2 with
    | tup h s =>
      refine ⟨_, op_in_seq, _, _, rfl, .inr (hx.sqT h), r1.flat f1, s.flat f2, ?_⟩
      rw [if_neg (by simp), r1.inV f1 s f2]
      exact k _ _ F H q (.bl _) (.refl hx)
  · obtain ⟨f1, f2, q⟩ := hg
    cases r2 with
    | lst h s =>
      refine ⟨_, op_in_seq, _, _, rfl, .inl (.of (hx _ _ h)), r1.flat f1, s.flat f2, ?_⟩
      rw [if_neg (by simp), r1.inV f1 s f2]
      exact k _ _ F H q (.bl _) (.refl hx)
  · cases r1; cases r2
    exact ⟨_, op_in_str, _, _, rfl, rfl, k _ _ F H hg (.bl _) (.refl hx)⟩
  · exact hg.elim
theorem ov_notIn : OpV X (compareOp .NotIn) opNotIn := OpR.any fun x y H Q => by
  rintro ⟨F, d, e, R, hx, r1, r2, hg, k⟩
  unfold opNotIn at hg
  split at hg
  · obtain ⟨f1, f2, q⟩ := hg
    cases r2 with
    | tup h s =>
      refine ⟨_, op_notIn_seq, _, _, rfl, .inr (hx.sqT h), r1.flat f1, s.flat f2, ?_⟩
      rw [if_pos rfl, r1.inV f1 s f2]
      exact k _ _ F H q (.bl _) (.refl hx)
  · obtain ⟨f1, f2, q⟩ := hg
    cases r2 with
    | lst h s =>
      refine ⟨_, op_notIn_seq, _, _, rfl, .inl (.of (hx _ _ h)), r1.flat f1, s.flat f2, ?_⟩
      rw [if_pos rfl, r1.inV f1 s f2]
      exact k _ _ F H q (.bl _) (.refl hx)
  · cases r1; cases r2
    exact ⟨_, op_notIn_str, _, _, rfl, rfl, k _ _ F H hg (.bl _) (.refl hx)⟩
  · exact hg.elim
end
/-- a test of a value -/
def tru : D → (Bool → Prop) → Prop
  | .non, R => R false
  | .bl b, R => R b
  | .int i, R => R (i != 0)
  | .str x, R => x.length ≤ sizeLine ∧ R ((x.length : Int) != 0)
  | .tup ds, R => R (!ds.isEmpty)
  | .lst ds, R => R (!ds.isEmpty)
  | .dct ks _, R => R (!ks.isEmpty)
  | _, _ => False
def wB (w : WE) : WT := fun S R => w S fun d S1 => tru d fun b => R b S1
/-- a value that is a bool, as a test -/
def wBb (w : WE) : WT := fun S R => w S fun d S1 => match d with
  | .bl b => R b S1
  | _ => False
def wAnd (t u : WT) : WT := fun S R => t S fun b S1 => Br b (u S1 R) (R false S1)
def wOr (t u : WT) : WT := fun S R => t S fun b S1 => Br b (R true S1) (u S1 R)
def wNot (t : WT) : WT := fun S R => t S fun b S1 => R (!b) S1
def wIf (t : WT) (u v : WE) : WE := fun S R => t S fun b S1 => Br b (u S1 R) (v S1 R)
/-- and, or, not as values: all but the last of them bools -/
def wAndV (u v : WE) : WE := fun S R => u S fun d S1 => match d with
  | .bl b => Br b (v S1 R) (R (.bl false) S1)
  | _ => False
def wOrV (u v : WE) : WE := fun S R => u S fun d S1 => match d with
  | .bl b => Br b (R (.bl true) S1) (v S1 R)
  | _ => False
def wNotV (u : WE) : WE := fun S R => u S fun d S1 => match d with
  | .bl b => R (.bl (!b)) S1
  | _ => False
def wChain (g g' : O2) (wa wb wc : WE) : WE := fun S R => wa S fun x S1 => wb S1 fun y S2 => g x y fun z => match z with
  | .bl b => Br b (wc S2 fun w S3 => g' y w fun r => R r S3) (R (.bl false) S2)
  | _ => False
section
variable {X : Cx} {a b c : Expr} {wa wb wc : WE} {pos : Pos} {t u : WT}
theorem Rep.tru {K : PySem.W.Frag} {F H : Hp} (x : Ext F H) {v : V} {d : D} {R : Bool → Prop} (r : Rep K F v d) (h : tru d R) : ∃ k, TruV K v H k ∧ R k := by
  cases r with
  | non => exact ⟨_, rfl, h⟩
  | bl b => exact ⟨_, rfl, h⟩
  | int i => exact ⟨_, rfl, h⟩
  | str y => exact ⟨_, ⟨h.1, rfl⟩, h.2⟩
  | tup h1 s =>
    refine ⟨_, .inr (.inl ⟨_, x.sqT h1, rfl⟩), ?_⟩
    have l := s.length
    rename_i a vs ds
    have e : vs.isEmpty = ds.isEmpty := by
      cases s <;> rfl
    rw [e]
    exact h
  | lst h1 s =>
    refine ⟨_, .inl ⟨_, .of (x _ _ h1), rfl⟩, ?_⟩
    rename_i a vs ds
    have e : vs.isEmpty = ds.isEmpty := by
      cases s <;> rfl
    rw [e]
    exact h
  | dct h1 z s =>
    refine ⟨_, .inr (.inr ⟨_, x _ _ h1, rfl⟩), ?_⟩
    rename_i a kvs ks ds
    have e : kvs.isEmpty = ks.isEmpty := by
      subst z
      cases kvs <;> rfl
    rw [e]
    exact h
  | obj a => exact h.elim
  | scr h1 => exact h.elim
  | ty t => exact h.elim
theorem dt_tru (ha : DE X a wa) (he : ∀ whole, isTrue a X.env whole = (do let v ← whole; standAt a.pos; holding [v] (truthy v)) := by intro _; rfl) : DT X a (wB wa) := fun E => PT.imp (pt_truth (ha E) he) fun σ H Q => by
  rintro ⟨S, F, R, hR, hw, k⟩
  refine ⟨S, F, _, hR, hw, fun d S1 v F1 H1 hw1 r1 hR1 x1 => ?_⟩
  obtain ⟨b, h1, h2⟩ := r1.tru hR1.g.ext hw1
  exact ⟨b, h1, k b S1 F1 H1 h2 hR1 x1⟩
theorem dt_cmp {op : CmpOp} {g : O2} (ho : OpV X (compareOp op) g) (ha : DE X a wa) (hb : DE X b wb) (hm : behindInMarks op b = false) : DT X (.Compare a [op] [b] pos) (wBb (wOp g wa wb)) := fun E => PT.imp (pt_cmpR ho (ha E) (hb E) hm) fun σ H Q => by
  rintro ⟨S, F, R, hR, hw, k⟩
  refine ⟨S, F, _, hR, hw, fun x S1 v1 F1 H1 hw1 r1 hR1 x1 => ?_⟩
  refine ⟨S1, F1, _, hR1, hw1, fun y S2 v2 F2 H2 hw2 r2 hR2 x2 => ?_⟩
  refine ⟨F2, x, y, _, hR2.g.ext, r1.mono x2, r2, hw2, fun z v F' H' hz rz al => ?_⟩
  cases rz with
  | bl b => exact ⟨b, rfl, k b S2 F' H' hz (hR2.al al) ((x1.trans x2).trans al.xF)⟩
  | _ => exact hz.elim
theorem de_cmp {op : CmpOp} {g : O2} (ho : OpV X (compareOp op) g) (ha : DE X a wa) (hb : DE X b wb) (hm : behindInMarks op b = false) : DE X (.Compare a [op] [b] pos) (wOp g wa wb) := fun E => PE.imp (pe_cmpR ho (ha E) (hb E) hm) fun σ H Q => by
  rintro ⟨S, F, R, hR, hw, k⟩
  refine ⟨S, F, _, hR, hw, fun x S1 v1 F1 H1 hw1 r1 hR1 x1 => ?_⟩
  refine ⟨S1, F1, _, hR1, hw1, fun y S2 v2 F2 H2 hw2 r2 hR2 x2 => ?_⟩
  exact ⟨F2, x, y, _, hR2.g.ext, r1.mono x2, r2, hw2, fun z v F' H' hz rz al => k z S2 v F' H' hz rz (hR2.al al) ((x1.trans x2).trans al.xF)⟩
theorem de_chain {op op' : CmpOp} {g g' : O2} (ho : OpV X (compareOp op) g) (ho' : OpV X (compareOp op') g') (ha : DE X a wa) (hb : DE X b wb) (hc : DE X c wc) (hm : lastMarks [op, op'] [b, c] = false) : DE X (.Compare a [op, op'] [b, c] pos) (wChain g g' wa wb wc) := fun E => PE.imp (pe_chain ho ho' (ha E) (hb E) (hc E) hm) fun σ H Q => by
  rintro ⟨S, F, R, hR, hw, k⟩
  refine ⟨S, F, _, hR, hw, fun x S1 v1 F1 H1 hw1 r1 hR1 x1 => ?_⟩
  refine ⟨S1, F1, _, hR1, hw1, fun y S2 v2 F2 H2 hw2 r2 hR2 x2 => ?_⟩
  refine ⟨F2, x, y, _, hR2.g.ext, r1.mono x2, r2, hw2, fun z v F' H' hz rz al => ?_⟩
  cases rz with
  | bl b =>
    refine ⟨b, rfl, ?_⟩
    cases b with
    | true =>
      refine ⟨S2, F', _, hR2.al al, br_t hz, fun w S3 v3 F3 H3 hw3 r3 hR3 x3 => ?_⟩
      exact ⟨F3, y, w, _, hR3.g.ext, (r2.mono al.xF).mono x3, r3, hw3, fun q v F4 H4 hq rq al2 => k q S3 v F4 H4 hq rq (hR3.al al2) ((((x1.trans x2).trans al.xF).trans x3).trans al2.xF)⟩
    | false => exact k _ S2 _ F' H' (br_f hz) (.bl _) (hR2.al al) ((x1.trans x2).trans al.xF)
  | _ => exact hz.elim
theorem dt_chain {op op' : CmpOp} {g g' : O2} (ho : OpV X (compareOp op) g) (ho' : OpV X (compareOp op') g') (ha : DE X a wa) (hb : DE X b wb) (hc : DE X c wc) (hm : lastMarks [op, op'] [b, c] = false) : DT X (.Compare a [op, op'] [b, c] pos) (wBb (wChain g g' wa wb wc)) := fun E => PT.imp (pt_chain ho ho' (ha E) (hb E) (hc E) hm) fun σ H Q => by
  rintro ⟨S, F, R, hR, hw, k⟩
  refine ⟨S, F, _, hR, hw, fun x S1 v1 F1 H1 hw1 r1 hR1 x1 => ?_⟩
  refine ⟨S1, F1, _, hR1, hw1, fun y S2 v2 F2 H2 hw2 r2 hR2 x2 => ?_⟩
  refine ⟨F2, x, y, _, hR2.g.ext, r1.mono x2, r2, hw2, fun z v F' H' hz rz al => ?_⟩
  cases rz with
  | bl b =>
    refine ⟨b, rfl, ?_⟩
    cases b with
    | true =>
      refine ⟨S2, F', _, hR2.al al, br_t hz, fun w S3 v3 F3 H3 hw3 r3 hR3 x3 => ?_⟩
      refine ⟨F3, y, w, _, hR3.g.ext, (r2.mono al.xF).mono x3, r3, hw3, fun q v F4 H4 hq rq al2 => ?_⟩
      cases rq with
      | bl c => exact ⟨c, rfl, k c S3 F4 H4 hq (hR3.al al2) ((((x1.trans x2).trans al.xF).trans x3).trans al2.xF)⟩
      | _ => exact hq.elim
    | false => exact ⟨false, rfl, k _ S2 F' H' (br_f hz) (hR2.al al) ((x1.trans x2).trans al.xF)⟩
  | _ => exact hz.elim
theorem DW.pt (h : DW X a t) : DT X a t := fun E => (h E).pt
variable {rest : List Expr}
theorem dw_and1 (ha : DT X a t) : DW X (.BoolOp .And [a] pos) t := fun E => pw_and1 (ha E)
theorem dw_or1 (ha : DT X a t) : DW X (.BoolOp .Or [a] pos) t := fun E => pw_or1 (ha E)
theorem dw_and (ha : DT X a t) (hb : DW X (.BoolOp .And (b :: rest) pos) u) : DW X (.BoolOp .And (a :: b :: rest) pos) (wAnd t u) := fun E => PW.imp (pw_and (ha E) (hb E)) fun σ H Q => by
  rintro ⟨S, F, R, hR, hw, k⟩
  refine ⟨S, F, _, hR, hw, fun b S1 F1 H1 hw1 hR1 x1 => ?_⟩
  cases b with
  | true => exact ⟨S1, F1, R, hR1, br_t hw1, fun b S' F' H' hb hR' x' => k b S' F' H' hb hR' (x1.trans x')⟩
  | false => exact k false S1 F1 H1 (br_f hw1) hR1 x1
theorem dw_or (ha : DT X a t) (hb : DW X (.BoolOp .Or (b :: rest) pos) u) : DW X (.BoolOp .Or (a :: b :: rest) pos) (wOr t u) := fun E => PW.imp (pw_or (ha E) (hb E)) fun σ H Q => by
  rintro ⟨S, F, R, hR, hw, k⟩
  refine ⟨S, F, _, hR, hw, fun b S1 F1 H1 hw1 hR1 x1 => ?_⟩
  cases b with
  | false => exact ⟨S1, F1, R, hR1, br_f hw1, fun b S' F' H' hb hR' x' => k b S' F' H' hb hR' (x1.trans x')⟩
  | true => exact k true S1 F1 H1 (br_t hw1) hR1 x1
theorem dt_not (ha : DT X a t) : DT X (.UnaryOp .Not a pos) (wNot t) := fun E => PT.imp (pt_not (ha E)) fun σ H Q => by
  rintro ⟨S, F, R, hR, hw, k⟩
  exact ⟨S, F, _, hR, hw, fun b S1 F1 H1 hw1 hR1 x1 => k (!b) S1 F1 H1 hw1 hR1 x1⟩
theorem de_if (hc : DT X c t) (ha : DE X a wa) (hb : DE X b wb) : DE X (.IfExp c a b pos) (wIf t wa wb) := fun E => PE.imp (pe_ifExp (hc E) (ha E) (hb E)) fun σ H Q => by
  rintro ⟨S, F, R, hR, hw, k⟩
  refine ⟨S, F, _, hR, hw, fun b S1 F1 H1 hw1 hR1 x1 => ?_⟩
  cases b with
  | true => exact ⟨S1, F1, R, hR1, br_t hw1, fun d S' v F' H' hb r hR' x' => k d S' v F' H' hb r hR' (x1.trans x')⟩
  | false => exact ⟨S1, F1, R, hR1, br_f hw1, fun d S' v F' H' hb r hR' x' => k d S' v F' H' hb r hR' (x1.trans x')⟩
theorem de_one {op : BoolOp} (h : DE X a wa) : DE X (.BoolOp op [a] pos) wa := fun E => pe_one (h E)
theorem de_and (ha : DE X a wa) (hb : DE X (.BoolOp .And (b :: rest) pos) wb) : DE X (.BoolOp .And (a :: b :: rest) pos) (wAndV wa wb) := fun E => PE.imp (pe_and (ha E) (hb E)) fun σ H Q => by
  rintro ⟨S, F, R, hR, hw, k⟩
  refine ⟨S, F, _, hR, hw, fun d S1 v F1 H1 hw1 r1 hR1 x1 => ?_⟩
  cases r1 with
  | bl b =>
    refine ⟨b, rfl, ?_⟩
    cases b with
    | true => exact ⟨S1, F1, R, hR1, br_t hw1, fun d S' v F' H' hb r hR' x' => k d S' v F' H' hb r hR' (x1.trans x')⟩
    | false => exact k _ S1 _ F1 H1 (br_f hw1) (.bl _) hR1 x1
  | _ => exact hw1.elim
theorem de_or (ha : DE X a wa) (hb : DE X (.BoolOp .Or (b :: rest) pos) wb) : DE X (.BoolOp .Or (a :: b :: rest) pos) (wOrV wa wb) := fun E => PE.imp (pe_or (ha E) (hb E)) fun σ H Q => by
  rintro ⟨S, F, R, hR, hw, k⟩
  refine ⟨S, F, _, hR, hw, fun d S1 v F1 H1 hw1 r1 hR1 x1 => ?_⟩
  cases r1 with
  | bl b =>
    refine ⟨b, rfl, ?_⟩
    cases b with
    | false => exact ⟨S1, F1, R, hR1, br_f hw1, fun d S' v F' H' hb r hR' x' => k d S' v F' H' hb r hR' (x1.trans x')⟩
    | true => exact k _ S1 _ F1 H1 (br_t hw1) (.bl _) hR1 x1
  | _ => exact hw1.elim
theorem de_not (ha : DE X a wa) : DE X (.UnaryOp .Not a pos) (wNotV wa) := fun E => PE.imp (pe_not (ha E)) fun σ H Q => by
  rintro ⟨S, F, R, hR, hw, k⟩
  refine ⟨S, F, _, hR, hw, fun d S1 v F1 H1 hw1 r1 hR1 x1 => ?_⟩
  cases r1 with
  | bl b => exact ⟨b, rfl, k _ S1 _ F1 H1 hw1 (.bl _) hR1 x1⟩
  | _ => exact hw1.elim
end
end VL

set_option Elab.async false
set_option linter.all false
set_option maxRecDepth 100000
set_option maxHeartbeats 4000000
/-! VL3: arguments, displays, calls of built-ins, subscripts, iterables, targets, statements. -/
namespace VL
open PySem PySem.Spec L2
/-! ### arguments -/
def wNil : WA := fun S R => R [] S
def wCons (w : WE) (ws : WA) : WA := fun S R => w S fun d S1 => ws S1 fun ds S2 => R (d :: ds) S2
def wTup (ws : WA) : WE := fun S R => ws S fun ds S1 => R (.tup ds) S1
def wLst (ws : WA) : WE := fun S R => ws S fun ds S1 => R (.lst ds) S1
/-- a call of a built-in on data -/
abbrev OC := List D → (D → Prop) → Prop
def wCB (g : OC) (ws : WA) : WE := fun S R => ws S fun ds S1 => g ds fun d => R d S1
def rVc (K : PySem.W.Frag) (g : OC) : List V → Hp → VK → Prop := fun xs H Q => ∃ F ds R, Ext F H ∧ Reps K F xs ds ∧ g ds R ∧ ∀ z v F' H', R z → Rep K F' v z → Al F H F' H' → Q v H'
/-- .. that gives a fresh list -/
def rVn (K : PySem.W.Frag) (g : OC) : List V → Hp → VK → Prop := fun xs H Q => ∃ F ds R, Ext F H ∧ Reps K F xs ds ∧ g ds R ∧ ∀ es vs p, R (.lst es) → Reps K F vs es → H p = none → Q (.ref p) (upd H p (.lst vs))
abbrev CallV (X : Cx) (f : Value) (g : OC) : Prop := CallR X f (rVc X.K g)
abbrev CallN (X : Cx) (f : Value) (g : OC) : Prop := CallR X f (rVn X.K g)
section
variable {X : Cx} {a b e : Expr} {es : List Expr} {w wa wb : WE} {ws : WA} {n : Nat} {pos p : Pos}
theorem da_nil : DA X [] 0 wNil := fun E => PA.imp pa_nil fun σ H Q => by
  rintro ⟨S, F, R, hR, hw, k⟩
  exact k [] S [] F H hw rfl .nil hR (.refl _)
theorem da_cons (ha : DE X e w) (hs : DA X es n ws) (h : starEach (e :: es) X.env = (false, eval e X.env) :: starEach es X.env := by rfl) : DA X (e :: es) (n + 1) (wCons w ws) := fun E => PA.imp (pa_cons (ha E) (hs E) h) fun σ H Q => by
  rintro ⟨S, F, R, hR, hw, k⟩
  refine ⟨S, F, _, hR, hw, fun d S1 v F1 H1 hw1 r1 hR1 x1 => ?_⟩
  refine ⟨S1, F1, _, hR1, hw1, fun ds S2 vs F2 H2 hw2 l2 r2 hR2 x2 => ?_⟩
  exact k _ S2 _ F2 H2 hw2 (by rw [List.length_cons, l2]) (.cons (r1.mono x2) r2) hR2 (x1.trans x2)
theorem le_line {n : Nat} (h : n ≤ 1000) : n ≤ sizeLine := Nat.le_trans h (by decide)
theorem de_tup {x1} (h : DA X es n ws) (hn : n ≤ 1000 := by decide) : DE X (.Tuple es x1 pos) (wTup ws) := fun E => PE.imp (pe_tup (h E)) fun σ H Q => by
  rintro ⟨S, F, R, hR, hw, k⟩
  refine ⟨S, F, _, hR, hw, fun ds S1 vs F1 H1 hw1 l1 r1 hR1 x1 => ⟨le_line (by rw [r1.length, l1]; exact hn), fun p hp => ?_⟩⟩
  have al := Al.one (o := .tup vs) hR1.g.ext hp
  exact k _ S1 _ _ _ hw1 (.tup (.of upd_same) (r1.mono al.xF)) (hR1.al al) (x1.trans al.xF)
theorem fresh_of {K : PySem.W.Frag} {E : En} {F H : Hp} {σ : L2.St} {S : Sg} {p : Addr} {vs : List V} {ds : List D} (R : Rel K E F H σ S) (hp : H p = none) (r : Reps K F vs ds) : Fresh K E F (upd H p (.lst vs)) σ S p (.lst ds) ∧ Rel K E F (upd H p (.lst vs)) σ S :=
  let ⟨h1, h2, h3, h4, h5⟩ := R.fresh (o := .lst vs) hp
  ⟨⟨⟨vs, upd_same, r⟩, h2, h3, h4, h5⟩, h1⟩
theorem dn_lst (h : DA X es n ws) (hn : n ≤ 1000 := by decide) : DN X (.List es pos) (wLst ws) := fun E => PE.imp (pe_lst (h E)) fun σ H Q => by
  rintro ⟨S, F, R, hR, hw, k⟩
  refine ⟨S, F, _, hR, hw, fun ds S1 vs F1 H1 hw1 l1 r1 hR1 x1 => ⟨le_line (by rw [r1.length, l1]; exact hn), fun p hp => ?_⟩⟩
  obtain ⟨f, hR'⟩ := fresh_of hR1 hp r1
  exact k _ S1 p F1 _ hw1 f hR' x1
theorem de_lst (h : DA X es n ws) (hn : n ≤ 1000 := by decide) : DE X (.List es pos) (wLst ws) := de_new (dn_lst h hn)
theorem vn_vc {f : Value} {g : OC} (hc : CallN X f g) (hl : ∀ ds R, g ds R → g ds fun d => R d ∧ ∃ es, d = .lst es) : CallV X f g := CallR.any fun xs H Q => by
  rintro ⟨F, ds, R, hx, r, hg, k⟩
  refine ⟨_, hc, F, ds, _, hx, r, hl ds R hg, fun es vs p hR rs hp => ?_⟩
  have al := Al.one (o := .lst vs) hx hp
  exact k _ _ _ _ hR.1 (.lst upd_same (rs.mono al.xF)) al
theorem de_cb {id : String} {x : Str} {g : OC} (hc : CallV X (.builtin id) g) (hg : Gl X x) (hm : X.mg x = none) (hv : bootBuiltins x = some (.builtin id)) (ha : DA X (e :: es) n ws) (hn : x ≠ "__name__" := by decide) (hdb : (x == ("__debug__" : Str)) = false := by decide)
    (he : starEach (e :: es) X.env = (false, eval e X.env) :: starEach es X.env := by rfl) (hpl : (backTo pos (starEach es X.env)).any (·.1) = false := by rfl) : DE X (.Call (.Name x p) (e :: es) [] pos) (wCB g ws) := fun E => PE.imp (pe_callB hc hg hm hv (ha E) hn hdb he hpl) fun σ H Q => by
  rintro ⟨S, F, R, hR, hw, k⟩
  refine ⟨S, F, _, hR, hw, fun ds S1 vs F1 H1 hw1 l1 r1 hR1 x1 => ?_⟩
  exact ⟨F1, ds, _, hR1.g.ext, r1, hw1, fun z v F' H' hz rz al => k z S1 v F' H' hz rz (hR1.al al) (x1.trans al.xF)⟩
theorem de_cty {T : String} {x : Str} {g : OC} (hc : CallV X (.type T) g) (hg : Gl X x) (hm : X.mg x = none) (hv : bootBuiltins x = some (.type T)) (ha : DA X (e :: es) n ws) (hn : x ≠ "__name__" := by decide) (hdb : (x == ("__debug__" : Str)) = false := by decide)
    (he : starEach (e :: es) X.env = (false, eval e X.env) :: starEach es X.env := by rfl) (hpl : (backTo pos (starEach es X.env)).any (·.1) = false := by rfl) : DE X (.Call (.Name x p) (e :: es) [] pos) (wCB g ws) := fun E => PE.imp (pe_callTy hc hg hm hv (ha E) hn hdb he hpl) fun σ H Q => by
  rintro ⟨S, F, R, hR, hw, k⟩
  refine ⟨S, F, _, hR, hw, fun ds S1 vs F1 H1 hw1 l1 r1 hR1 x1 => ?_⟩
  exact ⟨F1, ds, _, hR1.g.ext, r1, hw1, fun z v F' H' hz rz al => k z S1 v F' H' hz rz (hR1.al al) (x1.trans al.xF)⟩
theorem dn_cty {T : String} {x : Str} {g : OC} (hc : CallN X (.type T) g) (hl : ∀ ds R, g ds R → g ds fun d => R d ∧ ∃ es, d = .lst es) (hg : Gl X x) (hm : X.mg x = none) (hv : bootBuiltins x = some (.type T)) (ha : DA X (e :: es) n ws) (hn : x ≠ "__name__" := by decide) (hdb : (x == ("__debug__" : Str)) = false := by decide)
    (he : starEach (e :: es) X.env = (false, eval e X.env) :: starEach es X.env := by rfl) (hpl : (backTo pos (starEach es X.env)).any (·.1) = false := by rfl) : DN X (.Call (.Name x p) (e :: es) [] pos) (wCB g ws) := fun E => PE.imp (pe_callTy hc hg hm hv (ha E) hn hdb he hpl) fun σ H Q => by
  rintro ⟨S, F, R, hR, hw, k⟩
  refine ⟨S, F, _, hR, hw, fun ds S1 vs F1 H1 hw1 l1 r1 hR1 x1 => ?_⟩
  refine ⟨F1, ds, _, hR1.g.ext, r1, hw1, fun es vs p hz rz hp => ?_⟩
  obtain ⟨f, hR'⟩ := fresh_of hR1 hp rz
  exact k _ S1 p F1 _ hz f hR' x1
theorem dn_cb {id : String} {x : Str} {g : OC} (hc : CallN X (.builtin id) g) (hg : Gl X x) (hm : X.mg x = none) (hv : bootBuiltins x = some (.builtin id)) (ha : DA X (e :: es) n ws) (hn : x ≠ "__name__" := by decide) (hdb : (x == ("__debug__" : Str)) = false := by decide)
    (he : starEach (e :: es) X.env = (false, eval e X.env) :: starEach es X.env := by rfl) (hpl : (backTo pos (starEach es X.env)).any (·.1) = false := by rfl) (hl : ∀ ds R, g ds R → g ds fun d => R d ∧ ∃ es, d = .lst es) : DN X (.Call (.Name x p) (e :: es) [] pos) (wCB g ws) := fun E => PE.imp (pe_callB hc hg hm hv (ha E) hn hdb he hpl) fun σ H Q => by
  rintro ⟨S, F, R, hR, hw, k⟩
  refine ⟨S, F, _, hR, hw, fun ds S1 vs F1 H1 hw1 l1 r1 hR1 x1 => ?_⟩
  refine ⟨F1, ds, _, hR1.g.ext, r1, hw1, fun es vs p hz rz hp => ?_⟩
  obtain ⟨f, hR'⟩ := fresh_of hR1 hp rz
  exact k _ S1 p F1 _ hz f hR' x1
end
/-! ### built-ins -/
def bLen : OC
  | [.str x], R => x.length ≤ sizeLine ∧ R (.int x.length)
  | [.tup ds], R => R (.int ds.length)
  | [.lst ds], R => R (.int ds.length)
  | _, _ => False
def bAbs : OC
  | [.int i], R => R (.int (if i < 0 then -i else i))
  | _, _ => False
def bMax : OC
  | [.int i, .int j], R => R (.int (if j > i then j else i))
  | _, _ => False
def bMin : OC
  | [.int i, .int j], R => R (.int (if j < i then j else i))
  | _, _ => False
def bInt : OC
  | [.int i], R => R (.int i)
  | [.bl k], R => R (.int (if k then 1 else 0))
  | _, _ => False
/-- sum of a list of ints -/
def bSum : OC
  | [.lst ds], R => ∃ ns : List Int, ds = ns.map D.int ∧ R (.int ns.sum)
  | _, _ => False
def bAll : OC
  | [.lst ds], R => ∃ bs : List Bool, ds = bs.map D.bl ∧ R (.bl (bs.all id))
  | _, _ => False
def bAny : OC
  | [.lst ds], R => ∃ bs : List Bool, ds = bs.map D.bl ∧ R (.bl (bs.any id))
  | _, _ => False
def bTup : OC
  | [.lst ds], R => R (.tup ds)
  | [.tup ds], R => R (.tup ds)
  | _, _ => False
def bLst : OC
  | [.lst ds], R => R (.lst ds)
  | [.tup ds], R => R (.lst ds)
  | [.scr ns], R => R (.lst (ns.map D.int))
  | _, _ => False
def isi : D → Ty → Option Bool
  | .non, _ => some false
  | .bl _, .tint => some true
  | .bl _, .tbool => some true
  | .bl _, _ => some false
  | .int _, .tint => some true
  | .int _, _ => some false
  | .str _, .tstr => some true
  | .str _, _ => some false
  | .tup _, .ttup => some true
  | .tup _, _ => some false
  | .lst _, .tlst => some true
  | .lst _, _ => some false
  | .dct _ _, .tdct => some true
  | .dct _ _, _ => some false
  | _, _ => none
def bIsi : OC
  | [d, .ty t], R => ∃ b, isi d t = some b ∧ R (.bl b)
  | _, _ => False
section
variable {X : Cx}
theorem Reps.nil_of {K : PySem.W.Frag} {F : Hp} {vs : List V} (r : Reps K F vs []) : vs = [] := by cases r; rfl
theorem Reps.one_of {K : PySem.W.Frag} {F : Hp} {vs : List V} {d : D} (r : Reps K F vs [d]) : ∃ v, vs = [v] ∧ Rep K F v d := by
  cases r with
  | cons a b => cases b; exact ⟨_, rfl, a⟩
theorem Reps.two_of {K : PySem.W.Frag} {F : Hp} {vs : List V} {d e : D} (r : Reps K F vs [d, e]) : ∃ v u, vs = [v, u] ∧ Rep K F v d ∧ Rep K F u e := by
  cases r with
  | cons a b =>
    obtain ⟨u, rfl, q⟩ := b.one_of
    exact ⟨_, _, rfl, a, q⟩
theorem cv_len : CallV X (.builtin "len") bLen := CallR.any fun xs H Q => by
  rintro ⟨F, ds, R, hx, r, hg, k⟩
  refine ⟨_, call_len, ?_⟩
  unfold bLen at hg
  split at hg
  · obtain ⟨v, rfl, q⟩ := r.one_of
    cases q
    exact ⟨_, _, rfl, ⟨hg.1, rfl⟩, k _ _ F H hg.2 (.int _) (.refl hx)⟩
  · obtain ⟨v, rfl, q⟩ := r.one_of
    cases q with
    | tup h s => exact ⟨_, _, rfl, .inr ⟨_, hx.sqT h, rfl⟩, by rw [s.length]; exact k _ _ F H hg (.int _) (.refl hx)⟩
  · obtain ⟨v, rfl, q⟩ := r.one_of
    cases q with
    | lst h s => exact ⟨_, _, rfl, .inl ⟨_, .of (hx _ _ h), rfl⟩, by rw [s.length]; exact k _ _ F H hg (.int _) (.refl hx)⟩
  · exact hg.elim
theorem cv_abs : CallV X (.builtin "abs") bAbs := CallR.any fun xs H Q => by
  rintro ⟨F, ds, R, hx, r, hg, k⟩
  refine ⟨_, call_abs, ?_⟩
  unfold bAbs at hg
  split at hg
  · obtain ⟨v, rfl, q⟩ := r.one_of
    cases q
    exact ⟨_, rfl, k _ _ F H hg (.int _) (.refl hx)⟩
  · exact hg.elim
theorem cv_max (hc : X.calm = true) : CallV X (.builtin "max") bMax := CallR.any fun xs H Q => by
  rintro ⟨F, ds, R, hx, r, hg, k⟩
  refine ⟨_, call_max2 hc, ?_⟩
  unfold bMax at hg
  split at hg
  · obtain ⟨v, u, rfl, q, q2⟩ := r.two_of
    cases q; cases q2
    exact ⟨_, _, rfl, k _ _ F H hg (.int _) (.refl hx)⟩
  · exact hg.elim
theorem cv_min (hc : X.calm = true) : CallV X (.builtin "min") bMin := CallR.any fun xs H Q => by
  rintro ⟨F, ds, R, hx, r, hg, k⟩
  refine ⟨_, call_min2 hc, ?_⟩
  unfold bMin at hg
  split at hg
  · obtain ⟨v, u, rfl, q, q2⟩ := r.two_of
    cases q; cases q2
    exact ⟨_, _, rfl, k _ _ F H hg (.int _) (.refl hx)⟩
  · exact hg.elim
theorem cv_int : CallV X (.type "int") bInt := CallR.any fun xs H Q => by
  rintro ⟨F, ds, R, hx, r, hg, k⟩
  refine ⟨_, call_int1, ?_⟩
  unfold bInt at hg
  split at hg
  · obtain ⟨v, rfl, q⟩ := r.one_of
    cases q
    exact .inl ⟨_, rfl, k _ _ F H hg (.int _) (.refl hx)⟩
  · obtain ⟨v, rfl, q⟩ := r.one_of
    cases q
    exact .inr ⟨_, rfl, k _ _ F H hg (.int _) (.refl hx)⟩
  · exact hg.elim
theorem cv_sum (hc : X.calm = true) : CallV X (.builtin "sum") bSum := CallR.any fun xs H Q => by
  rintro ⟨F, ds, R, hx, r, hg, k⟩
  refine ⟨_, cr_sum hc, ?_⟩
  unfold bSum at hg
  split at hg
  · obtain ⟨v, rfl, q⟩ := r.one_of
    obtain ⟨ns, rfl, q2⟩ := hg
    cases q with
    | lst h s =>
      have e := s.ints
      subst e
      exact ⟨_, ns, rfl, .of (hx _ _ h), k _ _ F H q2 (.int _) (.refl hx)⟩
  · exact hg.elim
theorem cv_all (hc : X.calm = true) : CallV X (.builtin "all") bAll := CallR.any fun xs H Q => by
  rintro ⟨F, ds, R, hx, r, hg, k⟩
  refine ⟨_, cr_all hc, ?_⟩
  unfold bAll at hg
  split at hg
  · obtain ⟨v, rfl, q⟩ := r.one_of
    obtain ⟨ns, rfl, q2⟩ := hg
    cases q with
    | lst h s =>
      have e := s.bools
      subst e
      exact ⟨_, ns, rfl, .of (hx _ _ h), k _ _ F H q2 (.bl _) (.refl hx)⟩
  · exact hg.elim
theorem cv_any (hc : X.calm = true) : CallV X (.builtin "any") bAny := CallR.any fun xs H Q => by
  rintro ⟨F, ds, R, hx, r, hg, k⟩
  refine ⟨_, cr_any hc, ?_⟩
  unfold bAny at hg
  split at hg
  · obtain ⟨v, rfl, q⟩ := r.one_of
    obtain ⟨ns, rfl, q2⟩ := hg
    cases q with
    | lst h s =>
      have e := s.bools
      subst e
      exact ⟨_, ns, rfl, .of (hx _ _ h), k _ _ F H q2 (.bl _) (.refl hx)⟩
  · exact hg.elim
theorem cv_tup : CallV X (.type "tuple") bTup := CallR.any fun xs H Q => by
  rintro ⟨F, ds, R, hx, r, hg, k⟩
  refine ⟨_, call_tuple_of, ?_⟩
  unfold bTup at hg
  split at hg
  · obtain ⟨v, rfl, q⟩ := r.one_of
    cases q with
    | lst h s =>
      rename_i a vs
      refine ⟨_, _, rfl, .inl ⟨.of (hx _ _ h), fun l hl => ?_⟩⟩
      have al := Al.one (o := .tup vs) hx hl
      exact k _ _ _ _ hg (.tup (.of upd_same) (s.mono al.xF)) al
  · obtain ⟨v, rfl, q⟩ := r.one_of
    cases q with
    | tup h s => exact ⟨_, _, rfl, .inr ⟨hx.sqT h, k _ _ F H hg (.tup h s) (.refl hx)⟩⟩
  · exact hg.elim
theorem cn_lst : CallN X (.type "list") bLst := CallR.any fun xs H Q => by
  rintro ⟨F, ds, R, hx, r, hg, k⟩
  refine ⟨_, call_list_of, ?_⟩
  unfold bLst at hg
  split at hg
  · obtain ⟨v, rfl, q⟩ := r.one_of
    cases q with
    | lst h s => exact ⟨_, _, rfl, .inl (.of (hx _ _ h)), fun l hl => k _ _ _ hg s hl⟩
  · obtain ⟨v, rfl, q⟩ := r.one_of
    cases q with
    | tup h s => exact ⟨_, _, rfl, .inr (hx.sqT h), fun l hl => k _ _ _ hg s hl⟩
  · obtain ⟨v, rfl, q⟩ := r.one_of
    cases q with
    | scr h => exact ⟨_, _, rfl, .inl (hx.sqL h), fun l hl => k _ _ _ hg (Reps.ofInts _) hl⟩
  · exact hg.elim
theorem bLst_l : ∀ ds R, bLst ds R → bLst ds fun d => R d ∧ ∃ es, d = .lst es := fun ds R h => by
  unfold bLst at h ⊢
  split at h
  · exact ⟨h, _, rfl⟩
  · exact ⟨h, _, rfl⟩
  · exact ⟨h, _, rfl⟩
  · exact h.elim
theorem cv_lst : CallV X (.type "list") bLst := vn_vc cn_lst bLst_l
/-- a built-in class as a value -/
theorem de_ty {x : Str} {pos : Pos} (t : Ty) (hg : Gl X x) (hm : X.mg x = none) (hv : bootBuiltins x = some (.type t.name)) (hn : x ≠ "__name__" := by decide) (hd : (x == ("__debug__" : Str)) = false := by decide) : DE X (.Name x pos) (wC (.ty t)) :=
  de_c (pe_bltn (v := .ty t.name) hg hm hv rfl hn hd) fun _ => .ty t
theorem kit_tag {K : PySem.W.Frag} {F H : Hp} (hx : Ext F H) {v : V} {d : D} {t : Ty} {b : Bool} (r : Rep K F v d) (h : isi d t = some b) : ∃ n : String, TyX K H v (.type n) ∧ kitB n t.name = some b := by
  cases r with
  | non =>
    refine ⟨"NoneType", .base .non, ?_⟩
    cases t <;> (cases h; decide +kernel)
  | bl k =>
    refine ⟨"bool", .base (.bl k), ?_⟩
    cases t <;> (cases h; decide +kernel)
  | int k =>
    refine ⟨"int", .base (.int k), ?_⟩
    cases t <;> (cases h; decide +kernel)
  | str k =>
    refine ⟨"str", .base (.str k), ?_⟩
    cases t <;> (cases h; decide +kernel)
  | tup q s =>
    refine ⟨"tuple", ?_, ?_⟩
    · rcases hx.sqT q with (q | ⟨o, q⟩) | ⟨o, its, n, q, c, _⟩
      · exact .base (.tup q)
      · exact .fTuple q
      · exact .kTuple q c
    · cases t <;> (cases h; decide +kernel)
  | lst q s =>
    refine ⟨"list", .base (.lst (hx _ _ q)), ?_⟩
    cases t <;> (cases h; decide +kernel)
  | dct q z s =>
    refine ⟨"dict", .base (.dK (hx _ _ q)), ?_⟩
    cases t <;> (cases h; decide +kernel)
  | _ => cases h
theorem cv_isi : CallV X (.builtin "isinstance") bIsi := CallR.any fun xs H Q => by
  rintro ⟨F, ds, R, hx, r, hg, k⟩
  refine ⟨_, call_isi, ?_⟩
  unfold bIsi at hg
  split at hg
  · obtain ⟨v, u, rfl, q, q2⟩ := r.two_of
    cases q2
    obtain ⟨b, hb, h⟩ := hg
    obtain ⟨n, h1, h2⟩ := kit_tag hx q hb
    exact ⟨_, _, _, _, b, rfl, .ty _, h1, kit_ty h2, k _ _ F H h (.bl _) (.refl hx)⟩
  · exact hg.elim
end
end VL

set_option Elab.async false
set_option linter.all false
set_option maxRecDepth 100000
set_option maxHeartbeats 4000000
/-! VL4: subscripts, slices, targets, iterables, statements, comprehensions. -/
namespace VL
open PySem PySem.Spec L2
/-! ### subscripts -/
def ixD (h : Oh) : O2
  | .tup ds, .int i, R => ∃ d, atI ds i = some d ∧ R d
  | .lst ds, .int i, R => ∃ d, atI ds i = some d ∧ R d
  | .str x, .int i, R => x.length ≤ sizeLine ∧ ∃ c, atI x.cps.toList i = some c ∧ R (.str ⟨#[c]⟩)
  | .obj a, .int i, R => ∃ ds d, h a = some (.ml ds) ∧ atI ds i = some d ∧ R d
  | _, _, _ => False
def wIx (wa wb : WE) : WE := fun S R => wa S fun x S1 => wb S1 fun y S2 => ixD S2.h x y fun z => R z S2
def slv : Sl → Option D
  | .f d => some d
  | .o d => some d
  | .u => none
/-- x[..] of a name that may own its list -/
def wIxO (i : Nat) (wb : WE) : WE := fun S R => (∃ e, (S.s[i]?).bind slv = some e) ∧ wb S fun y S1 => ∃ d, (S1.s[i]?).bind slv = some d ∧ ixD S1.h d y fun z => R z S1
/-- len of a name that may own its list -/
def wLenO (i : Nat) : WE := fun S R => ∃ ds, (S.s[i]?).bind slv = some (.lst ds) ∧ R (.int ds.length) S
def rVo (K : PySem.W.Frag) : R2 := fun x y H Q => ∃ F h d e R, Ext F H ∧ (∀ a ob, h a = some ob → ObAt K F H a ob) ∧ Rep K F x d ∧ Rep K F y e ∧ ixD h d e R ∧ ∀ z v, R z → Rep K F v z → Q v H
section
variable {X : Cx} {a b e : Expr} {es : List Expr} {w wa wb : WE} {ws : WA} {n : Nat} {pos p : Pos} {K : PySem.W.Frag} {F H : Hp}
theorem Reps.at {vs : List V} {ds : List D} {i : Int} {d : D} (r : Reps K F vs ds) (h : atI ds i = some d) : ∃ v, atI vs i = some v ∧ Rep K F v d := by
  unfold atI at h ⊢
  rw [r.length]
  cases e : ixN ds.length i with
  | none => rw [e] at h; cases h
  | some j =>
    rw [e] at h
    exact r.get h
theorem ix_v : IxR X (rVo X.K) := IxR.any fun x y H Q => by
  rintro ⟨F, h, d, e, R, hx, ho, r1, r2, hg, k⟩
  refine ⟨_, ix_seq, ?_⟩
  unfold ixD at hg
  split at hg
  · cases r2
    obtain ⟨d, h1, h2⟩ := hg
    cases r1 with
    | tup q s =>
      obtain ⟨v, h3, h4⟩ := s.at h1
      exact .inr (.inl ⟨_, _, _, v, rfl, rfl, hx.sqT q, h3, k _ _ h2 h4⟩)
  · cases r2
    obtain ⟨d, h1, h2⟩ := hg
    cases r1 with
    | lst q s =>
      obtain ⟨v, h3, h4⟩ := s.at h1
      exact .inl ⟨_, _, _, v, rfl, rfl, .of (hx _ _ q), h3, k _ _ h2 h4⟩
  · cases r2
    cases r1
    obtain ⟨hl, c, h1, h2⟩ := hg
    exact .inr (.inr ⟨_, _, c, rfl, rfl, hl, h1, k _ _ h2 (.str _)⟩)
  · cases r2
    obtain ⟨ds, d, h0, h1, h2⟩ := hg
    cases r1 with
    | obj =>
      obtain ⟨vs, q, s⟩ := ho _ _ h0
      obtain ⟨v, h3, h4⟩ := s.at h1
      exact .inl ⟨_, _, _, v, rfl, rfl, .of q, h3, k _ _ h2 h4⟩
  · exact hg.elim
theorem de_ix (ha : DE X a wa) (hb : DE X b wb) (hs : PlainIx b) : DE X (.Subscript a b pos) (wIx wa wb) := fun E => PE.imp (pe_ix ix_v (ha E) (hb E) hs) fun σ H Q => by
  rintro ⟨S, F, R, hR, hw, k⟩
  refine ⟨S, F, _, hR, hw, fun x S1 v1 F1 H1 hw1 r1 hR1 x1 => ?_⟩
  refine ⟨S1, F1, _, hR1, hw1, fun y S2 v2 F2 H2 hw2 r2 hR2 x2 => ?_⟩
  exact ⟨F2, S2.h, x, y, _, hR2.g.ext, fun a ob q => (hR2.g.obs a ob q).1, r1.mono x2, r2, hw2, fun z v hz rz => k z S2 v F2 H2 hz rz hR2 (x1.trans x2)⟩
theorem Rel.slot {E : En} {σ : L2.St} {S : Sg} {i : Nat} {e : D} (hR : Rel K E F H σ S) (h : (S.s[i]?).bind slv = some e) : ∃ v, σ[i]? = some (some v) ∧ ((S.s[i]? = some (.f e) ∧ Rep K F v e) ∨ (S.s[i]? = some (.o e) ∧ ∃ p, v = .ref p ∧ OwAt K F H p e)) := by
  cases q : S.s[i]? with
  | none => rw [q] at h; cases h
  | some x =>
    rw [q] at h
    cases x with
    | u => cases h
    | f d =>
      cases h
      obtain ⟨v, h1, h2⟩ := hR.frz i _ q
      exact ⟨v, h1, .inl ⟨rfl, h2⟩⟩
    | o d =>
      cases h
      obtain ⟨p, h1, h2, _⟩ := hR.own i _ q
      exact ⟨_, h1, .inr ⟨rfl, p, rfl, h2⟩⟩
theorem de_ixO {x : Str} (i : Nat) (h : PE X (.Name x p) (tVar i)) (hb : DE X b wb) (hs : PlainIx b) : DE X (.Subscript (.Name x p) b pos) (wIxO i wb) := fun E => PE.imp (pe_ix (IxR.or ix_v ix_list) h (hb E) hs) fun σ H Q => by
  rintro ⟨S, F, R, hR, ⟨⟨e, he⟩, hw⟩, k⟩
  obtain ⟨v, h1, _⟩ := hR.slot he
  refine ⟨_, h1, ?_⟩
  refine ⟨S, F, _, hR, hw, fun y S1 v1 F1 H1 hw1 r1 hR1 x1 => ?_⟩
  obtain ⟨d, g1, g2⟩ := hw1
  obtain ⟨v', h2, h3⟩ := hR1.slot g1
  rw [h1] at h2
  cases h2
  rcases h3 with ⟨_, rd⟩ | ⟨_, q, rfl, ho⟩
  · exact .inl ⟨F1, S1.h, d, y, _, hR1.g.ext, fun a ob q => (hR1.g.obs a ob q).1, rd, r1, g2, fun z v hz rz => k z S1 v F1 H1 hz rz hR1 x1⟩
  · cases d with
    | lst ds =>
      obtain ⟨vs, q, s⟩ := ho
      cases r1 with
      | int i =>
        obtain ⟨d, g3, g4⟩ := g2
        obtain ⟨v, h3, h4⟩ := s.at g3
        exact .inr ⟨_, _, _, v, rfl, rfl, .of q, h3, k d S1 v F1 H1 g4 h4 hR1 x1⟩
      | _ => exact g2.elim
    | dct => cases r1 <;> exact g2.elim
    | _ => exact ho.elim
theorem de_lenO {x y : Str} {p2 : Pos} (i : Nat) (h : PE X (.Name x p) (tVar i)) (hg : Gl X y) (hm : X.mg y = none) (hv : bootBuiltins y = some (.builtin "len")) (hn : y ≠ "__name__" := by decide) (hdb : (y == ("__debug__" : Str)) = false := by decide)
    (he : starEach [.Name x p] X.env = (false, eval (.Name x p) X.env) :: starEach [] X.env := by rfl) (hpl : (backTo pos (starEach [] X.env)).any (·.1) = false := by rfl) : DE X (.Call (.Name y p2) [.Name x p] [] pos) (wLenO i) := fun E => PE.imp (pe_callB call_len hg hm hv (pa_cons h pa_nil he) hn hdb he hpl) fun σ H Q => by
  rintro ⟨S, F, R, hR, ⟨ds, hd, hw⟩, k⟩
  obtain ⟨v, h1, h2⟩ := hR.slot hd
  have hl : ∃ a vs, v = .ref a ∧ H a = some (.lst vs) ∧ vs.length = ds.length := by
    rcases h2 with ⟨_, r⟩ | ⟨_, q, rfl, vs, q1, s⟩
    · cases r with
      | lst q s => exact ⟨_, _, rfl, hR.g.ext _ _ q, s.length⟩
    · exact ⟨_, _, rfl, q1, s.length⟩
  obtain ⟨a, vs, rfl, q, l⟩ := hl
  refine ⟨_, h1, _, _, rfl, .inl ⟨vs, .of q, rfl⟩, ?_⟩
  rw [l]
  exact k _ S _ F H hw (.int _) hR (.refl _)
end

/-! ### slices -/
def cutD {α : Type} (xs : List α) (lo hi : Option Int) : List α := (xs.drop (HT.sIx xs.length 0 lo)).take (HT.sIx xs.length xs.length hi - HT.sIx xs.length 0 lo)
abbrev WO := Sg → (Option Int → Sg → Prop) → Prop
def wNoPart : WO := fun S R => R none S
def wPart (w : WE) : WO := fun S R => w S fun d S1 => match d with
  | .int i => R (some i) S1
  | _ => False
def slD : D → Option Int → Option Int → (D → Prop) → Prop
  | .tup ds, lo, hi, R => R (.tup (cutD ds lo hi))
  | .lst ds, lo, hi, R => R (.lst (cutD ds lo hi))
  | .str x, lo, hi, R => x.length ≤ sizeLine ∧ R (.str (cutS x lo hi))
  | _, _, _, _ => False
def wSl (w : WE) (lo hi : WO) : WE := fun S R => w S fun d S1 => lo S1 fun l S2 => hi S2 fun u S3 => slD d l u fun z => R z S3
def LO (K : PySem.W.Frag) (E : En) (w : WO) : TO := fun σ H Q => ∃ S F R, Rel K E F H σ S ∧ w S R ∧ ∀ o S' F' H', R o S' → Rel K E F' H' σ S' → Ext F F' → Q o H'
def DO (X : Cx) (e : Option Expr) (w : WO) : Prop := ∀ E, PO X e (LO X.K E w)
section
variable {X : Cx} {a b e : Expr} {es : List Expr} {w wa wb : WE} {lo hi : Option Expr} {wl wh : WO} {pos p : Pos} {K : PySem.W.Frag} {F H : Hp}
theorem PO.imp {X : Cx} {e : Option Expr} {t t' : TO} (h : PO X e t) (hi : ∀ σ H Q, t' σ H Q → t σ H Q) : PO X e t' := ⟨fun pins s σ H Q I q => h.run pins s σ H Q I (hi _ _ _ q)⟩
theorem do_none : DO X none wNoPart := fun E => PO.imp po_none fun σ H Q => by
  rintro ⟨S, F, R, hR, hw, k⟩
  exact k none S F H hw hR (.refl _)
theorem do_some (h : DE X e w) : DO X (some e) (wPart w) := fun E => PO.imp (po_some (h E)) fun σ H Q => by
  rintro ⟨S, F, R, hR, hw, k⟩
  refine ⟨S, F, _, hR, hw, fun x S1 v1 F1 H1 hw1 r1 hR1 x1 => ?_⟩
  cases r1 with
  | int i => exact ⟨i, rfl, k _ S1 F1 H1 hw1 hR1 x1⟩
  | _ => exact hw1.elim
theorem Reps.cut {vs : List V} {ds : List D} (r : Reps K F vs ds) (lo hi : Option Int) : Reps K F (cutV vs lo hi) (cutD ds lo hi) := by
  unfold cutV cutD
  rw [r.length]
  exact (r.drop _).take _
theorem SlR.any {r : V → Option Int → Option Int → Hp → VK → Prop} (h : ∀ x lo hi H Q, r x lo hi H Q → ∃ r', SlR X r' ∧ r' x lo hi H Q) : SlR X r := fun pins s σ H x v vl vu lo hi sl Q I rx h1 h2 h3 q =>
  let ⟨_, ho, q'⟩ := h x lo hi H Q q
  ho pins s σ H x v vl vu lo hi sl Q I rx h1 h2 h3 q'
theorem sl_v : SlR X fun x lo hi H Q => ∃ F d R, Ext F H ∧ Rep X.K F x d ∧ slD d lo hi R ∧ ∀ z v F' H', R z → Rep X.K F' v z → Al F H F' H' → Q v H' := SlR.any fun x lo hi H Q => by
  rintro ⟨F, d, R, hx, r1, hg, k⟩
  unfold slD at hg
  split at hg
  · cases r1 with
    | tup q s =>
      rename_i a vs
      refine ⟨_, sl_tupA, a, vs, rfl, hx.sqT q, fun z => ?_, fun z p hp => ?_⟩
      · have e : cutV vs lo hi = vs := by
          unfold cutV
          rw [z.1, z.2]
          simp
        have sc := s.cut lo hi
        rw [e] at sc
        exact k _ _ F H hg (.tup q sc) (.refl hx)
      · have al := Al.one (o := .tup (cutV vs lo hi)) hx hp
        exact k _ _ _ _ hg (.tup (.of upd_same) ((s.cut lo hi).mono al.xF)) al
  · cases r1 with
    | lst q s =>
      rename_i a vs
      refine ⟨_, sl_list, a, vs, rfl, .of (hx _ _ q), fun p hp => ?_⟩
      have al := Al.one (o := .lst (cutV vs lo hi)) hx hp
      exact k _ _ _ _ hg (.lst upd_same ((s.cut lo hi).mono al.xF)) al
  · cases r1
    exact ⟨_, sl_str, _, rfl, hg.1, k _ _ F H hg.2 (.str _) (.refl hx)⟩
  · exact hg.elim
theorem de_sl {p2 : Pos} (he : DE X e w) (hl : DO X lo wl) (hu : DO X hi wh) : DE X (.Subscript e (.Slice lo hi none p2) pos) (wSl w wl wh) := fun E => PE.imp (pe_slice sl_v (he E) (hl E) (hu E)) fun σ H Q => by
  rintro ⟨S, F, R, hR, hw, k⟩
  refine ⟨S, F, _, hR, hw, fun x S1 v1 F1 H1 hw1 r1 hR1 x1 => ?_⟩
  refine ⟨S1, F1, _, hR1, hw1, fun l S2 F2 H2 hw2 hR2 x2 => ?_⟩
  refine ⟨S2, F2, _, hR2, hw2, fun u S3 F3 H3 hw3 hR3 x3 => ?_⟩
  exact ⟨F3, x, _, hR3.g.ext, (r1.mono x2).mono x3, hw3, fun z v F' H' hz rz al => k z S3 v F' H' hz rz (hR3.al al) (((x1.trans x2).trans x3).trans al.xF)⟩
end

/-! ### targets -/
def gVar (i : Nat) : WG := fun d S R => R (S.st i (.f d))
abbrev WGs := List D → Sg → (Sg → Prop) → Prop
def gsNil : WGs := fun ds S R => match ds with
  | [] => R S
  | _ => False
def gsCons (g : WG) (gs : WGs) : WGs := fun ds S R => match ds with
  | d :: r => g d S fun S1 => gs r S1 R
  | [] => False
def gTp (n : Nat) (gs : WGs) : WG := fun d S R => match d with
  | .tup ds => ds.length = n ∧ gs ds S R
  | _ => False
/-- o[i] = .., o a known list -/
def gIxM (wo wi : WE) : WG := fun d S R => wo S fun x S1 => wi S1 fun y S2 => ∃ a ds j k, x = .obj a ∧ y = .int j ∧ S2.h a = some (.ml ds) ∧ ixN ds.length j = some k ∧ R (S2.ob a (.ml (ds.set k d)))
/-- x[i] = .., x owns its list -/
def gIxO (i : Nat) (wi : WE) : WG := fun d S R => (∃ e, S.s[i]? = some (.o e)) ∧ wi S fun y S1 => ∃ ds j k, S1.s[i]? = some (.o (.lst ds)) ∧ y = .int j ∧ ixN ds.length j = some k ∧ R (S1.st i (.o (.lst (ds.set k d))))
def LGs (K : PySem.W.Frag) (E : En) (g : WGs) : TGs := fun vs σ H Q => ∃ S F ds R, Rel K E F H σ S ∧ Reps K F vs ds ∧ g ds S R ∧ ∀ S' σ' F' H', R S' → Rel K E F' H' σ' S' → Ext F F' → Q σ' H'
def DGs (X : Cx) (es : List Expr) (g : WGs) : Prop := ∀ E, PGs X es (LGs X.K E g)
section
variable {X : Cx} {a b e o i : Expr} {es : List Expr} {w wo wi : WE} {g : WG} {gs : WGs} {pos p : Pos}
theorem PGs.imp {t t' : TGs} (h : PGs X es t) (hi : ∀ v σ H Q, t' v σ H Q → t v σ H Q) : PGs X es t' := ⟨fun pins s σ H v u Q I r q => h.run pins s σ H v u Q I r (hi _ _ _ _ q)⟩
theorem dg_var {x : Str} (i : Nat) (h : PG X (.Name x pos) (gName i)) : DG X (.Name x pos) (gVar i) := fun E => PG.imp h fun v σ H Q => by
  rintro ⟨S, F, d, R, hR, r, hg, k⟩
  exact k _ _ F H hg (hR.set r) (.refl _)
theorem dgs_nil : DGs X [] gsNil := fun E => PGs.imp pgs_nil fun v σ H Q => by
  rintro ⟨S, F, d, R, hR, r, hg, k⟩
  cases r with
  | nil => exact ⟨rfl, k S σ F H hg hR (.refl _)⟩
  | cons => exact hg.elim
theorem dgs_cons (h : DG X e g) (hs : DGs X es gs) (hh : (assignEach (e :: es) X.env).map (·.2) = assign e X.env :: (assignEach es X.env).map (·.2) := by rfl) : DGs X (e :: es) (gsCons g gs) := fun E => PGs.imp (pgs_cons (h E) (hs E) hh) fun v σ H Q => by
  rintro ⟨S, F, ds, R, hR, r, hg, k⟩
  cases r with
  | nil => exact hg.elim
  | cons r1 r2 =>
    refine ⟨_, _, rfl, S, F, _, _, hR, r1, hg, fun S1 σ1 F1 H1 hg1 hR1 x1 => ?_⟩
    exact ⟨S1, F1, _, R, hR1, r2.mono x1, hg1, fun S2 σ2 F2 H2 h2 hR2 x2 => k S2 σ2 F2 H2 h2 hR2 (x1.trans x2)⟩
theorem dg_tup {k n : Nat} (hc : X.calm = true) (h : DGs X es gs) (hn : (assignEach es X.env).length = n := by rfl) (hst : (assignEach es X.env).findIdx? (·.1) = none := by rfl) : DG X (.Tuple es k pos) (gTp n gs) := fun E => PG.imp (pg_tup hc (h E) hn hst) fun v σ H Q => by
  rintro ⟨S, F, d, R, hR, r, hg, k⟩
  cases r with
  | tup q s => exact ⟨_, _, rfl, hR.g.ext.sqT q, s.length.trans hg.1, S, F, _, R, hR, s, hg.2, k⟩
  | _ => exact hg.elim
theorem dg_ixM (ho : DE X o wo) (hi : DE X i wi) (ha : ∀ v, assign (.Subscript o i pos) X.env v = (do
      let ov ← holding [v] (eval o X.env)
      let iv ← holding [v, ov] (eval i X.env)
      standAt pos
      holding [v, ov, iv] (setItem ov iv v)
      release [v, ov, iv] []) := by intro _; rfl) : DG X (.Subscript o i pos) (gIxM wo wi) := fun E => PG.imp (pg_sub (ho E) (hi E) set_list ha) fun v σ H Q => by
  rintro ⟨S, F, d, R, hR, r, hg, k⟩
  refine ⟨S, F, _, hR, hg, fun x S1 v1 F1 H1 hw1 r1 hR1 x1 => ?_⟩
  refine ⟨S1, F1, _, hR1, hw1, fun y S2 v2 F2 H2 hw2 r2 hR2 x2 => ?_⟩
  obtain ⟨a, ds, j, m, rfl, rfl, h1, h2, h3⟩ := hw2
  cases r1; cases r2
  obtain ⟨vs, q, s⟩ := (hR2.g.obs _ _ h1).1
  refine ⟨a, vs, j, m, rfl, rfl, q, by rw [s.length]; exact h2, ?_⟩
  exact k _ _ F2 _ h3 (hR2.obput (by rw [h1]; simp) ⟨_, upd_same, s.set m ((r.mono x1).mono x2)⟩) (x1.trans x2)
theorem dg_ixO {x : Str} {px : Pos} (j : Nat) (h : PE X (.Name x px) (tVar j)) (hi : DE X i wi) (ha : ∀ v, assign (.Subscript (.Name x px) i pos) X.env v = (do
      let ov ← holding [v] (eval (.Name x px) X.env)
      let iv ← holding [v, ov] (eval i X.env)
      standAt pos
      holding [v, ov, iv] (setItem ov iv v)
      release [v, ov, iv] []) := by intro _; rfl) : DG X (.Subscript (.Name x px) i pos) (gIxO j wi) := fun E => PG.imp (pg_sub h (hi E) set_list ha) fun v σ H Q => by
  rintro ⟨S, F, d, R, hR, r, ⟨⟨e, he⟩, hg⟩, k⟩
  obtain ⟨p, h1, _⟩ := hR.own j e he
  refine ⟨_, h1, S, F, _, hR, hg, fun y S1 v1 F1 H1 hw1 r1 hR1 x1 => ?_⟩
  obtain ⟨ds, z, m, g1, rfl, g2, g3⟩ := hw1
  obtain ⟨p', h2, ⟨vs, q, s⟩, _⟩ := hR1.own j _ g1
  rw [h1] at h2
  cases h2
  cases r1
  refine ⟨_, vs, z, m, rfl, rfl, q, by rw [s.length]; exact g2, ?_⟩
  exact k _ _ F1 _ g3 (hR1.mut g1 h1 ⟨_, upd_same, s.set m (r.mono x1)⟩) x1
end

/-! ### iterables -/
def wRng1 (w : WA) : WA := fun S R => w S fun ds S1 => match ds with
  | [.int j] => (-(2 ^ 62) ≤ j ∧ j < 2 ^ 62) ∧ R ((List.range j.toNat).map fun i => .int (i : Nat)) S1
  | _ => False
def wRng2 (w : WA) : WA := fun S R => w S fun ds S1 => match ds with
  | [.int i, .int j] => (-(2 ^ 62) ≤ i ∧ i < 2 ^ 62 ∧ -(2 ^ 62) ≤ j ∧ j < 2 ^ 62) ∧ R ((List.range (j - i).toNat).map fun k => .int (i + (k : Nat))) S1
  | _ => False
def wItL (w : WE) : WA := fun S R => w S fun d S1 => match d with
  | .lst ds => R ds S1
  | _ => False
def wItT (w : WE) : WA := fun S R => w S fun d S1 => match d with
  | .tup ds => R ds S1
  | _ => False
def chars (x : Str) : List D := x.cps.toList.map fun c => .str ⟨#[c]⟩
def wItS (w : WE) : WA := fun S R => w S fun d S1 => match d with
  | .str x => R (chars x) S1
  | _ => False
def wZip (w : WA) : WA := fun S R => w S fun ds S1 => match ds with
  | [.lst xs, .lst ys] => R (List.zipWith (fun x y => .tup [x, y]) xs ys) S1
  | _ => False
def wEnum (w : WA) : WA := fun S R => w S fun ds S1 => match ds with
  | [.lst xs] => R (xs.zipIdx.map fun p => .tup [.int (p.2 : Nat), p.1]) S1
  | _ => False
section
variable {X : Cx} {a b e tg : Expr} {es : List Expr} {w : WE} {ws : WA} {n : Nat} {pos p : Pos} {K : PySem.W.Frag} {F H : Hp}
theorem feeds_list {c : Addr} {vs : List V} {ds : List D} (h : F c = some (.lst vs)) (s : Reps K F vs ds) : Feeds K (Itl K c) F ds := fun F' H' x1 x2 =>
  ⟨fun i d hd => by
    obtain ⟨v, h1, h2⟩ := s.get hd
    have hq : SqL K H' c vs := .of (x2 _ _ (x1 _ _ h))
    refine ⟨⟨vs, v, hq, h1⟩, fun x H3 hy => ?_⟩
    obtain ⟨rfl, hy⟩ := hy
    have e : x = v := Option.some.inj ((hy _ hq).symm.trans h1)
    subst e
    exact ⟨F', .refl x2, h2.mono x1⟩, fun i hi => ⟨vs, .of (x2 _ _ (x1 _ _ h)), by rw [s.length]; exact hi⟩⟩
theorem feeds_tup {c : Addr} {vs : List V} {ds : List D} (h : SqT K F c vs) (s : Reps K F vs ds) : Feeds K (Itt K c) F ds := fun F' H' x1 x2 =>
  ⟨fun i d hd => by
    obtain ⟨v, h1, h2⟩ := s.get hd
    have hq : SqT K H' c vs := x2.sqT (x1.sqT h)
    refine ⟨⟨vs, v, hq, h1⟩, fun x H3 hy => ?_⟩
    obtain ⟨rfl, hy⟩ := hy
    have e : x = v := Option.some.inj ((hy _ hq).symm.trans h1)
    subst e
    exact ⟨F', .refl x2, h2.mono x1⟩, fun i hi => ⟨vs, x2.sqT (x1.sqT h), by rw [s.length]; exact hi⟩⟩
theorem feeds_rng {lo : Int} {n : Nat} : Feeds K (Itr lo n) F ((List.range n).map fun k => .int (lo + (k : Nat))) := fun F' H' x1 x2 =>
  ⟨fun i d hd => by
    rw [List.getElem?_map] at hd
    cases e : (List.range n)[i]? with
    | none => rw [e] at hd; cases hd
    | some j =>
      rw [e] at hd
      have hi : i < n := by simpa using ix_lt e
      rw [List.getElem?_range hi] at e
      cases e
      cases hd
      refine ⟨hi, fun x H3 hy => ?_⟩
      obtain ⟨rfl, rfl⟩ := hy
      exact ⟨F', .refl x2, .int _⟩, fun i hi => (by simpa using hi : n ≤ i)⟩
theorem feeds_str {x : Str} : Feeds K (Its x) F (chars x) := fun F' H' x1 x2 =>
  ⟨fun i d hd => by
    unfold chars at hd
    rw [List.getElem?_map] at hd
    cases e : x.cps.toList[i]? with
    | none => rw [e] at hd; cases hd
    | some j =>
      rw [e] at hd
      cases hd
      have hi : i < x.cps.size := by simpa using ix_lt e
      refine ⟨hi, fun y H3 hy => ?_⟩
      obtain ⟨rfl, c, h1, rfl⟩ := hy
      have : x.cps[i]? = some j := by simpa using e
      rw [this] at h1
      cases h1
      exact ⟨F', .refl x2, .str _⟩, fun i hi => by
    have : x.cps.size ≤ i := by simpa [chars] using hi
    exact this⟩
theorem feeds_zip {a b : Addr} {vs us : List V} {ds es : List D} (h : F a = some (.lst vs)) (s : Reps K F vs ds) (h' : F b = some (.lst us)) (s' : Reps K F us es) : Feeds K (Itz K a b) F (List.zipWith (fun x y => .tup [x, y]) ds es) := fun F' H' x1 x2 => by
  have hq : SqL K H' a vs := .of (x2 _ _ (x1 _ _ h))
  have hq' : SqL K H' b us := .of (x2 _ _ (x1 _ _ h'))
  refine ⟨fun i d hd => ?_, fun i hi => ?_⟩
  · rw [List.getElem?_zipWith] at hd
    cases e1 : ds[i]? with
    | none => rw [e1] at hd; cases hd
    | some y =>
      cases e2 : es[i]? with
      | none => rw [e1, e2] at hd; cases hd
      | some z =>
        rw [e1, e2] at hd
        cases hd
        obtain ⟨v, h1, h2⟩ := s.get e1
        obtain ⟨u, h3, h4⟩ := s'.get e2
        refine ⟨⟨vs, us, v, u, hq, hq', h1, h3⟩, fun x H3 hy => ?_⟩
        obtain ⟨T, q, r, rfl, hT, rfl, f1, f2⟩ := hy
        have e1 : q = v := Option.some.inj ((f1 _ hq).symm.trans h1)
        have e2 : r = u := Option.some.inj ((f2 _ hq').symm.trans h3)
        subst e1
        subst e2
        have al := Al.one (o := .tup [q, r]) x2 hT
        exact ⟨_, al, .tup (.of upd_same) (((Reps.cons h2 (.one h4)).mono x1).mono al.xF)⟩
  · rw [List.length_zipWith] at hi
    refine ⟨vs, us, hq, hq', ?_⟩
    rw [s.length, s'.length]
    omega
theorem feeds_enum {a : Addr} {vs : List V} {ds : List D} (h : F a = some (.lst vs)) (s : Reps K F vs ds) : Feeds K (Ite K a) F (ds.zipIdx.map fun p => .tup [.int (p.2 : Nat), p.1]) := fun F' H' x1 x2 => by
  have hq : SqL K H' a vs := .of (x2 _ _ (x1 _ _ h))
  refine ⟨fun i d hd => ?_, fun i hi => ?_⟩
  · rw [List.getElem?_map, List.getElem?_zipIdx] at hd
    cases e1 : ds[i]? with
    | none => rw [e1] at hd; cases hd
    | some y =>
      rw [e1] at hd
      cases hd
      obtain ⟨v, h1, h2⟩ := s.get e1
      refine ⟨⟨vs, v, hq, h1⟩, fun x H3 hy => ?_⟩
      obtain ⟨T, q, rfl, hT, rfl, f1⟩ := hy
      have e1 : q = v := Option.some.inj ((f1 _ hq).symm.trans h1)
      subst e1
      have al := Al.one (o := .tup [.int (i : Nat), q]) x2 hT
      have z : 0 + i = i := Nat.zero_add i
      refine ⟨_, al, .tup (.of upd_same) (((Reps.cons ?_ (.one h2)).mono x1).mono al.xF)⟩
      show Rep K F (.int (i : Nat)) (.int ((0 + i : Nat) : Int))
      rw [z]
      exact .int _
  · rw [List.length_map, List.length_zipIdx] at hi
    exact ⟨vs, hq, by rw [s.length]; exact hi⟩
theorem di_list (he : DE X e w) : DI X tg e (wItL w) := fun E => PI.imp (pi_list (he E)) fun σ H Q => by
  rintro ⟨S, F, R, hR, hw, k⟩
  refine ⟨S, F, _, hR, hw, fun d S1 v F1 H1 hw1 r hR1 x1 => ?_⟩
  cases r with
  | lst q s => exact ⟨_, rfl, ⟨_, .of (hR1.g.ext _ _ q)⟩, k _ S1 _ F1 H1 hw1 (feeds_list q s) hR1 x1⟩
  | _ => exact hw1.elim
theorem di_tup (he : DE X e w) : DI X tg e (wItT w) := fun E => PI.imp (pi_tup (he E)) fun σ H Q => by
  rintro ⟨S, F, R, hR, hw, k⟩
  refine ⟨S, F, _, hR, hw, fun d S1 v F1 H1 hw1 r hR1 x1 => ?_⟩
  cases r with
  | tup q s => exact ⟨_, rfl, ⟨_, hR1.g.ext.sqT q⟩, k _ S1 _ F1 H1 hw1 (feeds_tup q s) hR1 x1⟩
  | _ => exact hw1.elim
theorem di_str (he : DE X e w) : DI X tg e (wItS w) := fun E => PI.imp (pi_str (he E)) fun σ H Q => by
  rintro ⟨S, F, R, hR, hw, k⟩
  refine ⟨S, F, _, hR, hw, fun d S1 v F1 H1 hw1 r hR1 x1 => ?_⟩
  cases r with
  | str => exact ⟨_, rfl, k _ S1 _ F1 H1 hw1 feeds_str hR1 x1⟩
  | _ => exact hw1.elim
theorem di_rng1 (hg : Gl X "range") (hm : X.mg "range" = none) (ha : DA X [a] n ws) (hs : starEach [a] X.env = [(false, eval a X.env)] := by rfl) : DI X tg (.Call (.Name "range" p) [a] [] pos) (wRng1 ws) := fun E => PI.imp (pi_range1 hg hm (ha E) hs) fun σ H Q => by
  rintro ⟨S, F, R, hR, hw, k⟩
  refine ⟨S, F, _, hR, hw, fun ds S1 vs F1 H1 hw1 l1 r1 hR1 x1 => ?_⟩
  split at hw1
  · obtain ⟨v, rfl, q⟩ := r1.one_of
    cases q
    rename_i j
    refine ⟨j, rfl, hw1.1.1, hw1.1.2, k _ S1 _ F1 H1 hw1.2 ?_ hR1 x1⟩
    have h := feeds_rng (K := X.K) (F := F1) (lo := 0) (n := j.toNat)
    simp only [Int.zero_add] at h
    exact h
  · exact hw1.elim
theorem di_rng2 (hg : Gl X "range") (hm : X.mg "range" = none) (ha : DA X [a, b] n ws) (hs : starEach [a, b] X.env = [(false, eval a X.env), (false, eval b X.env)] := by rfl) (hs2 : starEach [b] X.env = [(false, eval b X.env)] := by rfl) : DI X tg (.Call (.Name "range" p) [a, b] [] pos) (wRng2 ws) := fun E => PI.imp (pi_range2 hg hm (ha E) hs hs2) fun σ H Q => by
  rintro ⟨S, F, R, hR, hw, k⟩
  refine ⟨S, F, _, hR, hw, fun ds S1 vs F1 H1 hw1 l1 r1 hR1 x1 => ?_⟩
  split at hw1
  · obtain ⟨v, u, rfl, q, q2⟩ := r1.two_of
    cases q; cases q2
    exact ⟨_, _, rfl, hw1.1, k _ S1 _ F1 H1 hw1.2 feeds_rng hR1 x1⟩
  · exact hw1.elim
theorem di_zip {tpos : Pos} {elts : List Expr} {kk : Nat} (hg : Gl X "zip") (hm : X.mg "zip" = none) (ha : DA X [a, b] n ws) (hp : ∀ t, PA X [a, b] t → PI X (.Tuple elts kk tpos) (.Call (.Name "zip" p) [a, b] [] pos) (iZip X.K t)) : DI X (.Tuple elts kk tpos) (.Call (.Name "zip" p) [a, b] [] pos) (wZip ws) := fun E => PI.imp (hp _ (ha E)) fun σ H Q => by
  rintro ⟨S, F, R, hR, hw, k⟩
  refine ⟨S, F, _, hR, hw, fun ds S1 vs F1 H1 hw1 l1 r1 hR1 x1 => ?_⟩
  split at hw1
  · obtain ⟨v, u, rfl, q, q2⟩ := r1.two_of
    cases q with
    | lst h s =>
      cases q2 with
      | lst h' s' => exact ⟨_, _, _, _, rfl, .of (hR1.g.ext _ _ h), .of (hR1.g.ext _ _ h'), k _ S1 _ F1 H1 hw1 (feeds_zip h s h' s') hR1 x1⟩
  · exact hw1.elim
end
end VL

set_option Elab.async false
set_option linter.all false
set_option maxRecDepth 100000
set_option maxHeartbeats 4000000
/-! VL5: statements, comprehensions, defs. -/
namespace VL
open PySem PySem.Spec L2
/-! ### statements -/
def wNext : WS := fun D S => D.nx S
def wSeq (t u : WS) : WS := fun D S => t { D with nx := u D } S
def wBreak : WS := fun D S => D.bk S
def wCont : WS := fun D S => D.ct S
def wDrop (w : WE) : WS := fun D S => w S fun _ S1 => D.nx S1
def wRet (w : WE) : WS := fun D S => w S D.rt
def wRetN : WS := fun D S => D.rt .non S
def wIfS (t : WT) (u v : WS) : WS := fun D S => t S fun b S1 => Br b (u D S1) (v D S1)
def wAsg (w : WE) (g : WG) : WS := fun D S => w S fun d S1 => g d S1 D.nx
/-- x = a fresh container that the name owns -/
def wSetO (i : Nat) (w : WE) : WS := fun D S => w S fun d S1 => D.nx (S1.st i (.o d))
def obOf : D → Ob
  | .lst ds => .ml ds
  | .dct ks ds => .md ks ds
  | _ => .ml []
/-- x = a fresh container that becomes a known object -/
def wSetM (i : Nat) (w : WE) : WS := fun D S => w S fun d S1 => ∀ a, S1.h a = none → D.nx ((S1.ob a (obOf d)).st i (.f (.obj a)))
def wPar (i j : Nat) (w : WA) : WS := fun D S => w S fun ds S1 => match ds with
  | [d, e] => D.nx ((S1.st i (.f d)).st j (.f e))
  | _ => False
def wPar3 (i j l : Nat) (w : WA) : WS := fun D S => w S fun ds S1 => match ds with
  | [d, e, f] => D.nx (((S1.st i (.f d)).st j (.f e)).st l (.f f))
  | _ => False
/-- x op= e -/
def wAug (i : Nat) (g : O2) (w : WE) : WS := fun D S => match S.s[i]? with
  | some (.f d) => w S fun e S1 => g d e fun z => D.nx (S1.st i (.f z))
  | _ => False
/-- o[i] op= e, o a known list -/
def wAugM (wo wi : WE) (g : O2) (w : WE) : WS := fun D S => wo S fun x S1 => wi S1 fun y S2 => ∃ a ds j d, x = .obj a ∧ y = .int j ∧ S2.h a = some (.ml ds) ∧ atI ds j = some d ∧
  w S2 fun e S3 => g d e fun z => ∃ ds' k, S3.h a = some (.ml ds') ∧ ixN ds'.length j = some k ∧ D.nx (S3.ob a (.ml (ds'.set k z)))
/-- x[i] op= e, x owns its list -/
def wAugO (i : Nat) (wi : WE) (g : O2) (w : WE) : WS := fun D S => (∃ e, S.s[i]? = some (.o e)) ∧ wi S fun y S2 => ∃ ds j d, S2.s[i]? = some (.o (.lst ds)) ∧ y = .int j ∧ atI ds j = some d ∧
  w S2 fun e S3 => g d e fun z => ∃ ds' k, S3.s[i]? = some (.o (.lst ds')) ∧ ixN ds'.length j = some k ∧ D.nx (S3.st i (.o (.lst (ds'.set k z))))
/-- x.append(e), x owns its list -/
def wApp (i : Nat) (w : WE) : WS := fun D S => (∃ es, S.s[i]? = some (.o (.lst es))) ∧ w S fun d S1 => ∃ ds, S1.s[i]? = some (.o (.lst ds)) ∧ ds.length < sizeLine ∧ D.nx (S1.st i (.o (.lst (ds ++ [d]))))
def wForL (g : WG) (tb : WS) (T : We) : List D → Sg → Prop
  | [], S => T.nx S
  | x :: xs, S => g x S fun S1 => tb { T with nx := wForL g tb T xs, ct := wForL g tb T xs, bk := T.nx } S1
def wFor (wi : WA) (g : WG) (tb : WS) : WS := fun D S => wi S fun ds S1 => wForL g tb D ds S1
def wWhM (t : WT) (tb : WS) (T : We) : Nat → Sg → Prop
  | 0, _ => False
  | n + 1, S => t S fun b S1 => Br b (tb { T with nx := wWhM t tb T n, ct := wWhM t tb T n, bk := T.nx } S1) (T.nx S1)
@[irreducible] def wWhN (t : WT) (tb : WS) (T : We) : Nat → Sg → Prop := wWhM t tb T
theorem whn_eq (t : WT) (tb : WS) (T : We) : wWhN t tb T = wWhM t tb T := by unfold wWhN; rfl
theorem whn {t : WT} {tb : WS} {T : We} {n : Nat} {S : Sg} (h : t S fun b S1 => Br b (tb { T with nx := wWhN t tb T n, ct := wWhN t tb T n, bk := T.nx } S1) (T.nx S1)) : wWhN t tb T (n + 1) S := by
  simp only [whn_eq] at h ⊢
  exact h
theorem whn_out {t : WT} {tb : WS} {T : We} {n : Nat} {S : Sg} (h : wWhN t tb T (n + 1) S) : t S fun b S1 => Br b (tb { T with nx := wWhN t tb T n, ct := wWhN t tb T n, bk := T.nx } S1) (T.nx S1) := by
  simp only [whn_eq] at h ⊢
  exact h
theorem whn_no {t : WT} {tb : WS} {T : We} {S : Sg} (h : wWhN t tb T 0 S) : False := by
  simp only [whn_eq] at h
  exact h
def wWhile (t : WT) (tb : WS) : WS := fun D S => ∃ n, wWhN t tb D n S
section
variable {X : Cx} {a b c e o i : Expr} {es : List Expr} {st : Stmt} {sts body els : List Stmt} {w wo wi : WE} {ws : WA} {wt : WT} {t u tb : WS} {g : WG} {n : Nat} {pos p : Pos}
theorem dss_nil : DSs X [] wNext := fun E => PSs.imp pss_nil fun D σ H => by
  rintro ⟨S, F, R, hR, hw, k1, k2, k3, k4⟩
  exact k1 S σ F H hw hR (.refl _)
theorem LS.weak {K : PySem.W.Frag} {E : En} {w : WS} {σ : L2.St} {H F0 F : Hp} {S : Sg} {R : We} {D : Ends} (x0 : Ext F0 F) (hR : Rel K E F H σ S) (hw : w R S)
    (k1 : ∀ S' σ' F' H', R.nx S' → Rel K E F' H' σ' S' → Ext F F' → D.nx σ' H')
    (k2 : ∀ S' σ' F' H', R.bk S' → Rel K E F' H' σ' S' → Ext F0 F' → D.bk σ' H') (k3 : ∀ S' σ' F' H', R.ct S' → Rel K E F' H' σ' S' → Ext F0 F' → D.ct σ' H')
    (k4 : ∀ d S' v σ' F' H', R.rt d S' → Rep K F' v d → Rel K E F' H' σ' S' → Ext F0 F' → D.rt v H') : LS K E w D σ H :=
  ⟨S, F, R, hR, hw, k1, fun S' σ' F' H' q r x => k2 S' σ' F' H' q r (x0.trans x), fun S' σ' F' H' q r x => k3 S' σ' F' H' q r (x0.trans x), fun d S' v σ' F' H' q r r' x => k4 d S' v σ' F' H' q r r' (x0.trans x)⟩
theorem dss_cons (h1 : DS X st t) (h2 : DSs X sts u) : DSs X (st :: sts) (wSeq t u) := fun E => PSs.imp (pss_cons (h1 E) (h2 E)) fun D σ H => by
  rintro ⟨S, F, R, hR, hw, k1, k2, k3, k4⟩
  refine ⟨S, F, _, hR, hw, fun S1 σ1 F1 H1 hw1 hR1 x1 => ?_, k2, k3, k4⟩
  exact LS.weak x1 hR1 hw1 (fun S' σ' F' H' q r x => k1 S' σ' F' H' q r (x1.trans x)) k2 k3 k4
theorem dss_one (h1 : DS X st t) : DSs X [st] t := fun E => pss_one (h1 E)
theorem ds_pass : DS X (.Pass pos) wNext := fun E => PS.imp ps_pass fun D σ H => by
  rintro ⟨S, F, R, hR, hw, k1, k2, k3, k4⟩
  exact k1 S σ F H hw hR (.refl _)
theorem ds_break : DS X (.Break pos) wBreak := fun E => PS.imp ps_break fun D σ H => by
  rintro ⟨S, F, R, hR, hw, k1, k2, k3, k4⟩
  exact k2 S σ F H hw hR (.refl _)
theorem ds_cont : DS X (.Continue pos) wCont := fun E => PS.imp ps_continue fun D σ H => by
  rintro ⟨S, F, R, hR, hw, k1, k2, k3, k4⟩
  exact k3 S σ F H hw hR (.refl _)
theorem ds_expr (he : DE X e w) (hs : swapsWith e none pos.line X.env = pure false := by rfl) : DS X (.Expr e pos) (wDrop w) := fun E => PS.imp (ps_expr (he E) hs) fun D σ H => by
  rintro ⟨S, F, R, hR, hw, k1, k2, k3, k4⟩
  exact ⟨S, F, _, hR, hw, fun d S1 v F1 H1 hw1 r1 hR1 x1 => k1 S1 σ F1 H1 hw1 hR1 x1⟩
theorem ds_ret (he : DE X e w) : DS X (.Return (some e) pos) (wRet w) := fun E => PS.imp (ps_ret (he E)) fun D σ H => by
  rintro ⟨S, F, R, hR, hw, k1, k2, k3, k4⟩
  exact ⟨S, F, _, hR, hw, fun d S1 v F1 H1 hw1 r1 hR1 x1 => k4 d S1 v σ F1 H1 hw1 r1 hR1 x1⟩
theorem ds_retN : DS X (.Return none pos) wRetN := fun E => PS.imp ps_retN fun D σ H => by
  rintro ⟨S, F, R, hR, hw, k1, k2, k3, k4⟩
  exact k4 _ S _ σ F H hw .non hR (.refl _)
theorem ds_if (hc : DT X c wt) (ha : DSs X body t) (hb : DSs X els u) : DS X (.If c body els pos) (wIfS wt t u) := fun E => PS.imp (ps_if (hc E) (ha E) (hb E)) fun D σ H => by
  rintro ⟨S, F, R, hR, hw, k1, k2, k3, k4⟩
  refine ⟨S, F, _, hR, hw, fun b S1 F1 H1 hw1 hR1 x1 => ?_⟩
  cases b with
  | true => exact LS.weak x1 hR1 (br_t hw1) (fun S' σ' F' H' q r x => k1 S' σ' F' H' q r (x1.trans x)) k2 k3 k4
  | false => exact LS.weak x1 hR1 (br_f hw1) (fun S' σ' F' H' q r x => k1 S' σ' F' H' q r (x1.trans x)) k2 k3 k4
theorem ds_asg {tg : Expr} (he : DE X e w) (hg : DG X tg g) (hs : swapsWithSole [tg] e pos.line X.env = pure false := by rfl) (hw : swappedStores [tg] e X.env = pure none := by rfl)
    (h1 : (assignEach [tg] X.env).map (·.2) = [assign tg X.env] := by rfl) : DS X (.Assign [tg] e pos) (wAsg w g) := fun E => PS.imp (ps_asg (he E) (hg E) hs hw h1) fun D σ H => by
  rintro ⟨S, F, R, hR, hw, k1, k2, k3, k4⟩
  refine ⟨S, F, _, hR, hw, fun d S1 v F1 H1 hw1 r1 hR1 x1 => ?_⟩
  exact ⟨S1, F1, d, _, hR1, r1, hw1, fun S2 σ2 F2 H2 q r x2 => k1 S2 σ2 F2 H2 q r (x1.trans x2)⟩
/-- x = e by the rule ps_set -/
theorem ds_set {x : Str} {pos' : Pos} (i : Nat) (he : DE X e w) (h : ∀ te, PE X e te → PS X (.Assign [.Name x pos'] e pos) (tAsg te (L2.gName i))) : DS X (.Assign [.Name x pos'] e pos) (wAsg w (gVar i)) := fun E => PS.imp (h _ (he E)) fun D σ H => by
  rintro ⟨S, F, R, hR, hw, k1, k2, k3, k4⟩
  refine ⟨S, F, _, hR, hw, fun d S1 v F1 H1 hw1 r1 hR1 x1 => ?_⟩
  exact k1 _ _ F1 H1 hw1 (hR1.set r1) x1
theorem ds_setO {x : Str} {pos' : Pos} (i : Nat) (he : DN X e w) (h : ∀ te, PE X e te → PS X (.Assign [.Name x pos'] e pos) (tAsg te (L2.gName i))) : DS X (.Assign [.Name x pos'] e pos) (wSetO i w) := fun E => PS.imp (h _ (he E)) fun D σ H => by
  rintro ⟨S, F, R, hR, hw, k1, k2, k3, k4⟩
  refine ⟨S, F, _, hR, hw, fun d S1 q F1 H1 hw1 f hR1 x1 => ?_⟩
  exact k1 _ _ F1 H1 hw1 (hR1.setO f) x1
theorem ds_setM {x : Str} {pos' : Pos} (i : Nat) (he : DN X e w) (h : ∀ te, PE X e te → PS X (.Assign [.Name x pos'] e pos) (tAsg te (L2.gName i))) : DS X (.Assign [.Name x pos'] e pos) (wSetM i w) := fun E => PS.imp (h _ (he E)) fun D σ H => by
  rintro ⟨S, F, R, hR, hw, k1, k2, k3, k4⟩
  refine ⟨S, F, _, hR, hw, fun d S1 q F1 H1 hw1 f hR1 x1 => ?_⟩
  have ha : ObAt X.K F1 H1 q (obOf d) := by
    have z := f.at_
    cases d <;> first | exact z | exact z.elim
  exact k1 _ _ F1 H1 (hw1 q f.nh) ((hR1.obnew f ha).set (.obj q)) x1
theorem Reps.three_of {K : PySem.W.Frag} {F : Hp} {vs : List V} {d e f : D} (r : Reps K F vs [d, e, f]) : ∃ v u w, vs = [v, u, w] ∧ Rep K F v d ∧ Rep K F u e ∧ Rep K F w f := by
  cases r with
  | cons a b =>
    obtain ⟨u, w, rfl, q⟩ := b.two_of
    exact ⟨_, _, _, rfl, a, q⟩
theorem ds_par {x y : Str} {px py pt : Pos} {kt k2 : Nat} {pt2 : Pos} (i j : Nat) (ha : DA X [a, b] n ws) (h : ∀ ta, PA X [a, b] ta → PS X (.Assign [.Tuple [.Name x px, .Name y py] kt pt] (.Tuple [a, b] k2 pt2) pos) (tPar i j ta)) :
    DS X (.Assign [.Tuple [.Name x px, .Name y py] kt pt] (.Tuple [a, b] k2 pt2) pos) (wPar i j ws) := fun E => PS.imp (h _ (ha E)) fun D σ H => by
  rintro ⟨S, F, R, hR, hw, k1, k2, k3, k4⟩
  refine ⟨S, F, _, hR, hw, fun ds S1 vs F1 H1 hw1 l1 r1 hR1 x1 => ?_⟩
  split at hw1
  · obtain ⟨v, u, rfl, q1, q2⟩ := r1.two_of
    exact ⟨v, u, rfl, k1 _ _ F1 H1 hw1 ((hR1.set q1).set q2) x1⟩
  · exact hw1.elim
theorem ds_par3 {x y z : Str} {px py pz pt : Pos} {kt k2 : Nat} {pt2 : Pos} (i j l : Nat) (ha : DA X [a, b, c] n ws) (h : ∀ ta, PA X [a, b, c] ta → PS X (.Assign [.Tuple [.Name x px, .Name y py, .Name z pz] kt pt] (.Tuple [a, b, c] k2 pt2) pos) (tPar3 i j l ta)) :
    DS X (.Assign [.Tuple [.Name x px, .Name y py, .Name z pz] kt pt] (.Tuple [a, b, c] k2 pt2) pos) (wPar3 i j l ws) := fun E => PS.imp (h _ (ha E)) fun D σ H => by
  rintro ⟨S, F, R, hR, hw, k1, k2, k3, k4⟩
  refine ⟨S, F, _, hR, hw, fun ds S1 vs F1 H1 hw1 l1 r1 hR1 x1 => ?_⟩
  split at hw1
  · obtain ⟨v, u, w, rfl, q1, q2, q3⟩ := r1.three_of
    exact ⟨v, u, w, rfl, k1 _ _ F1 H1 hw1 (((hR1.set q1).set q2).set q3) x1⟩
  · exact hw1.elim
theorem ds_aug {x : Str} {pos' : Pos} {op : Operator} {g : O2} (i : Nat) (ho : OpV X (inplaceOp op) g) (he : DE X e w) (h : ∀ te ti, PE X e te → PIp X op ti → PS X (.AugAssign (.Name x pos') op e pos) (tAug i te ti)) : DS X (.AugAssign (.Name x pos') op e pos) (wAug i g w) := fun E => PS.imp (h _ _ (he E) ho) fun D σ H => by
  rintro ⟨S, F, R, hR, hw, k1, k2, k3, k4⟩
  unfold wAug at hw
  split at hw
  · rename_i d hd
    obtain ⟨v, h1, h2⟩ := hR.frz i d hd
    refine ⟨v, h1, S, F, _, hR, hw, fun e S1 v1 F1 H1 hw1 r1 hR1 x1 => ?_⟩
    exact ⟨F1, d, e, _, hR1.g.ext, h2.mono x1, r1, hw1, fun z v F' H' hz rz al => k1 _ _ F' H' hz ((hR1.al al).set rz) (x1.trans al.xF)⟩
  · exact hw.elim
theorem pget_list : PGet X (rIxL X.K) := fun pins s σ H o i ov iv Q I ro ri h => by
  obtain ⟨p, xs, j, v, rfl, rfl, hq, he, q⟩ := h
  cases ro
  obtain ⟨t, rfl⟩ := ri
  obtain ⟨its, r, pl, hz⟩ := I.list hq
  obtain ⟨m, h1, h2, h3, h4, h5⟩ := atI_get he
  obtain ⟨u, eu, ru⟩ := r.get h2
  have hl := r.length
  have hn := line63
  have fin : EP X pins σ Q u s := ⟨v, H, I, ru, q⟩
  have isl : s.heap.IsList p its.toArray := by
    obtain ⟨ob, n, e1, e2, e3, e4⟩ := pl
    exact ⟨ob, e1, e2, n, e4⟩
  by_cases h0 : 0 ≤ j
  · have hj : j.toNat = m := by
      rw [seqIndex_of h0 h5] at h1
      exact Option.some.inj h1
    exact wpAny_getItem_list isl h0 (by omega) (by rw [hj]; simpa using eu) fin
  · have hj : (j + (its.toArray.size : Int)).toNat = m := by
      rw [seqIndex_neg (by omega) h4] at h1
      rw [List.size_toArray, ← hl]
      exact Option.some.inj h1
    exact wpAny_getItem_list_neg isl (by omega) (by rw [List.size_toArray] <;> omega) (by omega) (by rw [hj]; simpa using eu) fin
theorem ds_augM {op : Operator} {g : O2} {tpos : Pos} (hp : OpV X (inplaceOp op) g) (ho : DE X o wo) (hi : DE X i wi) (he : DE X e w)
    (ha : ∀ ov iv new, augStore i ov iv new = (do holding [new, ov, iv] (setItem ov iv new); release [new, ov, iv] []; pure .next) := by intros; rfl) : DS X (.AugAssign (.Subscript o i tpos) op e pos) (wAugM wo wi g w) := fun E => PS.imp (ps_augS (ho E) (hi E) pget_list (he E) hp set_list ha) fun D σ H => by
  rintro ⟨S, F, R, hR, hw, k1, k2, k3, k4⟩
  refine ⟨S, F, _, hR, hw, fun x S1 v1 F1 H1 hw1 r1 hR1 x1 => ?_⟩
  refine ⟨S1, F1, _, hR1, hw1, fun y S2 v2 F2 H2 hw2 r2 hR2 x2 => ?_⟩
  obtain ⟨a, ds, j, d, rfl, rfl, h1, h2, hw2⟩ := hw2
  cases r1; cases r2
  obtain ⟨vs, q, s⟩ := (hR2.g.obs _ _ h1).1
  obtain ⟨v, h3, h4⟩ := s.at h2
  refine ⟨a, vs, j, v, rfl, rfl, .of q, h3, ?_⟩
  refine ⟨S2, F2, _, hR2, hw2, fun e S3 v3 F3 H3 hw3 r3 hR3 x3 => ?_⟩
  refine ⟨F3, d, e, _, hR3.g.ext, h4.mono x3, r3, hw3, fun z v F' H' hz rz al => ?_⟩
  obtain ⟨ds', k, g1, g2, g3⟩ := hz
  have hR4 := hR3.al al
  obtain ⟨us, q', s'⟩ := (hR4.g.obs _ _ g1).1
  refine ⟨a, us, j, k, rfl, rfl, q', by rw [s'.length]; exact g2, ?_⟩
  exact k1 _ _ F' _ g3 (hR4.obput (by rw [g1]; simp) ⟨_, upd_same, s'.set k rz⟩) (((x1.trans x2).trans x3).trans al.xF)
theorem ds_augO {op : Operator} {g : O2} {x : Str} {px tpos : Pos} (l : Nat) (hx : PE X (.Name x px) (tVar l)) (hp : OpV X (inplaceOp op) g) (hi : DE X i wi) (he : DE X e w)
    (ha : ∀ ov iv new, augStore i ov iv new = (do holding [new, ov, iv] (setItem ov iv new); release [new, ov, iv] []; pure .next) := by intros; rfl) : DS X (.AugAssign (.Subscript (.Name x px) i tpos) op e pos) (wAugO l wi g w) := fun E => PS.imp (ps_augS hx (hi E) pget_list (he E) hp set_list ha) fun D σ H => by
  rintro ⟨S, F, R, hR, ⟨⟨e0, he0⟩, hw⟩, k1, k2, k3, k4⟩
  obtain ⟨p, h0, _⟩ := hR.own l e0 he0
  refine ⟨_, h0, ?_⟩
  refine ⟨S, F, _, hR, hw, fun y S2 v2 F2 H2 hw2 r2 hR2 x2 => ?_⟩
  obtain ⟨ds, j, d, h1, rfl, h2, hw2⟩ := hw2
  cases r2
  obtain ⟨p', h0', ⟨vs, q, s⟩, _⟩ := hR2.own l _ h1
  rw [h0] at h0'
  cases h0'
  obtain ⟨v, h3, h4⟩ := s.at h2
  refine ⟨p, vs, j, v, rfl, rfl, .of q, h3, ?_⟩
  refine ⟨S2, F2, _, hR2, hw2, fun e S3 v3 F3 H3 hw3 r3 hR3 x3 => ?_⟩
  refine ⟨F3, d, e, _, hR3.g.ext, h4.mono x3, r3, hw3, fun z v F' H' hz rz al => ?_⟩
  obtain ⟨ds', k, g1, g2, g3⟩ := hz
  have hR4 := hR3.al al
  obtain ⟨p', h0', ⟨us, q', s'⟩, _⟩ := hR4.own l _ g1
  rw [h0] at h0'
  cases h0'
  refine ⟨p, us, j, k, rfl, rfl, q', by rw [s'.length]; exact g2, ?_⟩
  exact k1 _ _ F' _ g3 (hR4.mut g1 h0 ⟨_, upd_same, s'.set k rz⟩) ((x2.trans x3).trans al.xF)
/-- x.append(e) as a statement -/
theorem ds_app {x : Str} {px apos cpos : Pos} (l : Nat) (hx : PE X (.Name x px) (tVar l)) (he : DE X e w)
    (h : ∀ to t, PE X (.Name x px) to → PE X e t → PE X (.Call (.Attribute (.Name x px) "append" apos) [e] [] cpos) (tBM X.K "list" rAppend to (tCons t tNil)))
    (hs : swapsWith (.Call (.Attribute (.Name x px) "append" apos) [e] [] cpos) none pos.line X.env = pure false := by rfl) : DS X (.Expr (.Call (.Attribute (.Name x px) "append" apos) [e] [] cpos) pos) (wApp l w) := fun E => PS.imp (ps_expr (h _ _ hx (he E)) hs) fun D σ H => by
  rintro ⟨S, F, R, hR, ⟨⟨ds0, he0⟩, hw⟩, k1, k2, k3, k4⟩
  obtain ⟨p, h0, ⟨vs0, q0, _⟩, _⟩ := hR.own l _ he0
  refine ⟨_, h0, .inl ⟨rfl, _, .of q0⟩, ?_⟩
  refine ⟨S, F, _, hR, hw, fun d S1 v F1 H1 hw1 r1 hR1 x1 => ?_⟩
  obtain ⟨ds, g1, g2, g3⟩ := hw1
  obtain ⟨p', h0', ⟨vs, q, s⟩, _⟩ := hR1.own l _ g1
  rw [h0] at h0'
  cases h0'
  refine ⟨p, vs, v, rfl, rfl, q, by rw [s.length]; exact g2, ?_⟩
  exact k1 _ _ F1 _ g3 (hR1.mut g1 h0 ⟨_, upd_same, s.append (.one r1)⟩) x1
/-! ### loops -/
theorem ds_for {tg iter : Expr} (hp : PassesOwn (model X.prog X.w) X.A X.env X.xe) (hc : X.calm = true) (hi : DI X tg iter ws) (hg : DG X tg g) (hb : DSs X body tb)
    (hs : ∀ x, foldedSetIterable iter X.env x = pure x := by intro _; rfl) : DS X (.For tg iter body [] pos) (wFor ws g tb) := fun E => PS.imp (ps_for hp hc (hi E) (hg E) (hb E) hs) fun D σ H => by
  rintro ⟨S, F, R, hR, hw, k1, k2, k3, k4⟩
  refine ⟨S, F, _, hR, hw, fun ds S1 J F1 H1 hw1 fd hR1 x1 => ?_⟩
  refine ⟨fun i m σ H => m + i = ds.length ∧ ∃ F2 S2, Rel X.K E F2 H σ S2 ∧ Ext F1 F2 ∧ wForL g tb R (ds.drop i) S2, ⟨ds.length, rfl, F1, S1, hR1, .refl _, hw1⟩, fun i m σ2 H2 hW => ?_⟩
  obtain ⟨hm, F2, S2, hR2, x2, hw2⟩ := hW
  obtain ⟨go, stop⟩ := fd F2 H2 x2 hR2.g.ext
  by_cases hi : i < ds.length
  · have hd : ds[i]? = some ds[i] := List.getElem?_eq_getElem hi
    obtain ⟨h1, h2⟩ := go i _ hd
    rw [List.drop_eq_getElem_cons hi] at hw2
    refine .inr ⟨h1, fun σ' H' => ∃ F3 S3, Rel X.K E F3 H' σ' S3 ∧ Ext F1 F3 ∧ wForL g tb R (ds.drop (i + 1)) S3, fun σ' H' hN => ⟨m - 1, by omega, by omega, hN⟩, fun x H3 hy => ?_⟩
    obtain ⟨F3, al, rx⟩ := h2 x H3 hy
    refine ⟨S2, F3, _, _, hR2.al al, rx, hw2, fun S4 σ4 F4 H4 hw4 hR4 x4 => ?_⟩
    have x14 : Ext F1 F4 := (x2.trans al.xF).trans x4
    refine ⟨S4, F4, _, hR4, hw4, fun S' σ' F' H' q r x => ⟨F', S', r, x14.trans x, q⟩, fun S' σ' F' H' q r x => k1 S' σ' F' H' q r ((x1.trans x14).trans x), fun S' σ' F' H' q r x => ⟨F', S', r, x14.trans x, q⟩, fun d S' v σ' F' H' q r r' x => k4 d S' v σ' F' H' q r r' ((x1.trans x14).trans x)⟩
  · refine .inl ⟨stop i (by omega), ?_⟩
    rw [List.drop_eq_nil_of_le (by omega)] at hw2
    exact k1 S2 σ2 F2 H2 hw2 hR2 (x1.trans x2)
theorem ds_while (hp : PassesOwn (model X.prog X.w) X.A X.env X.xe) (hc : DT X c wt) (hb : DSs X body tb) : DS X (.While c body [] pos) (wWhile wt tb) := fun E => PS.imp (ps_while hp (hc E) (hb E)) fun D σ H => by
  rintro ⟨S, F, R, hR, ⟨n, hw⟩, k1, k2, k3, k4⟩
  refine ⟨fun m σ H => ∃ F2 S2, Rel X.K E F2 H σ S2 ∧ Ext F F2 ∧ wWhN wt tb R m S2, ⟨n, F, S, hR, .refl _, hw⟩, fun m σ2 H2 hW => ?_⟩
  obtain ⟨F2, S2, hR2, x2, hw2⟩ := hW
  cases m with
  | zero => exact (whn_no hw2).elim
  | succ m =>
    refine ⟨S2, F2, _, hR2, whn_out hw2, fun b S3 F3 H3 hw3 hR3 x3 => ?_⟩
    cases b with
    | true =>
      refine ⟨fun σ' H' => ∃ F4 S4, Rel X.K E F4 H' σ' S4 ∧ Ext F F4 ∧ wWhN wt tb R m S4, fun σ' H' hN => ⟨m, Nat.lt_succ_self m, hN⟩, ?_⟩
      have x13 : Ext F F3 := x2.trans x3
      exact ⟨S3, F3, _, hR3, br_t hw3, fun S' σ' F' H' q r x => ⟨F', S', r, x13.trans x, q⟩, fun S' σ' F' H' q r x => k1 S' σ' F' H' q r (x13.trans x), fun S' σ' F' H' q r x => ⟨F', S', r, x13.trans x, q⟩, fun d S' v σ' F' H' q r r' x => k4 d S' v σ' F' H' q r r' (x13.trans x)⟩
    | false => exact k1 S3 σ2 F3 H3 (br_f hw3) hR3 (x2.trans x3)
end

end VL

set_option Elab.async false
set_option linter.all false
set_option maxRecDepth 100000
set_option maxHeartbeats 4000000
/-! VL6: comprehensions, calls of defs, defs. -/
namespace VL
open PySem PySem.Spec L2
/-! ### comprehensions -/
def wipeS (s : List Sl) : List Nat → List Sl
  | [] => s
  | v :: vs => (wipeS s vs).set v .u
def noOwn (s : List Sl) (vs : List Nat) : Bool := vs.all fun v => match s[v]? with
  | some (.o _) => false
  | _ => true
def wYes : WT := fun S R => R true S
def wLcL (g : WG) (tt : WT) (te : WE) (vs : List Nat) (s0 : List Sl) (R : List D → Oh → Prop) : List D → Oh → List D → Prop
  | [], h, acc => R acc h
  | x :: xs, h, acc => g x ⟨wipeS s0 vs, h⟩ fun S1 => tt S1 fun b S2 => Br b
      (te S2 fun d S3 => wipeS S3.s vs = wipeS s0 vs ∧ wLcL g tt te vs s0 R xs S3.h (acc ++ [d])) (wipeS S2.s vs = wipeS s0 vs ∧ wLcL g tt te vs s0 R xs S2.h acc)
def wLc (wi : WA) (g : WG) (tt : WT) (te : WE) (vs : List Nat) : WE := fun S R => wi S fun ds S1 => noOwn S1.s vs = true ∧ ds.length ≤ 1000000 ∧ wLcL g tt te vs S1.s (fun acc h => R (.lst acc) ⟨S1.s, h⟩) ds S1.h []
theorem wipe_get {σ : L2.St} {vs : List Nat} {i : Nat} (h : i ∉ vs) : (wipe σ vs)[i]? = σ[i]? := by
  induction vs with
  | nil => rfl
  | cons v vs ih =>
    have h1 : v ≠ i := fun z => h (by rw [z]; exact List.mem_cons_self)
    show ((wipe σ vs).set v none)[i]? = _
    rw [List.getElem?_set_ne h1]
    exact ih fun z => h (List.mem_cons_of_mem _ z)
theorem wipeS_get {s : List Sl} {vs : List Nat} {i : Nat} (h : i ∉ vs) : (wipeS s vs)[i]? = s[i]? := by
  induction vs with
  | nil => rfl
  | cons v vs ih =>
    have h1 : v ≠ i := fun z => h (by rw [z]; exact List.mem_cons_self)
    show ((wipeS s vs).set v .u)[i]? = _
    rw [List.getElem?_set_ne h1]
    exact ih fun z => h (List.mem_cons_of_mem _ z)
theorem wipeS_len (s : List Sl) : ∀ vs, (wipeS s vs).length = s.length
  | [] => rfl
  | v :: vs => by
    show ((wipeS s vs).set v .u).length = _
    rw [List.length_set, wipeS_len s vs]
theorem wipeS_in {s : List Sl} {vs : List Nat} {i : Nat} {x : Sl} (h : i ∈ vs) (e : (wipeS s vs)[i]? = some x) : x = .u := by
  induction vs with
  | nil => cases h
  | cons v vs ih =>
    have e' : ((wipeS s vs).set v .u)[i]? = some x := e
    rcases set_get e' with ⟨_, q, _⟩ | ⟨n, q⟩
    · exact q.symm
    · rcases List.mem_cons.mp h with z | z
      · exact absurd z n
      · exact ih z q
theorem wipe_in {σ : L2.St} {vs : List Nat} {i : Nat} {x : V} (h : i ∈ vs) : (wipe σ vs)[i]? ≠ some (some x) := fun e => (wipe_some e).2 h
theorem wipe_set {σ : L2.St} {vs : List Nat} {i : Nat} {x : Option V} (h : i ∈ vs) : wipe (σ.set i x) vs = wipe σ vs := by
  induction vs with
  | nil => cases h
  | cons v vs ih =>
    show (wipe (σ.set i x) vs).set v none = (wipe σ vs).set v none
    by_cases e : i = v
    · subst e
      by_cases hi : i ∈ vs
      · rw [ih hi]
      · apply List.ext_getElem?
        intro j
        by_cases hj : j = i
        · subst hj
          by_cases hl : j < σ.length
          · rw [List.getElem?_set_self (by rw [wipe_length, List.length_set]; exact hl), List.getElem?_set_self (by rw [wipe_length]; exact hl)]
          · rw [List.getElem?_eq_none (by rw [List.length_set, wipe_length, List.length_set]; omega), List.getElem?_eq_none (by rw [List.length_set, wipe_length]; omega)]
        · rw [List.getElem?_set_ne (Ne.symm hj), List.getElem?_set_ne (Ne.symm hj)]
          by_cases hv : j ∈ vs
          · have key : ∀ (τ : L2.St) (vs : List Nat), j ∈ vs → (wipe τ vs)[j]? = if j < τ.length then some none else none := by
              intro τ vs
              induction vs with
              | nil => intro h; cases h
              | cons u us ihu =>
                intro h
                show ((wipe τ us).set u none)[j]? = _
                by_cases hju : j = u
                · subst hju
                  by_cases hl : j < τ.length
                  · rw [List.getElem?_set_self (by rw [wipe_length]; exact hl), if_pos hl]
                  · rw [List.getElem?_eq_none (by rw [List.length_set, wipe_length]; omega), if_neg hl]
                · rw [List.getElem?_set_ne (Ne.symm hju)]
                  exact ihu ((List.mem_cons.mp h).resolve_left hju)
            rw [key _ _ hv, key _ _ hv, List.length_set]
          · rw [wipe_get hv, wipe_get hv, List.getElem?_set_ne (Ne.symm hj)]
    · rw [ih ((List.mem_cons.mp h).resolve_left e)]
theorem wipe_wipe {σ : L2.St} : ∀ {vs us : List Nat}, (∀ v ∈ vs, v ∈ us) → wipe (wipe σ vs) us = wipe σ us
  | [], _, _ => rfl
  | v :: vs, us, h => by
    show wipe ((wipe σ vs).set v none) us = _
    rw [wipe_set (h v List.mem_cons_self)]
    exact wipe_wipe fun x hx => h x (List.mem_cons_of_mem _ hx)
section
variable {X : Cx} {K : PySem.W.Frag} {E : En} {F F' F2 H H' H2 : Hp} {σ σ' : L2.St} {S : Sg} {p : Addr} {o : HO} {d : D} {v : V} {i : Nat} {vs : List Nat}
/-- within a block: its own names are unset -/
theorem Rel.wipe (R : Rel K E F H σ S) (vs : List Nat) : Rel K E F H (wipe σ vs) ⟨wipeS S.s vs, S.h⟩ := by
  have at_ : ∀ (i : Nat) (x : Sl), x ≠ .u → (wipeS S.s vs)[i]? = some x → S.s[i]? = some x ∧ i ∉ vs := fun i x nu h => by
    by_cases hi : i ∈ vs
    · exact absurd (wipeS_in hi h) nu
    · rw [wipeS_get hi] at h
      exact ⟨h, hi⟩
  refine ⟨R.g, by show (wipeS S.s vs).length = _; rw [wipeS_len, wipe_length]; exact R.len, fun i d h => ?_, fun i d h => ?_, fun i j d e p h1 h2 h3 h4 => ?_⟩
  · obtain ⟨h, hi⟩ := at_ i (.f d) (fun z => nomatch z) h
    rw [wipe_get hi]
    exact R.frz i d h
  · obtain ⟨h, hi⟩ := at_ i (.o d) (fun z => nomatch z) h
    rw [wipe_get hi]
    exact R.own i d h
  · obtain ⟨h1, i1⟩ := at_ i (.o d) (fun z => nomatch z) h1
    obtain ⟨h2, i2⟩ := at_ j (.o e) (fun z => nomatch z) h2
    rw [wipe_get i1] at h3
    rw [wipe_get i2] at h4
    exact R.inj i j d e p h1 h2 h3 h4
/-- behind a block's turn -/
theorem Rel.back {S3 : Sg} (R : Rel K E F H σ S) (ho : noOwn S.s vs = true) (hs : wipeS S3.s vs = wipeS S.s vs) (hσ : L2.wipe σ' vs = L2.wipe σ vs)
    (xF : Ext F F') (R3 : Rel K ⟨F2, H2, S.h, owns (L2.wipe σ vs) ⟨wipeS S.s vs, S.h⟩⟩ F' H' σ' S3) (gr : Gr K E F2 H2 S.h) : Rel K E F' H' σ ⟨S.s, S3.h⟩ := by
  have eqs : ∀ i, i ∉ vs → S3.s[i]? = S.s[i]? := fun i hi => by
    have := congrArg (fun l : List Sl => l[i]?) hs
    simp only [wipeS_get hi] at this
    exact this
  have eqσ : ∀ i, i ∉ vs → σ'[i]? = σ[i]? := fun i hi => by
    have := congrArg (fun l : L2.St => l[i]?) hσ
    simp only [wipe_get hi] at this
    exact this
  have now : ∀ (i : Nat) (d : D), S.s[i]? = some (.o d) → i ∉ vs := fun i d h hi => by
    have := List.all_eq_true.mp ho i hi
    rw [h] at this
    cases this
  refine ⟨Gr.then gr (fun p hp => ?_) R3.g, R.len, fun i d h => ?_, fun i d h => ?_, R.inj⟩
  · obtain ⟨j, e, h1, h2⟩ := hp
    have hj : j ∉ vs := fun z => by
      have := wipeS_in z h1
      cases this
    have h1' : S.s[j]? = some (.o e) := by rw [← wipeS_get hj]; exact h1
    have h2' : σ[j]? = some (some (.ref p)) := by rw [← wipe_get hj]; exact h2
    exact R.ownE ⟨j, e, h1', h2'⟩
  · by_cases hi : i ∈ vs
    · obtain ⟨v, h1, h2⟩ := R.frz i d h
      exact ⟨v, h1, h2.mono xF⟩
    · obtain ⟨v, h1, h2⟩ := R3.frz i d (by rw [eqs i hi]; exact h)
      rw [eqσ i hi] at h1
      exact ⟨v, h1, h2⟩
  · have hi := now i d h
    obtain ⟨q, h1, h2, h3, h4, _⟩ := R3.own i d (by rw [eqs i hi]; exact h)
    rw [eqσ i hi] at h1
    exact ⟨q, h1, h2, h3, h4, R.ownE ⟨i, d, h, h1⟩⟩
/-- a fresh container changes -/
theorem Rel.mutN {e : D} (R : Rel K E F H σ S) (f : Fresh K E F H σ S p d) (ha : OwAt K F (upd H p o) p e) : Rel K E F (upd H p o) σ S ∧ Fresh K E F (upd H p o) σ S p e := by
  have ne : ∀ b, F b ≠ none → b ≠ p := fun b hb z => hb (z ▸ f.nF)
  refine ⟨⟨⟨fun b u q => ?_, R.g.gF, R.g.gN, fun b u q1 q2 q3 => ?_, fun b q => ?_, R.g.gO, fun a ob q => ?_⟩, R.len, R.frz, fun j e' h => ?_, R.inj⟩, ⟨ha, f.nF, f.nh, f.nE, f.no⟩⟩
  · rw [upd_ne (ne b (by rw [q]; simp))]; exact R.g.ext _ _ q
  · have : b ≠ p := fun z => by rw [z, f.nE] at q1; cases q1
    rw [upd_ne this]; exact R.g.gH b u q1 q2 q3
  · by_cases hb : b = p
    · subst hb; rw [upd_same]; simp
    · rw [upd_ne hb]; exact R.g.gP b q
  · obtain ⟨q1, q2⟩ := R.g.obs a ob q
    have na : a ≠ p := fun z => by rw [z, f.nh] at q; cases q
    exact ⟨q1.mono (.refl _) (upd_ne na), q2⟩
  · obtain ⟨u, q1, q2, q3, q4, q5⟩ := R.own j e' h
    have nu : u ≠ p := fun z => f.no j e' h (z ▸ q1)
    exact ⟨u, q1, q2.mono (.refl _) (upd_ne nu), q3, q4, q5⟩
/-- a target of plain names of a block -/
def TgN (K : PySem.W.Frag) (gt : TG) (g : WG) (vs : List Nat) : Prop := ∀ (E : En) (v : V) (σ : L2.St) (S : Sg) (F H : Hp) (d : D) (R : Sg → Prop) (Q : L2.St → Hp → Prop), Rel K E F H σ S → Rep K F v d → g d S R →
  (∀ σ' S', Rel K E F H σ' S' → L2.wipe σ' vs = L2.wipe σ vs → R S' → Q σ' H) → gt v σ H Q
theorem tg_one (hi : i ∈ vs) : TgN K (L2.gName i) (gVar i) vs := fun E v σ S F H d R Q hR r hg k => k _ _ (hR.set r) (wipe_set hi) hg
def namesG : List Nat → TGs
  | [] => gNil
  | i :: is => gCons (L2.gName i) (namesG is)
def namesW : List Nat → WGs
  | [] => gsNil
  | i :: is => gsCons (gVar i) (namesW is)
theorem tg_names : ∀ (is : List Nat), (∀ i ∈ is, i ∈ vs) → ∀ (E : En) (us : List V) (σ : L2.St) (S : Sg) (F H : Hp) (ds : List D) (R : Sg → Prop) (Q : L2.St → Hp → Prop), Rel K E F H σ S → Reps K F us ds → namesW is ds S R →
    (∀ σ' S', Rel K E F H σ' S' → L2.wipe σ' vs = L2.wipe σ vs → R S' → Q σ' H) → namesG is us σ H Q
  | [], _, E, us, σ, S, F, H, ds, R, Q, hR, r, hg, k => by
    cases r with
    | nil => exact ⟨rfl, k σ S hR rfl hg⟩
    | cons => exact hg.elim
  | i :: is, hi, E, us, σ, S, F, H, ds, R, Q, hR, r, hg, k => by
    cases r with
    | nil => exact hg.elim
    | cons r1 r2 =>
      refine ⟨_, _, rfl, ?_⟩
      exact tg_names is (fun j hj => hi j (List.mem_cons_of_mem _ hj)) E _ _ _ F H _ R Q (hR.set r1) r2 hg fun σ' S' hR' hw hr => k σ' S' hR' (hw.trans (wipe_set (hi i List.mem_cons_self))) hr
theorem tg_tup {n : Nat} (is : List Nat) (hi : ∀ i ∈ is, i ∈ vs) : TgN K (gTup K n (namesG is)) (gTp n (namesW is)) vs := fun E v σ S F H d R Q hR r hg k => by
  cases r with
  | tup q s => exact ⟨_, _, rfl, hR.g.ext.sqT q, s.length.trans hg.1, tg_names is hi E _ σ S F H _ R Q hR s hg.2 k⟩
  | _ => exact hg.elim
def LTx (K : PySem.W.Frag) (w : WT) : TT := fun σ H Q => ∃ E, LT K E w σ H Q
def LEx (K : PySem.W.Frag) (w : WE) : TE := fun σ H Q => ∃ E, LE K E w σ H Q
theorem pt_x {a : Expr} {w : WT} (h : DT X a w) : PT X a (LTx X.K w) := ⟨fun pins s σ H Q I q => let ⟨E, q⟩ := q; (h E).run pins s σ H Q I q⟩
theorem pe_x {a : Expr} {w : WE} (h : DE X a w) : PE X a (LEx X.K w) := ⟨fun pins s σ H Q I q => let ⟨E, q⟩ := q; (h E).run pins s σ H Q I q⟩
theorem pts_x0 : PTs X [] (LTx X.K wYes) := ⟨fun pins s σ H Q I q => by
  obtain ⟨E, S, F, R, hR, hw, k⟩ := q
  exact pts_nil.run pins s σ H Q I (k true S F H hw hR (.refl _))⟩
theorem pts_x1 {a : Expr} {w : WT} (h : DT X a w) : PTs X [a] (LTx X.K w) := pts_one (pt_x h)
theorem lc_read {wi : WA} {gt : TG} {g : WG} {tt : WT} {te : WE} {Q : VK} (ht : TgN K gt g vs) (hq : LN K E (wLc wi g tt te vs) σ H Q) : tLc (LI K E wi) gt (LTx K tt) (LEx K te) vs σ H Q := by
  obtain ⟨S, F, R, hR, hw, k⟩ := hq
  refine ⟨S, F, _, hR, hw, fun ds S1 J F1 H1 hw1 fd hR1 x1 D0 hD => ?_⟩
  obtain ⟨no, hl, hw1⟩ := hw1
  obtain ⟨f0, hR1'⟩ := fresh_of hR1 hD (K := K) (E := E) (F := F1) (vs := []) (ds := []) .nil
  refine ⟨fun i m H => m + i = ds.length ∧ ∃ F2 h2 acc, Rel K E F2 H σ ⟨S1.s, h2⟩ ∧ Ext F1 F2 ∧ Fresh K E F2 H σ ⟨S1.s, h2⟩ D0 (.lst acc) ∧ acc.length ≤ i ∧ wLcL g tt te vs S1.s (fun acc h => R (.lst acc) ⟨S1.s, h⟩) (ds.drop i) h2 acc,
    ⟨ds.length, rfl, F1, S1.h, [], hR1', .refl _, f0, Nat.le_refl _, hw1⟩, fun i m H2 hW => ?_⟩
  obtain ⟨hm, F2, h2, acc, hR2, x2, f2, la, hw2⟩ := hW
  obtain ⟨go, stop⟩ := fd F2 H2 x2 hR2.g.ext
  by_cases hi : i < ds.length
  · have hd : ds[i]? = some ds[i] := List.getElem?_eq_getElem hi
    obtain ⟨g1, g2⟩ := go i _ hd
    rw [List.drop_eq_getElem_cons hi] at hw2
    refine .inr ⟨g1, fun H' => ∃ F3 h3 acc', Rel K E F3 H' σ ⟨S1.s, h3⟩ ∧ Ext F1 F3 ∧ Fresh K E F3 H' σ ⟨S1.s, h3⟩ D0 (.lst acc') ∧ acc'.length ≤ i + 1 ∧ wLcL g tt te vs S1.s (fun acc h => R (.lst acc) ⟨S1.s, h⟩) (ds.drop (i + 1)) h3 acc', fun H' hN => ⟨m - 1, by omega, by omega, hN⟩, fun x H3 hy => ?_⟩
    obtain ⟨F3, al, rx⟩ := g2 x H3 hy
    have hR3 := hR2.al al
    have hRw := (hR3.wipe vs).enter
    refine ht _ x (L2.wipe σ vs) _ F3 H3 _ _ _ hRw rx hw2 fun σ4 S4 hR4 hσ4 hw4 => ?_
    have hσ4' : L2.wipe σ4 vs = L2.wipe σ vs := hσ4.trans (wipe_wipe fun _ h => h)
    refine ⟨hσ4', _, S4, F3, _, hR4, hw4, fun b S5 F5 H5 hw5 hR5 x5 => ?_⟩
    have nown : ¬ owns (L2.wipe σ vs) ⟨wipeS S1.s vs, h2⟩ D0 := fun ⟨j, e, q1, q2⟩ => by
      have hj : j ∉ vs := fun z => by cases wipeS_in z q1
      have q1' : (wipeS S1.s vs)[j]? = some (.o e) := q1
      rw [wipeS_get hj] at q1'
      rw [wipe_get hj] at q2
      exact f2.no j e q1' q2
    have hD3 : ∃ u, H3 D0 = some u := Option.ne_none_iff_exists'.mp (by rw [al.xH.ne f2.at_.there]; exact f2.at_.there)
    obtain ⟨u, hu⟩ := hD3
    have fin : ∀ F6 H6 S6, Rel K ⟨F3, H3, h2, owns (L2.wipe σ vs) ⟨wipeS S1.s vs, h2⟩⟩ F6 H6 σ4 S6 → Ext F3 F6 → wipeS S6.s vs = wipeS S1.s vs → Rel K E F6 H6 σ ⟨S1.s, S6.h⟩ ∧ Fresh K E F6 H6 σ ⟨S1.s, S6.h⟩ D0 (.lst acc) := fun F6 H6 S6 hR6 x6 hs6 => by
      have hR7 := hR3.back (S3 := S6) no hs6 hσ4' x6 hR6 hR3.g
      have e6 : H6 D0 = some u := hR6.g.gH D0 u hu f2.nh nown
      have n6 : F6 D0 = none := hR6.g.gN D0 (al.new D0 f2.nF f2.at_.there) (by show H3 D0 ≠ none; rw [hu]; simp) nown
      have h6 : S6.h D0 = none := by
        cases q : S6.h D0 with
        | none => rfl
        | some y =>
          rcases hR6.g.gO D0 (by rw [q]; simp) with z | z
          · exact absurd f2.nh z
          · have z' : H3 D0 = none := z
            rw [hu] at z'; cases z'
      exact ⟨hR7, f2.at_.mono (al.xF.trans x6) (by rw [e6, ← hu]; exact al.xH.ne f2.at_.there), n6, h6, f2.nE, f2.no⟩
    cases b with
    | true =>
      refine L2.iteT ?_
      refine ⟨_, S5, F5, _, hR5, br_t hw5, fun d S6 y F6 H6 hw6 r6 hR6 x6 => ?_⟩
      obtain ⟨hs6, hw6⟩ := hw6
      obtain ⟨hR7, f7⟩ := fin F6 H6 S6 hR6 (x5.trans x6) hs6
      obtain ⟨avs, ea, ra⟩ := f7.at_
      refine ⟨avs, ea, ?_, ?_⟩
      · have := ra.length
        have hz : (1000000 : Nat) < sizeLine := by decide
        omega
      · obtain ⟨hR8, f8⟩ := hR7.mutN (o := .lst (avs ++ [y])) (e := .lst (acc ++ [d])) f7 ⟨_, upd_same, ra.append (.one r6)⟩
        exact ⟨F6, S6.h, _, hR8, ((x2.trans al.xF).trans x5).trans x6, f8, by rw [List.length_append]; exact Nat.succ_le_succ la, hw6⟩
    | false =>
      refine L2.iteF ?_
      obtain ⟨hs6, hw6⟩ := br_f hw5
      obtain ⟨hR7, f7⟩ := fin F5 H5 S5 hR5 x5 hs6
      exact ⟨F5, S5.h, acc, hR7, (x2.trans al.xF).trans x5, f7, Nat.le_succ_of_le la, hw6⟩
  · refine .inl ⟨stop i (by omega), ?_⟩
    rw [List.drop_eq_nil_of_le (by omega)] at hw2
    exact k _ _ D0 F2 H2 hw2 f2 hR2 (x1.trans x2)
theorem dn_lc {gt : TG} {elt tg iter : Expr} {ifs : List Expr} {scope : Scope} {own : List (Str × Nat)} {pos : Pos} {wi : WA} {g : WG} {tt : WT} {te : WE} (hc : X.calm = true) (hN : X.N.Nodup) (hi : DI X tg iter wi) (ok : BlkOk X.N X.env.scope scope own)
    (hT : TgN X.K gt g (own.map (·.2)))
    (hg : ∀ (s : Shared) (H : Hp) (C : Addr) (cl : List (Str × Addr)) (fp : List Addr), PG (X.blk s H scope (compEnvC scope cl C X.env) fp) tg gt) (ht : ∀ (s : Shared) (H : Hp) (C : Addr) (cl : List (Str × Addr)) (fp : List Addr), PTs (X.blk s H scope (compEnvC scope cl C X.env) fp) ifs (LTx X.K tt))
    (he : ∀ (s : Shared) (H : Hp) (C : Addr) (cl : List (Str × Addr)) (fp : List Addr), DE (X.blk s H scope (compEnvC scope cl C X.env) fp) elt te) (hs : ∀ x, foldedSetIterable iter X.env x = pure x := by intro _; rfl) :
    DN X (.ListComp elt [⟨tg, iter, ifs, 0⟩] scope pos) (wLc wi g tt te (own.map (·.2))) := fun E => PE.imp (pe_lc hc hN (hi E) ok hg ht (fun s H C cl fp => pe_x (he s H C cl fp)) hs) fun σ H Q => lc_read hT
/-- y = [..] on one line, y a local -/
theorem ds_setLc {gt : TG} {i : Nat} {y : Str} {py : Pos} {elt tg iter : Expr} {ifs : List Expr} {scope : Scope} {own : List (Str × Nat)} {pos spos : Pos} {wi : WA} {g : WG} {tt : WT} {te : WE} (hc : X.calm = true) (hN : X.N.Nodup) (hy : X.N[i]? = some y) (hyl : X.env.scope.names.lookup y = some .local)
    (hsw : swapsWith (.ListComp elt [⟨tg, iter, ifs, 0⟩] scope pos) (some (.Name y py)) spos.line X.env = pure true) (hi : DI X tg iter wi) (ok : BlkOk X.N X.env.scope scope own)
    (hT : TgN X.K gt g (own.map (·.2)))
    (hg : ∀ (s : Shared) (H : Hp) (C : Addr) (cl : List (Str × Addr)) (fp : List Addr), PG (X.blk s H scope (compEnvC scope cl C X.env) fp) tg gt) (ht : ∀ (s : Shared) (H : Hp) (C : Addr) (cl : List (Str × Addr)) (fp : List Addr), PTs (X.blk s H scope (compEnvC scope cl C X.env) fp) ifs (LTx X.K tt))
    (he : ∀ (s : Shared) (H : Hp) (C : Addr) (cl : List (Str × Addr)) (fp : List Addr), DE (X.blk s H scope (compEnvC scope cl C X.env) fp) elt te) (hs : ∀ x, foldedSetIterable iter X.env x = pure x := by intro _; rfl) :
    DS X (.Assign [.Name y py] (.ListComp elt [⟨tg, iter, ifs, 0⟩] scope pos) spos) (wSetO i (wLc wi g tt te (own.map (·.2)))) := fun E => PS.imp (ps_setLc hc hN hy hyl hsw (hi E) ok hg ht (fun s H C cl fp => pe_x (he s H C cl fp)) hs) fun D σ H => by
  rintro ⟨S, F, R, hR, hw, k1, k2, k3, k4⟩
  refine lc_read (E := E) hT ⟨S, F, _, hR, hw, fun d S1 q F1 H1 hw1 f hR1 x1 => ?_⟩
  exact k1 _ _ F1 H1 hw1 (hR1.setO f) x1
/-- .. frozen at once -/
theorem ds_setLcF {gt : TG} {i : Nat} {y : Str} {py : Pos} {elt tg iter : Expr} {ifs : List Expr} {scope : Scope} {own : List (Str × Nat)} {pos spos : Pos} {wi : WA} {g : WG} {tt : WT} {te : WE} (hc : X.calm = true) (hN : X.N.Nodup) (hy : X.N[i]? = some y) (hyl : X.env.scope.names.lookup y = some .local)
    (hsw : swapsWith (.ListComp elt [⟨tg, iter, ifs, 0⟩] scope pos) (some (.Name y py)) spos.line X.env = pure true) (hi : DI X tg iter wi) (ok : BlkOk X.N X.env.scope scope own)
    (hT : TgN X.K gt g (own.map (·.2)))
    (hg : ∀ (s : Shared) (H : Hp) (C : Addr) (cl : List (Str × Addr)) (fp : List Addr), PG (X.blk s H scope (compEnvC scope cl C X.env) fp) tg gt) (ht : ∀ (s : Shared) (H : Hp) (C : Addr) (cl : List (Str × Addr)) (fp : List Addr), PTs (X.blk s H scope (compEnvC scope cl C X.env) fp) ifs (LTx X.K tt))
    (he : ∀ (s : Shared) (H : Hp) (C : Addr) (cl : List (Str × Addr)) (fp : List Addr), DE (X.blk s H scope (compEnvC scope cl C X.env) fp) elt te) (hs : ∀ x, foldedSetIterable iter X.env x = pure x := by intro _; rfl) :
    DS X (.Assign [.Name y py] (.ListComp elt [⟨tg, iter, ifs, 0⟩] scope pos) spos) (wAsg (wLc wi g tt te (own.map (·.2))) (gVar i)) := fun E => PS.imp (ps_setLc hc hN hy hyl hsw (hi E) ok hg ht (fun s H C cl fp => pe_x (he s H C cl fp)) hs) fun D σ H => by
  rintro ⟨S, F, R, hR, hw, k1, k2, k3, k4⟩
  refine lc_read (E := E) hT ⟨S, F, _, hR, hw, fun d S1 q F1 H1 hw1 f hR1 x1 => ?_⟩
  obtain ⟨o, ho⟩ := Option.ne_none_iff_exists'.mp f.at_.there
  exact k1 _ _ _ H1 hw1 ((hR1.freezeN f ho).set (f.at_.rep ho f.nF)) (x1.trans (.new f.nF))
end

/-! ### defs and their calls -/
def NX : XC := fun _ _ _ => False
/-- a promise about data, as a promise about values -/
def spOf (K : PySem.W.Frag) (n : Nat) (sp : Spc) : Sp := fun vs H Q _ => ∃ F ds h R, ds.length = n ∧ Ext F H ∧ Reps K F vs ds ∧ (∀ a ob, h a = some ob → ObAt K F H a ob ∧ F a = none) ∧ sp ds h R NX ∧
  ∀ r h' v F' H', R r h' → Rep K F' v r → Gr K ⟨F, H, h, fun _ => False⟩ F' H' h' → Q v H'
def wCall (sp : Spc) (ws : WA) : WE := fun S R => ws S fun ds S1 => sp ds S1.h (fun r h' => R r ⟨S1.s, h'⟩) NX
theorem Rel.after {K : PySem.W.Frag} {E : En} {F F' H H' : Hp} {σ : L2.St} {S : Sg} {h' : Oh} (R : Rel K E F H σ S) (g : Gr K ⟨F, H, S.h, fun _ => False⟩ F' H' h') : Rel K E F' H' σ ⟨S.s, h'⟩ := by
  refine ⟨R.g.then (fun p hp => hp.elim) g, R.len, fun i d h => ?_, fun i d h => ?_, R.inj⟩
  · obtain ⟨v, h1, h2⟩ := R.frz i d h
    exact ⟨v, h1, h2.mono g.gF⟩
  · obtain ⟨p, h1, h2, h3, h4, h5⟩ := R.own i d h
    obtain ⟨u, hu⟩ := Option.ne_none_iff_exists'.mp h2.there
    have e : H' p = some u := g.gH p u hu h4 id
    refine ⟨p, h1, h2.mono g.gF (by rw [e, hu]), g.gN p h3 h2.there id, ?_, h5⟩
    show h' p = none
    cases q : h' p with
    | none => rfl
    | some y =>
      rcases g.gO p (by rw [q]; simp) with z | z
      · exact absurd h4 z
      · have z' : H p = none := z
        rw [hu] at z'; cases z'
section
variable {X : Cx} {k n : Nat} {f : Addr} {fd : FuncData} {ps : List Str} {spc : Spc} {x : Str} {p pos : Pos} {e : Expr} {es : List Expr} {ws : WA}
theorem de_call (F : FnOk X.prog X.w X.K X.mg X.base CX0 k f fd ps (spOf X.K n spc)) (hr : Room k X.A) (hg : Gl X x) (hm : X.mg x = some (.ref f)) (hk : PySem.W.keepIn X.K (.ref f) = true) (hb : Binds X.K fd ps []) (ha : DA X (e :: es) n ws)
    (hdb : (x == ("__debug__" : Str)) = false := by decide) (he : starEach (e :: es) X.env = (false, eval e X.env) :: starEach es X.env := by rfl) (hpl : (backTo pos (starEach es X.env)).any (·.1) = false := by rfl) :
    DE X (.Call (.Name x p) (e :: es) [] pos) (wCall spc ws) := fun E => PE.imp (pe_call F hr hg hm hk hb .nil pass0 (ha E) hdb he hpl) fun σ H Q => by
  rintro ⟨S, F, R, hR, hw, k⟩
  refine ⟨S, F, _, hR, hw, fun ds S1 vs F1 H1 hw1 l1 r1 hR1 x1 => ?_⟩
  show spOf X.K n spc (vs ++ []) H1 Q E0
  rw [List.append_nil]
  exact ⟨F1, ds, S1.h, _, l1, hR1.g.ext, r1, hR1.g.obs, hw1, fun r h' v F' H' hr rv g => k r _ v F' H' hr rv (hR1.after g) (x1.trans g.gF)⟩
theorem de_call0 (F : FnOk X.prog X.w X.K X.mg X.base CX0 k f fd ps (spOf X.K 0 spc)) (hr : Room k X.A) (hg : Gl X x) (hm : X.mg x = some (.ref f)) (hk : PySem.W.keepIn X.K (.ref f) = true) (hb : Binds X.K fd ps [])
    (hdb : (x == ("__debug__" : Str)) = false := by decide) : DE X (.Call (.Name x p) [] [] pos) (wCall spc wNil) := fun E => PE.imp (pe_call0 F hr hg hm hk hb .nil pass0 hdb) fun σ H Q => by
  rintro ⟨S, F, R, hR, hw, k⟩
  exact ⟨F, [], S.h, _, rfl, hR.g.ext, .nil, hR.g.obs, hw, fun r h' v F' H' hr rv g => k r _ v F' H' hr rv (hR.after g) g.gF⟩
end
theorem start_get {N : List Str} {vs : List V} {i : Nat} {v : V} (h : vs[i]? = some v) : (L2.start N vs)[i]? = some (some v) := by
  unfold L2.start
  have hl : i < (vs.map some).length := by rw [List.length_map]; exact ix_lt h
  rw [List.getElem?_append_left hl, List.getElem?_map, h]
  rfl
/-- what is wanted behind a body -/
def Fi (R : D → Oh → Prop) : We := ⟨fun S => R .non S.h, fun d S => R d S.h, fun _ => False, fun _ => False⟩
/-- the body w keeps the promise sp: n arguments, u other names -/
def Pk (n u : Nat) (sp : Spc) (w : WS) : Prop := ∀ ds h R, ds.length = n → sp ds h R NX → w (Fi R) ⟨ds.map .f ++ List.replicate u .u, h⟩
/-- a def keeps a promise about data, by its body -/
theorem fn_ok {P : Program} {w : World} {K : PySem.W.Frag} {mg : Str → Option Value} {base : Heap} {x qual : Str} {st : Stmt} {f : Addr} {fd : FuncData} {N ps : List Str} {k n : Nat} {ws : WS} {spc : Spc} (F : Fun K x qual st f fd) (S : FnScope N ps (defScope st)) (hn : ps.length = n)
    (hb : ∀ (cdv : Value) (A : Around) (outer : List Env) (s : Shared) (H : Hp) (E : XK), Room k (A.deeper (PyProof.Rows.envOfC qual (defScope st) s.heap.objs.size f cdv)) → DSs (cxOf CX0 P w K mg base N qual (defScope st) f cdv A outer s H E).nox (defBody st) ws)
    (hw : Pk n (N.length - n) spc ws) : FnOk P w K mg base CX0 (k + 1) f fd ps (spOf K n spc) := by
  refine F.ok S (fun vs H Q E h => ?_) (fun cdv A outer s H vs Q E hr h => ?_)
  · obtain ⟨F, ds, h, R, h1, _, h2, _⟩ := h
    rw [h2.length, h1, hn]
  · obtain ⟨F, ds, h, R, h1, h2, h3, h4, h5, h6⟩ := h
    refine ⟨_, hb cdv A outer s H E hr ⟨F, H, h, fun _ => False⟩, _, F, _, ?_, hw ds h R h1 h5, fun S' σ' F' H' q r x => h6 _ _ _ F' H' q .non r.g, fun _ _ _ _ q => q.elim, fun _ _ _ _ q => q.elim, fun d S' v σ' F' H' q r' r x => h6 d _ v F' H' q r' r.g⟩
    have nof : ∀ (i : Nat) (d : D), (ds.map Sl.f ++ List.replicate (N.length - n) Sl.u)[i]? ≠ some (.o d) := fun i d e => by
      rcases Nat.lt_or_ge i (ds.map Sl.f).length with hl | hl
      · rw [List.getElem?_append_left hl, List.getElem?_map] at e
        cases q : ds[i]? with
        | none => rw [q] at e; cases e
        | some y => rw [q] at e; cases e
      · rw [List.getElem?_append_right hl] at e
        have := List.mem_of_getElem? e
        have := List.eq_of_mem_replicate this
        cases this
    refine ⟨⟨h2, .refl _, fun _ q _ _ => q, fun _ _ q _ _ => q, fun _ q => q, fun _ q => .inl q, h4⟩, ?_, fun i d e => ?_, fun i d e => absurd e (nof i d), fun i j d e p q => absurd q (nof i d)⟩
    · unfold L2.start
      rw [List.length_append, List.length_append, List.length_map, List.length_map, List.length_replicate, List.length_replicate, h3.length, h1]
    · rcases Nat.lt_or_ge i (ds.map Sl.f).length with hl | hl
      · rw [List.getElem?_append_left hl, List.getElem?_map] at e
        cases q : ds[i]? with
        | none => rw [q] at e; cases e
        | some y =>
          rw [q] at e
          cases e
          obtain ⟨v, q1, q2⟩ := h3.get q
          exact ⟨v, start_get q1, q2⟩
      · rw [List.getElem?_append_right hl] at e
        have := List.eq_of_mem_replicate (List.mem_of_getElem? e)
        cases this
end VL
namespace VL
open PySem PySem.Spec L2
/-- a def of the text as the top has left it -/
structure DefAt (K : PySem.W.Frag) (mg : Str → Option Value) (x : Str) (st : Stmt) (ps : List Str) (f : Addr) (fd : FuncData) : Prop where
  fn : Fun K x x st f fd
  bd : Binds K fd ps []
  gl : mg x = some (.ref f)
/-- a constant of the text -/
def Cst (K : PySem.W.Frag) (mg : Str → Option Value) (x : Str) (d : D) : Prop := ∃ v u, mg x = some u ∧ RelV v u ∧ ∀ F, Rep K F v d
theorem Cst.de {X : Cx} {x : Str} {d : D} {pos : Pos} (c : Cst X.K X.mg x d) (hg : Gl X x) (hd : (x == ("__debug__" : Str)) = false := by decide) : DE X (.Name x pos) (wC d) :=
  let ⟨_, _, h1, h2, h3⟩ := c
  de_glob hg h1 h2 h3 hd
theorem law_in {K : PySem.W.Frag} {H : Hp} {a : Addr} {ns : List Int} {sp : Spc} (hS : SqL K H a (ns.map V.int)) (h : sp [.scr ns] (fun _ => none) (fun d _ => d = .bl true) NX) : spOf K 1 sp [.ref a] H (fun v _ => v = .bl true) fun _ _ _ => False :=
  ⟨H, [.scr ns], fun _ => none, fun d _ => d = .bl true, rfl, .refl _, .cons (.scr hS) .nil, (fun _ _ q => nomatch q), h, fun r h' v F' H' hr rv _ => by
    subst hr
    cases rv
    rfl⟩
theorem rv_int {i : Int} {t : Tok} : RelV (.int i) (.int i t) := ⟨_, rfl⟩
theorem rv_str {i : Str} {t : Tok} : RelV (.str i) (.str i t) := ⟨_, rfl⟩
/-! ### fresh lists by operators -/
def opRep : O2
  | .lst xs, .int k, R => -(2 ^ 63) ≤ k ∧ k < 2 ^ 63 ∧ xs.length * k.toNat ≤ sizeLine ∧ R (.lst (List.replicate k.toNat xs).flatten)
  | _, _, _ => False
def opCat : O2
  | .lst xs, .lst ys, R => xs.length + ys.length ≤ sizeLine ∧ R (.lst (xs ++ ys))
  | _, _, _ => False
def rVN2 (K : PySem.W.Frag) (g : O2) : R2 := fun x y H Q => ∃ F d e R, Ext F H ∧ Rep K F x d ∧ Rep K F y e ∧ g d e R ∧ ∀ es vs p, R (.lst es) → Reps K F vs es → H p = none → Q (.ref p) (upd H p (.lst vs))
section
variable {X : Cx} {a b : Expr} {wa wb : WE} {pos : Pos}
theorem on_rep : OpR X (binaryOp .Mult) (rVN2 X.K opRep) := OpR.any fun x y H Q => by
  rintro ⟨F, d, e, R, hx, r1, r2, hg, k⟩
  cases r1 with
  | lst h1 s1 =>
    cases r2 with
    | int j =>
      have l1 := s1.length
      obtain ⟨q1, q2, q3, q4⟩ := hg
      rename_i a1 vs1 ds1
      exact ⟨_, op_rep, a1, j, vs1, rfl, rfl, hx _ _ h1, q1, q2, by rw [l1]; exact q3, fun p hp => k _ _ p q4 (s1.rep _) hp⟩
    | _ => exact hg.elim
  | _ => cases r2 <;> exact hg.elim
theorem on_cat : OpR X (binaryOp .Add) (rVN2 X.K opCat) := OpR.any fun x y H Q => by
  rintro ⟨F, d, e, R, hx, r1, r2, hg, k⟩
  cases r1 with
  | lst h1 s1 =>
    cases r2 with
    | lst h2 s2 =>
      have l1 := s1.length
      have l2 := s2.length
      have q1 := hg.1
      rename_i a1 vs1 ds1 a2 vs2 ds2
      exact ⟨_, op_cat, a1, a2, vs1, vs2, rfl, rfl, hx _ _ h1, hx _ _ h2, by omega, fun p hp => k _ _ p hg.2 (s1.append s2) hp⟩
    | _ => exact hg.elim
  | _ => cases r2 <;> exact hg.elim
theorem dn_op {op : Operator} {g : O2} (ho : OpR X (binaryOp op) (rVN2 X.K g)) (ha : DE X a wa) (hb : DE X b wb) : DN X (.BinOp a op b pos) (wOp g wa wb) := fun E => PE.imp (pe_op ho (ha E) (hb E)) fun σ H Q => by
  rintro ⟨S, F, R, hR, hw, k⟩
  refine ⟨S, F, _, hR, hw, fun x S1 v1 F1 H1 hw1 r1 hR1 x1 => ?_⟩
  refine ⟨S1, F1, _, hR1, hw1, fun y S2 v2 F2 H2 hw2 r2 hR2 x2 => ?_⟩
  refine ⟨F2, x, y, _, hR2.g.ext, r1.mono x2, r2, hw2, fun es vs p hz rz hp => ?_⟩
  obtain ⟨f, hR'⟩ := fresh_of hR2 hp rz
  exact k _ S2 p F2 _ hz f hR' (x1.trans x2)
end
end VL

set_option Elab.async false
set_option linter.all false
set_option maxRecDepth 100000
/-! VL7: x in data of any depth; zip of a tuple and a str. -/
namespace VL
open PySem PySem.Spec L2

theorem Room65 {k : Nat} {A : Around} (r : Room k A) : A.units + 65 < cLine := by have := r.un; omega

def rInDT (K : PySem.W.Frag) : R2 := fun x y H Q => ∃ d ds, Dp K H x d ∧ Dp K H y (.tuple ds) ∧ SeqAt.shaped d = true ∧ SeqAt.shaped (.tuple ds) = true ∧ Q (.bl (ds.any fun z => PyData.eqv z d)) H
def rNotInDT (K : PySem.W.Frag) : R2 := fun x y H Q => ∃ d ds, Dp K H x d ∧ Dp K H y (.tuple ds) ∧ SeqAt.shaped d = true ∧ SeqAt.shaped (.tuple ds) = true ∧ Q (.bl (!ds.any fun z => PyData.eqv z d)) H
section
variable {X : Cx}
theorem op_inDT (hu : X.A.units + 65 < cLine) : OpR X (compareOp .In) (rInDT X.K) := by
  intro pins s σ H x y v u Q I rx ry h
  obtain ⟨d, ds, hd, he, sd, se, q⟩ := h
  obtain ⟨as, r1⟩ := Dp.reads I d x v hd rx
  obtain ⟨bs, r2⟩ := Dp.reads I (.tuple ds) y u he ry
  exact SeqAt.in_tuple_reads r2 r1 (SeqAt.canLay_of_shaped se) (SeqAt.canLay_of_shaped sd) (PyProof.Rows.room_in_shaped sd hu) ⟨.bl _, H, I, rfl, q⟩
theorem op_notInDT (hu : X.A.units + 65 < cLine) : OpR X (compareOp .NotIn) (rNotInDT X.K) := by
  intro pins s σ H x y v u Q I rx ry h
  obtain ⟨d, ds, hd, he, sd, se, q⟩ := h
  obtain ⟨as, r1⟩ := Dp.reads I d x v hd rx
  obtain ⟨bs, r2⟩ := Dp.reads I (.tuple ds) y u he ry
  exact SeqAt.notIn_tuple_reads r2 r1 (SeqAt.canLay_of_shaped se) (SeqAt.canLay_of_shaped sd) (PyProof.Rows.room_in_shaped sd hu) ⟨.bl _, H, I, rfl, q⟩
end
def inOk (x : D) (ds : List D) : Bool := (flat x && ds.all flat) || (shD 7 x && ds.all (shD 7))
/-- x in a list or tuple, data of any depth -/
def opInD : O2
  | x, .tup ds, R => inOk x ds = true ∧ R (.bl (inD x ds))
  | x, .lst ds, R => inOk x ds = true ∧ R (.bl (inD x ds))
  | .str x, .str y, R => R (.bl (!(Builtin.Str.occurrences y x 0 y.length 1).isEmpty))
  | _, _, _ => False
def opNotInD : O2
  | x, .tup ds, R => inOk x ds = true ∧ R (.bl (!inD x ds))
  | x, .lst ds, R => inOk x ds = true ∧ R (.bl (!inD x ds))
  | .str x, .str y, R => R (.bl (!(!(Builtin.Str.occurrences y x 0 y.length 1).isEmpty)))
  | _, _, _ => False
theorem inD_pd {x : D} (h : shD 7 x = true) : ∀ {ds : List D}, ds.all (shD 7) = true → ((D.pds ds).any fun z => PyData.eqv z x.pd) = inD x ds
  | [], _ => rfl
  | d :: ds, h' => by
    rw [List.all_cons, Bool.and_eq_true] at h'
    show (PyData.eqv d.pd x.pd || (D.pds ds).any fun z => PyData.eqv z x.pd) = (eqD d x || inD x ds)
    rw [eqD_pd 7 d x h'.1 h, inD_pd h h'.2]
section
variable {X : Cx}
theorem ov_inD (hu : X.A.units + 65 < cLine) : OpV X (compareOp .In) opInD := OpR.any fun x y H Q => by
  rintro ⟨F, d, e, R, hx, r1, r2, hg, k⟩
  unfold opInD at hg
  split at hg
  · obtain ⟨f, q⟩ := hg
    rcases (Bool.or_eq_true _ _).mp f with f | f
    · rw [Bool.and_eq_true] at f
      exact ⟨_, ov_in, F, _, _, R, hx, r1, r2, ⟨f.1, f.2, q⟩, k⟩
    · rw [Bool.and_eq_true] at f
      refine ⟨_, op_inDT hu, _, _, r1.dp hx f.1, r2.dp (n := 8) hx f.2, shaped_sh f.1 (by decide), shaped_sh (n := 8) (d := .tup _) f.2 (by decide), ?_⟩
      rw [inD_pd f.1 f.2]
      exact k _ _ F H q (.bl _) (.refl hx)
  · obtain ⟨f, q⟩ := hg
    rcases (Bool.or_eq_true _ _).mp f with f | f
    · rw [Bool.and_eq_true] at f
      exact ⟨_, ov_in, F, _, _, R, hx, r1, r2, ⟨f.1, f.2, q⟩, k⟩
    · rw [Bool.and_eq_true] at f
      refine ⟨_, op_inD hu, _, _, r1.dp hx f.1, r2.dp (n := 8) hx f.2, shaped_sh f.1 (by decide), shaped_sh (n := 8) (d := .lst _) f.2 (by decide), ?_⟩
      rw [inD_pd f.1 f.2]
      exact k _ _ F H q (.bl _) (.refl hx)
  · exact ⟨_, ov_in, F, _, _, R, hx, r1, r2, hg, k⟩
  · exact hg.elim
theorem ov_notInD (hu : X.A.units + 65 < cLine) : OpV X (compareOp .NotIn) opNotInD := OpR.any fun x y H Q => by
  rintro ⟨F, d, e, R, hx, r1, r2, hg, k⟩
  unfold opNotInD at hg
  split at hg
  · obtain ⟨f, q⟩ := hg
    rcases (Bool.or_eq_true _ _).mp f with f | f
    · rw [Bool.and_eq_true] at f
      exact ⟨_, ov_notIn, F, _, _, R, hx, r1, r2, ⟨f.1, f.2, q⟩, k⟩
    · rw [Bool.and_eq_true] at f
      refine ⟨_, op_notInDT hu, _, _, r1.dp hx f.1, r2.dp (n := 8) hx f.2, shaped_sh f.1 (by decide), shaped_sh (n := 8) (d := .tup _) f.2 (by decide), ?_⟩
      rw [inD_pd f.1 f.2]
      exact k _ _ F H q (.bl _) (.refl hx)
  · obtain ⟨f, q⟩ := hg
    rcases (Bool.or_eq_true _ _).mp f with f | f
    · rw [Bool.and_eq_true] at f
      exact ⟨_, ov_notIn, F, _, _, R, hx, r1, r2, ⟨f.1, f.2, q⟩, k⟩
    · rw [Bool.and_eq_true] at f
      refine ⟨_, op_notInD hu, _, _, r1.dp hx f.1, r2.dp (n := 8) hx f.2, shaped_sh f.1 (by decide), shaped_sh (n := 8) (d := .lst _) f.2 (by decide), ?_⟩
      rw [inD_pd f.1 f.2]
      exact k _ _ F H q (.bl _) (.refl hx)
  · exact ⟨_, ov_notIn, F, _, _, R, hx, r1, r2, hg, k⟩
  · exact hg.elim
end

/-! ### zip of a tuple and a str -/
def ItZts (K : PySem.W.Frag) (a : Addr) (xs : List V) (x : Str) : It :=
  ⟨fun i H => SqT K H a xs ∧ i < xs.length ∧ i < x.cps.size,
    fun i H v H' => ∃ T y c, v = .ref T ∧ H T = none ∧ H' = upd H T (.tup [y, .str ⟨#[c]⟩]) ∧ xs[i]? = some y ∧ x.cps[i]? = some c,
    fun i H => SqT K H a xs ∧ (xs.length ≤ i ∨ x.cps.size ≤ i)⟩
theorem sep_zts {z TI TO i1 i2 a : Addr} (D : ZipApart z TI TO i1 i2 a a) : ZipSep2 z TI TO i1 i2 [i1, a] [i2] where
  TIz := D.TIz
  TOz := D.TOz
  TITO := D.TITO
  TIi1 := D.TIi1
  mem1 := by simp
  zf1 := by simpa using ⟨D.i1z.symm, D.l1z.symm⟩
  Tf1 := by simpa using ⟨D.TOi1, D.l1TO.symm⟩
  TIi2 := D.TIi2
  mem2 := by simp
  zf2 := by simpa using D.i2z.symm
  Tf2 := by simpa using D.TOi2
  sep1_2 := by simpa using D.i12
  sep2_1 := by simpa using ⟨D.i12.symm, D.l1i2.symm⟩
theorem turn_zts {P : Program} {w : World} {K : PySem.W.Frag} {elts : List Expr} {kk : Nat} {tpos : Pos} {a z TI TO i1 i2 : Addr} {xs : List V} {x : Str} {t : Tok} (D : ZipApart z TI TO i1 i2 a a) :
    Turn P w K (.Tuple elts kk tpos) (ItZts K a xs x) [z, TI, TO, i1, i2] z (fun i h => (i ≤ xs.length ∧ i ≤ x.cps.size) ∧ IsZip h z TI TO .none ∧ IsTupOf2 h TI (.ref i1) (.ref i2) ∧ (∃ x y, IsTupOf2 h TO x y) ∧ h.IsTupleIter i1 a i ∧ h.IsStrIter i2 (strIterType x) x t i) where
  mem := by simp
  obj := fun i h st c hc => by
    obtain ⟨_, hz, hTI, ⟨x, y, hTO⟩, ⟨o1, e1, _, d1⟩, ⟨o2, e2, _, d2⟩⟩ := st
    have e' : c = z ∨ c = TI ∨ c = TO ∨ c = i1 ∨ c = i2 := by simpa using hc
    rcases e' with q | q | q | q | q
    · rw [q]; exact ⟨_, hz, fun v q => nomatch q⟩
    · rw [q]; exact ⟨_, hTI, fun v q => nomatch q⟩
    · rw [q]; exact ⟨_, hTO, fun v q => nomatch q⟩
    · rw [q]; exact ⟨o1, e1, fun v q => by rw [d1] at q; cases q⟩
    · rw [q]; exact ⟨o2, e2, fun v q => by rw [d2] at q; cases q⟩
  keep := fun i h h' st k => by
    obtain ⟨hi, hz, hTI, ⟨x, y, hTO⟩, h1, h2⟩ := st
    exact ⟨hi, k z (by simp) _ hz, k TI (by simp) _ hTI, ⟨x, y, k TO (by simp) _ hTO⟩, h1.at fun o q => k i1 (by simp) o q, let ⟨o, ho, r⟩ := h2; ⟨o, k i2 (by simp) o ho, r⟩⟩
  item := by
    intro X hP hw hK hc i pins s σ H E I hf st hg
    subst hP hw hK
    obtain ⟨hi, hz, hTI, ⟨x0, y0, hTO⟩, h1, h2⟩ := st
    obtain ⟨hq, l1, l2⟩ := hg
    obtain ⟨its, rv, p, _⟩ := I.tuple hq
    have hzl : z < s.heap.objs.size := Heap.lt_size hz
    have ll : its.toArray.size = xs.length := by rw [List.size_toArray]; exact rv.length.symm
    refine wpAny_pyNext_zipD2_item (sep_zts D) (Draws.tuple (show X.A.in1.handled = none from I.ok.hd hc) i1 a D.l1i1 its.toArray) (Draws.text (show X.A.in1.handled = none from I.ok.hd hc) i2 x t) hz hTI hTO ⟨h1, p⟩ h2 (by omega) l2 fun x1 x2 h' tk y1 y2 z' TO' h1' h2' hT hsz hk => ?_
    obtain ⟨c, u, hcx, rfl⟩ := y2
    have hx : xs[i]? = some xs[i] := List.getElem?_eq_getElem l1
    obtain ⟨u1, hu1, ru1⟩ := rv.get hx
    have e1 : x1 = u1 := by
      have q : its.toArray[i]? = some x1 := y1
      rw [List.getElem?_toArray] at q
      exact Option.some.inj (q.symm.trans hu1)
    subst e1
    refine ⟨_, rfl, wpAny_letOwnedTupleGo_zip (s := { s with heap := h', toks := tk }) z' fun h'' z'' sb => ?_⟩
    have hT2 : h''.get? s.heap.objs.size = some { cls := .type "tuple", data := .seq #[x1, .str ⟨#[c]⟩ u] } := (sb.2 _ (Nat.ne_of_gt hzl)).trans hT
    have new : ObjOk X.prog X.w (upd H s.heap.objs.size (.tup [xs[i], .str ⟨#[c]⟩])) h'' s.heap.objs.size (.tup [xs[i], .str ⟨#[c]⟩]) :=
      ⟨by show 2 ≤ sizeLine; decide, [x1, .str ⟨#[c]⟩ u], .cons ru1 (.cons ⟨u, rfl⟩ .nil), ⟨_, hT2, rfl, _, rfl⟩⟩
    have I1 : Inv X pins σ (upd H s.heap.objs.size (.tup [xs[i], .str ⟨#[c]⟩])) { s with heap := h'', toks := tk } :=
      I.turnedNew (t' := tk) (ch := [z, TI, TO, i1, i2]) (fun c o hb q => (sb.2 c (fun q' => hb (by simp [q']))).trans (hk c o (fun q' => hb (by simp [q'])) (fun q' => hb (by simp [q'])) (fun q' => hb (by simp [q'])) (fun q' => hb (by simp [q'])) q)) hf (Nat.le_refl _) new
    refine ⟨.ref s.heap.objs.size, _, I1, rfl, ⟨_, xs[i], c, rfl, I.hok.fresh (Nat.le_refl _), rfl, hx, hcx⟩, ⟨⟨l1, l2⟩, z'', ?_, ⟨x1, .str ⟨#[c]⟩ u, ?_⟩, ?_, ?_⟩, fun b hcm => ?_⟩
    · exact (sb.2 _ D.TIz).trans (hk _ _ D.TIz D.TITO D.TIi1 D.TIi2 hTI)
    · exact (sb.2 _ D.TOz).trans TO'
    · exact h1'.1.at fun o q => (sb.2 _ D.i1z).trans q
    · exact let ⟨o, ho, r⟩ := h2'; ⟨o, (sb.2 _ D.i2z).trans ho, r⟩
    · have hlt : b < s.heap.objs.size := by
        have e' : b = z ∨ b = TI ∨ b = TO ∨ b = i1 ∨ b = i2 := by simpa using hcm
        rcases e' with q | q | q | q | q
        · rw [q]; exact hzl
        · rw [q]; exact Heap.lt_size hTI
        · rw [q]; exact Heap.lt_size hTO
        · rw [q]; obtain ⟨_, e1, _⟩ := h1; exact Heap.lt_size e1
        · rw [q]; obtain ⟨_, e2, _⟩ := h2; exact Heap.lt_size e2
      rw [upd_ne (Nat.ne_of_lt hlt)]
      exact (hf b hcm).1
  done := by
    intro X hP hw hK hc i pins s σ H E I hf st hg
    subst hP hw hK
    obtain ⟨hi, hz, hTI, ⟨x0, y0, hTO⟩, h1, h2⟩ := st
    obtain ⟨hq, hend⟩ := hg
    obtain ⟨its, rv, p, _⟩ := I.tuple hq
    have ll : its.toArray.size = xs.length := by rw [List.size_toArray]; exact rv.length.symm
    exact wpAny_pyNext_zipD2_end (sep_zts D) (Draws.tuple (show X.A.in1.handled = none from I.ok.hd hc) i1 a D.l1i1 its.toArray) (Draws.text (show X.A.in1.handled = none from I.ok.hd hc) i2 x t) hz hTI hTO ⟨h1, p⟩ h2 (by omega) hi.2 (by omega) fun h' tk hk => ⟨rfl, I.turnedL (t' := tk) (ch := [z, TI, TO, i1, i2]) (fun c o hb q =>
      hk c o (fun q' => hb (by simp [q'])) (fun q' => hb (by simp [q'])) (fun q' => hb (by simp [q'])) (fun q' => hb (by simp [q'])) q) hf⟩
  self := fun A i s Q E st h => wpAny_pyIter_zip st.2.1 h
def iZts (K : PySem.W.Frag) (ta : TA) : TI := fun σ H R => ta σ H fun vs H1 => ∃ a xs x, vs = [.ref a, .str x] ∧ SqT K H1 a xs ∧ R (ItZts K a xs x) H1
theorem pi_zts {X : Cx} {e e2 : Expr} {ta : TA} {p pos tpos : Pos} {elts : List Expr} {kk : Nat} (hg : Gl X "zip") (hm : X.mg "zip" = none) (ha : PA X [e, e2] ta)
    (hs : starEach [e, e2] X.env = (false, eval e X.env) :: starEach [e2] X.env := by rfl) (hpl : (backTo pos (starEach [e2] X.env)).any (·.1) = false := by rfl) :
    PI X (.Tuple elts kk tpos) (.Call (.Name "zip" p) [e, e2] [] pos) (iZts X.K ta) := by
  refine ⟨fun pins s σ H R I h => ?_⟩
  refine PyProof.Rows.Call_ (ld_blt I hg hm PyProof.Rows.boot_zip (PyProof.Rows.callWith_type1 (thn (ha.run pos pins s σ H _ I h) fun us s1 ⟨vs, H1, I1, r1, q1⟩ => ?_) hs hpl))
  obtain ⟨a, xs, x, ex, hq, q⟩ := q1
  subst ex
  cases r1 with
  | cons r rr =>
    cases rr with
    | cons r' rr =>
      cases rr
      cases r
      obtain ⟨t, rfl⟩ := r'
      have fresh5 : ∀ c, c ∈ [s1.heap.objs.size + 4, s1.heap.objs.size + 2, s1.heap.objs.size + 3, s1.heap.objs.size, s1.heap.objs.size + 1] → FpOk X pins H1 c := fun c hcm => by
        have e' : c = s1.heap.objs.size + 4 ∨ c = s1.heap.objs.size + 2 ∨ c = s1.heap.objs.size + 3 ∨ c = s1.heap.objs.size ∨ c = s1.heap.objs.size + 1 := by simpa using hcm
        have hle : s1.heap.objs.size ≤ c := by
          rcases e' with z | z | z | z | z
          · rw [z]; exact Nat.le_add_right _ _
          · rw [z]; exact Nat.le_add_right _ _
          · rw [z]; exact Nat.le_add_right _ _
          · rw [z]; exact Nat.le_refl _
          · rw [z]; exact Nat.le_add_right _ _
        exact I1.fpOk hle (I1.hok.fresh hle)
      obtain ⟨its, rv, p1, _⟩ := I1.tuple hq
      obtain ⟨o1, ho1, _⟩ := id p1
      refine zip_begins2 (begins_tuple a its.toArray) (begins_text x t) p1 trivial fun h' hz hTI hTO h1 h2 hsz hk => wpAny_pyIter_zip hz ?_
      have I2 : Inv X pins σ H1 { s1 with heap := h' } := I1.kept (t' := s1.toks) hk
      exact ⟨s1.heap.objs.size + 4, [s1.heap.objs.size + 4, s1.heap.objs.size + 2, s1.heap.objs.size + 3, s1.heap.objs.size, s1.heap.objs.size + 1], _, _, H1, rfl, I2, turn_zts (t := t) (PySem.W.ktu_apart s1.heap.objs.size a a (Heap.lt_size ho1) (Heap.lt_size ho1)), ⟨⟨Nat.zero_le _, Nat.zero_le _⟩, hz, hTI, ⟨_, _, hTO⟩, ⟨_, h1, rfl, rfl⟩, ⟨_, h2, rfl, rfl⟩⟩, fresh5, q⟩
/-- a tuple beside a text -/
def wZts (w : WA) : WA := fun S R => w S fun ds S1 => match ds with
  | [.tup xs, .str x] => R (List.zipWith (fun x y => .tup [x, y]) xs (chars x)) S1
  | _ => False
section
variable {X : Cx} {a b e tg : Expr} {es : List Expr} {w : WE} {ws : WA} {n : Nat} {pos p : Pos} {K : PySem.W.Frag} {F H : Hp}
theorem feeds_zts {a : Addr} {vs : List V} {ds : List D} {x : Str} (h : SqT K F a vs) (s : Reps K F vs ds) : Feeds K (ItZts K a vs x) F (List.zipWith (fun x y => .tup [x, y]) ds (chars x)) := fun F' H' x1 x2 => by
  have hq : SqT K H' a vs := x2.sqT (x1.sqT h)
  have lc : (chars x).length = x.cps.size := by simp [chars]
  refine ⟨fun i d hd => ?_, fun i hi => ?_⟩
  · rw [List.getElem?_zipWith] at hd
    cases e1 : ds[i]? with
    | none => rw [e1] at hd; cases hd
    | some y =>
      cases e2 : (chars x)[i]? with
      | none => rw [e1, e2] at hd; cases hd
      | some z =>
        rw [e1, e2] at hd
        cases hd
        obtain ⟨v, h1, h2⟩ := s.get e1
        obtain ⟨k1, _⟩ := List.getElem?_eq_some_iff.mp h1
        obtain ⟨k2, _⟩ := List.getElem?_eq_some_iff.mp e2
        refine ⟨⟨hq, k1, by omega⟩, fun u H3 hy => ?_⟩
        obtain ⟨T, q, c, rfl, hT, rfl, f1, f2⟩ := hy
        have e3 : q = v := Option.some.inj (f1.symm.trans h1)
        subst e3
        have e4 : z = .str ⟨#[c]⟩ := by
          have e5 : x.cps.toList[i]? = some c := by rw [Array.getElem?_toList]; exact f2
          have e6 : (chars x)[i]? = some (.str ⟨#[c]⟩) := by unfold chars; rw [List.getElem?_map, e5]; rfl
          exact Option.some.inj (e2.symm.trans e6)
        subst e4
        have al := Al.one (o := .tup [q, .str ⟨#[c]⟩]) x2 hT
        exact ⟨_, al, .tup (.of upd_same) (((Reps.cons h2 (.one (.str _))).mono x1).mono al.xF)⟩
  · rw [List.length_zipWith] at hi
    refine ⟨hq, ?_⟩
    rw [s.length]
    omega
theorem di_zts {tpos : Pos} {elts : List Expr} {kk : Nat} (hg : Gl X "zip") (hm : X.mg "zip" = none) (ha : DA X [a, b] n ws) (hp : ∀ t, PA X [a, b] t → PI X (.Tuple elts kk tpos) (.Call (.Name "zip" p) [a, b] [] pos) (iZts X.K t)) : DI X (.Tuple elts kk tpos) (.Call (.Name "zip" p) [a, b] [] pos) (wZts ws) := fun E => PI.imp (hp _ (ha E)) fun σ H Q => by
  rintro ⟨S, F, R, hR, hw, k⟩
  refine ⟨S, F, _, hR, hw, fun ds S1 vs F1 H1 hw1 l1 r1 hR1 x1 => ?_⟩
  split at hw1
  · obtain ⟨v, u, rfl, q, q2⟩ := r1.two_of
    cases q with
    | tup h s =>
      cases q2 with
      | str => exact ⟨_, _, _, rfl, hR1.g.ext.sqT h, k _ S1 _ F1 H1 hw1 (feeds_zts h s) hR1 x1⟩
  · exact hw1.elim
end
end VL

set_option Elab.async false
set_option linter.all false
set_option maxRecDepth 100000
set_option maxHeartbeats 4000000
/-! VT: the tape, and what all laws share -/
namespace VL
open PySem PySem.Spec L2
/-- a tape: the script's numbers, the next place, what is left of a great number, the state of the drawing -/
def Tp (h : Oh) (a : Addr) : Prop := ∃ (ns : List Int) (i r s : Int), h a = some (.ml [.lst (ns.map .int), .int i, .int r, .int s]) ∧ ns.length ≤ 63 ∧ 0 ≤ i ∧ 0 ≤ r ∧ 0 ≤ s ∧ s < 2147483647
/-- nothing but the tape has changed -/
def But (a : Addr) (h h' : Oh) : Prop := ∀ b, b ≠ a → h' b = h b
theorem But.refl (a : Addr) (h : Oh) : But a h h := fun _ _ => rfl
theorem But.trans {a : Addr} {h h1 h2 : Oh} (x : But a h h1) (y : But a h1 h2) : But a h h2 := fun b n => (y b n).trans (x b n)
theorem But.put (a : Addr) (h : Oh) (o : Ob) : But a h (h.put a o) := fun b n => Oh.put_ne n
@[irreducible] def sp_next : Spc := fun ds h R _ => ∃ a m, ds = [.obj a, .int m] ∧ Tp h a ∧ 0 < m ∧ m < 2 ^ 60 ∧ ∀ v h', 0 ≤ v → v < m → Tp h' a → But a h h' → R (.int v) h'
theorem sp_next_out {ds : List D} {h : Oh} {R : D → Oh → Prop} {E : XC} (q : sp_next ds h R E) : ∃ a m, ds = [.obj a, .int m] ∧ Tp h a ∧ 0 < m ∧ m < 2 ^ 60 ∧ ∀ v h', 0 ≤ v → v < m → Tp h' a → But a h h' → R (.int v) h' := by
  unfold sp_next at q
  exact q
theorem draw {h : Oh} {a : Addr} {m : Int} {R : D → Oh → Prop} {E : XC} (hT : Tp h a) (h1 : 0 < m) (h2 : m < 2 ^ 60) (k : ∀ v h', 0 ≤ v → v < m → Tp h' a → But a h h' → R (.int v) h') : sp_next [.obj a, .int m] h R E := by
  unfold sp_next
  exact ⟨a, m, rfl, hT, h1, h2, k⟩
/-- law: the script goes in, True comes out -/
def sp_true : Spc := fun ds h R _ => ∃ ns : List Int, ds = [.scr ns] ∧ ns.length ≤ 63 ∧ ∀ h', R (.bl true) h'
theorem atI_map {α β : Type} {f : α → β} {xs : List α} {i : Int} (h0 : 0 ≤ i) (h : i < xs.length) : ∃ x, xs[i.toNat]? = some x ∧ atI (xs.map f) i = some (f x) := by
  have hi : i.toNat < xs.length := by omega
  refine ⟨xs[i.toNat], List.getElem?_eq_getElem hi, ?_⟩
  unfold atI ixN
  rw [if_pos h0, if_pos (by rw [List.length_map]; exact h)]
  show (xs.map f)[i.toNat]? = _
  rw [List.getElem?_map, List.getElem?_eq_getElem hi]
  rfl
theorem cdiv {i j : Int} (h : 0 < j) (h2 : j < 2 ^ 60) : CDivW i j := wide_div h (b := 60) (by omega) (by decide) (by decide)
theorem cdiv2 {i : Int} : CDivW i 2 := cdiv (by decide) (by decide)
theorem cmul {i j : Int} (a b : Nat) (ha : i.natAbs < 2 ^ a) (hb : j.natAbs < 2 ^ b) (h : a + b ≤ 134217728) : CMulX i j := mulx_ok ha hb h
theorem forc {g : WG} {tb : WS} {T : We} {x : D} {xs : List D} {S : Sg} (h : g x S fun S1 => tb { T with nx := wForL g tb T xs, ct := wForL g tb T xs, bk := T.nx } S1) : wForL g tb T (x :: xs) S := h
theorem forv {i : Nat} {tb : WS} {T : We} {x : D} {xs : List D} {S : Sg} (h : tb { T with nx := wForL (gVar i) tb T xs, ct := wForL (gVar i) tb T xs, bk := T.nx } (S.st i (.f x))) : wForL (gVar i) tb T (x :: xs) S := h
open PyProof.Rows
def w_next_6 : WS :=
  (wRet (wOp opMod (wCB bInt (wCons (wOp opDiv (wOp opMod (wOp opMul (wIx (wVar 0) (wC (.int 3))) (wC (.int 16807))) (wC (.int 2147483647))) (wC (.int 7))) wNil)) (wVar 1)))
def w_next_5 : WS :=
  (wSeq (wAsg (wOp opMod (wCB bInt (wCons (wOp opAdd (wOp opAdd (wOp opMul (wIx (wVar 0) (wC (.int 3))) (wC (.int 48271))) (wOp opMul (wVar 3) (wC (.int 69621)))) (wC (.int 11))) wNil)) (wC (.int 2147483647))) (gIxM (wVar 0) (wC (.int 3))))
  w_next_6)
def w_next_4 : WS :=
  (wSeq (wIfS (wBb (wOp opGe (wVar 3) (wOp opPow (wC (.int 10)) (wC (.int 18))))) (wSeq (wAsg (wOp opDiv (wVar 3) (wVar 1)) (gIxM (wVar 0) (wC (.int 2))))
  (wRet (wOp opMod (wCB bInt (wCons (wVar 3) wNil)) (wVar 1)))) wNext)
  w_next_5)
def w_next_3 : WS :=
  (wSeq (wIfS (wBb (wOp opLt (wIx (wVar 0) (wC (.int 1))) (wCB bLen (wCons (wIx (wVar 0) (wC (.int 0))) wNil)))) (wSeq (wAsg (wCB bAbs (wCons (wIx (wIx (wVar 0) (wC (.int 0))) (wIx (wVar 0) (wC (.int 1)))) wNil)) (gVar 3))
  (wAugM (wVar 0) (wC (.int 1)) opAddI (wC (.int 1)))) wNext)
  w_next_4)
def w_next_2 : WS :=
  (wSeq (wAsg (wC (.int 0)) (gVar 3))
  w_next_3)
def w_next_1 : WS :=
  (wSeq (wIfS (wBb (wOp opGt (wVar 2) (wC (.int 0)))) (wSeq (wAsg (wOp opDiv (wVar 2) (wVar 1)) (gIxM (wVar 0) (wC (.int 2))))
  (wRet (wOp opMod (wCB bInt (wCons (wVar 2) wNil)) (wVar 1)))) wNext)
  w_next_2)
def w_next : WS :=
  (wSeq (wAsg (wIx (wVar 0) (wC (.int 2))) (gVar 2))
  w_next_1)
theorem pk_next : Pk 2 2 sp_next w_next := by
  intro ds h R _ q
  obtain ⟨a, m, rfl, ⟨ns, i, r, s, hT, hn, hi, hr, hs, hs2⟩, hm, hm2, hR⟩ := sp_next_out q
  refine ⟨_, _, hT, rfl, ?_⟩
  refine br (fun e => ?_) (fun e => ?_)
  · refine ⟨cdiv hm hm2, a, _, 2, 2, rfl, rfl, hT, rfl, hm, ?_⟩
    refine hR _ _ (Int.emod_nonneg _ (by omega)) (Int.emod_lt_of_pos _ hm) ⟨ns, i, r / m, s, Oh.put_same, hn, hi, Int.ediv_nonneg hr (by omega), hs, hs2⟩ (But.put _ _ _)
  -- the rest, from any cell
  have rest : ∀ (h1 : Oh) (i1 c : Int), 0 ≤ c → h1 a = some (.ml [.lst (ns.map .int), .int i1, .int r, .int s]) → 0 ≤ i1 → But a h h1 →
      w_next_4 (Fi R) ⟨[.f (.obj a), .f (.int m), .f (.int r), .f (.int c)], h1⟩ := fun h1 i1 c hc hT1 hi1 hb => by
    refine ⟨⟨by decide, by decide, by decide⟩, ?_⟩
    refine br (fun e2 => ?_) (fun e2 => ?_)
    · refine ⟨cdiv hm hm2, a, _, 2, 2, rfl, rfl, hT1, rfl, hm, ?_⟩
      refine hR _ _ (Int.emod_nonneg _ (by omega)) (Int.emod_lt_of_pos _ hm) ⟨ns, i1, c / m, s, Oh.put_same, hn, hi1, Int.ediv_nonneg hc (by omega), hs, hs2⟩ (hb.trans (But.put _ _ _))
    · have hc2 : c < 10 ^ 18 := by
        have := of_decide_eq_false e2
        have e3 : ((10 : Int) ^ (18 : Int).toNat) = 10 ^ 18 := rfl
        rw [e3] at this
        omega
      refine ⟨_, _, hT1, rfl, cmul 32 17 (by omega) (by decide) (by decide), cmul 60 18 (by omega) (by decide) (by decide), ?_⟩
      refine ⟨(by decide : (0 : Int) < 2147483647), a, _, 3, 3, rfl, rfl, hT1, rfl, ?_⟩
      have b1 : 0 ≤ (s * 48271 + c * 69621 + 11) % 2147483647 := Int.emod_nonneg _ (by decide)
      have b2 : (s * 48271 + c * 69621 + 11) % 2147483647 < 2147483647 := Int.emod_lt_of_pos _ (by decide)
      refine ⟨_, _, Oh.put_same, rfl, cmul 32 17 (by omega) (by decide) (by decide), (by decide : (0 : Int) < 2147483647), wide_div (b := 4) (by decide) (by decide) (by decide) (by decide), hm, ?_⟩
      exact hR _ _ (Int.emod_nonneg _ (by omega)) (Int.emod_lt_of_pos _ hm) ⟨ns, i1, r, _, Oh.put_same, hn, hi1, hr, b1, b2⟩ (hb.trans (But.put _ _ _))
  refine ⟨_, _, hT, rfl, _, _, hT, rfl, ?_⟩
  refine br (fun e2 => ?_) (fun e2 => ?_)
  · have e3 : i < ns.length := by
      have := of_decide_eq_true e2
      rw [List.length_map] at this
      exact this
    obtain ⟨x, hx, ha⟩ := atI_map (f := D.int) hi e3
    refine ⟨_, _, hT, rfl, _, _, hT, rfl, _, ha, ?_⟩
    refine ⟨a, _, 1, _, rfl, rfl, hT, rfl, _, 1, hT, rfl, ?_⟩
    exact rest _ (i + 1) _ (by split <;> omega) Oh.put_same (by omega) (But.put _ _ _)
  · exact rest h i 0 (by decide) hT hi (But.refl _ _)
end VL

set_option Elab.async false
set_option linter.all false
set_option maxRecDepth 100000
set_option maxHeartbeats 4000000
/-! VL8: sorted(xs, key=f), f a def of the text. -/
namespace VL
open PySem PySem.Spec PyProof.Rows L2
open PySem.Calls
open PySem.W (keyH_end KeepsBut EachIs AllAlike Sortable SortsAt KeyedOut keyedOut_each each_snoc dataLe dataKind sorted_of_sort copyHeap copyHeap_at copyHeap_old sortingHeap_old sortingHeap sortVals)

theorem in2 {k : Nat} {A : Around} (r : Room (k + 1) A) : Room k A.in1.in1 :=
  ⟨r.hd, by have := r.dp; show A.depth + 3 * k + 5 < _; omega, by have := r.un; show A.units + 1 + 1 + 16 * k + 200 < _; omega⟩

section
variable {X : Cx} {pins : List (Addr × Obj)} {σ : L2.St} {H : Hp} {s : Shared} {h' : Heap}
/-- records of ours have turned, one of them is tracked from now on -/
theorem turnedAt {t' : Nat} {ch : List Addr} {T : Addr} {ob : HO} (I : Inv X pins σ H s) (k : ∀ b o, b ∉ ch → s.heap.get? b = some o → h'.get? b = some o) (hf : ∀ b ∈ ch, FpOk X pins H b) (hT : T ∈ ch)
    (new : ObjOk X.prog X.w (upd H T ob) h' T ob) : Inv X pins σ (upd H T ob) { s with heap := h', toks := t' } := by
  have hn : H T = none := (hf T hT).1
  have out : ∀ c v, H c = some v → c ∉ ch := fun c v e z => by rw [(hf c z).1] at e; cases e
  refine I.step (g' := s.gens) (d' := s.drawn) (ch := ch) (fun b hb => let ⟨_, a2, _, a4, a5, a6⟩ := hf b hb; ⟨a4, a2, a5, a6⟩) (fun b o _ _ hc e _ => k b o hc e) (fun b o _ _ hc e _ => ⟨o.slots, k b o hc e⟩)
    (fun b o hc _ n => ?f) (fun b o hc e => ⟨o, k b o hc e⟩) (fun b xs e => ?t) (fun b o u e => ?z) (fun b ps e => ⟨#[], ?l⟩) (fun m hm => ?n) (fun b u e => ?h) I.bare
  case f => rw [upd_ne (fun z => hc (by rw [z]; exact hT))]; exact n
  case t => rw [upd_ne (ne_of_none e hn)]; exact e
  case z => rw [upd_ne (ne_of_none e hn)]; exact e
  case l => rw [upd_ne (ne_of_none e hn), e]; simp
  case n =>
    obtain ⟨o, es, ep, ho, r⟩ := hm
    exact ⟨o, es, ep, k _ o (fun z => (hf _ z).2.1 rfl) ho, r⟩
  case h =>
    by_cases hb : b = T
    · subst hb
      rw [upd_same] at e
      cases e
      exact new
    · rw [upd_ne hb] at e
      refine (I.hok b u e).stay (fun c v hc q => k c v ?_ q) (fun c q => by rw [upd_ne (ne_of_none q hn)]; exact q) fun c xs q => by rw [upd_ne (ne_of_none q hn)]; exact q
      rcases hc with z | z
      · rw [z]; exact out b u e
      · exact out c _ z
end

/-- f's key of x is k, and nothing else happens -/
def KeyOf (spc : Spc) (h : Oh) (x k : D) : Prop := spc [x] h (fun r h' => r = k ∧ h' = h) NX
section
variable {X : Cx} {pins : List (Addr × Obj)} {σ : L2.St} {H : Hp} {s : Shared} {n : Nat} {f : Addr} {fd : FuncData} {ps : List Str} {spc : Spc}
/-- a key is asked for, inside a sort -/
theorem key_call {A : Around} (G : FnOk X.prog X.w X.K X.mg X.base CX0 n f fd ps (spOf X.K 1 spc)) (hb : Binds X.K fd ps []) (hr : Room n A) (hA : A.frames = X.A.frames) {F : Hp} {h : Oh} {v : V} {u : Value} {x k : D} (I : Inv X pins σ H s) (g : Ext F H)
    (ob : ∀ a o, h a = some o → ObAt X.K F H a o ∧ F a = none) (rv : RelV v u) (r : Rep X.K F v x) (hk : KeyOf spc h x k) {E : Value → Shared → Prop} :
    wpAny (model X.prog X.w) A (call (.ref f) [u]) (fun v' s' => ∃ (kv : V) (F' H' : Hp), Inv X pins σ H' s' ∧ Un (frs X.stack) [] H H' s.heap s'.heap ∧ RelV kv v' ∧ Rep X.K F' kv k ∧ Gr X.K ⟨F, H, h, fun _ => False⟩ F' H' h) E s := by
  have q : spOf X.K 1 spc [v] H (fun kv H' => ∃ F', Rep X.K F' kv k ∧ Gr X.K ⟨F, H, h, fun _ => False⟩ F' H' h) E0 :=
    ⟨F, [x], h, _, rfl, g, .cons r .nil, ob, hk, fun r h' v' F' H' hr rv gr => by
      obtain ⟨rfl, rfl⟩ := hr
      exact ⟨F', rv, gr⟩⟩
  have hl : [u].length = ps.length := by rw [show [u].length = [v].length from rfl]; exact G.len _ _ _ _ q
  have e0 := I.env0
  refine wpAny_call (codeAny_mono (G.run A X.stack s H ⟨[u], []⟩ [u] [v] _ E0 hr ⟨hA.trans e0.frames, e0.mod, e0.bs, e0.bsz, e0.funs, e0.frf, e0.hok, e0.bare⟩ (by have := hb s [u] I.kIn (by simpa using hl); simpa using this) (.cons rv .nil) q) fun r s' hq => ?_)
  cases r with
  | error e => exact (show False from hq).elim
  | ok fl =>
    cases fl with
    | ret u' =>
      obtain ⟨kv, H', h1, h2, un, h4, h5, F', h6, h7⟩ := hq
      exact ⟨kv, F', H', I.call' (ch := []) h1 un h4 h2 (fun b z => absurd z (by simp)), un, h5, h6, h7⟩
    | next => exact False.elim hq
    | brk => exact False.elim hq
    | cont => exact False.elim hq
end
theorem FpOk.to {X : Cx} {pins : List (Addr × Obj)} {H H' : Hp} {b : Addr} (f : FpOk X pins H b) (h : H' b = none) : FpOk X pins H' b := ⟨h, f.2⟩
theorem FpOk.nostk {X : Cx} {pins : List (Addr × Obj)} {σ : L2.St} {H H1 : Hp} {s : Shared} {b : Addr} (f : FpOk X pins H b) (I : Inv X pins σ H1 s) : b ∉ frs X.stack := fun z => by
  rcases List.mem_cons.mp (I.stkSub b z) with e | e
  · exact f.2.1 e
  · exact f.2.2.1 e
theorem each_reads {X : Cx} {pins : List (Addr × Obj)} {σ : L2.St} {F H : Hp} {s : Shared} (I : Inv X pins σ H s) (e : Ext F H) : ∀ {kvs : List V} {us : List Value} {ks : List D}, Vals kvs us → Reps X.K F kvs ks → ks.all (shD 8) = true →
    EachIs (fun v k => ∃ as, Reads s.heap v k as) us (ks.map D.pd)
  | _, _, _, .nil, .nil, _ => .nil
  | _, _, _, .cons r t, .cons q q', h => by
    rw [List.all_cons, Bool.and_eq_true] at h
    exact .cons (Dp.reads I _ _ _ (q.dp e h.1) r) (each_reads I e t q' h.2)
theorem each_rel {K : PySem.W.Frag} {F : Hp} : ∀ {xs : List V} {us : List Value} {ds : List D}, Vals xs us → Reps K F xs ds → EachIs (fun v d => ∃ x, RelV x v ∧ Rep K F x d) us ds
  | _, _, _, .nil, .nil => .nil
  | _, _, _, .cons r t, .cons q q' => .cons ⟨_, r, q⟩ (each_rel t q')
theorem rel_each {K : PySem.W.Frag} {F : Hp} : ∀ {us : List Value} {ds : List D}, EachIs (fun v d => ∃ x, RelV x v ∧ Rep K F x d) us ds → ∃ xs, Vals xs us ∧ Reps K F xs ds
  | _, _, .nil => ⟨[], .nil, .nil⟩
  | _, _, .cons ⟨x, h1, h2⟩ t => let ⟨xs, h3, h4⟩ := rel_each t; ⟨x :: xs, .cons h1 h3, .cons h2 h4⟩
theorem vals_snoc {xs : List V} {us : List Value} {x : V} {u : Value} (h : Vals xs us) (r : RelV x u) : Vals (xs ++ [x]) (us ++ [u]) := h.append (.cons r .nil)
section
variable {X : Cx} {pins : List (Addr × Obj)} {σ : L2.St} {H : Hp} {s : Shared} {n : Nat} {f : Addr} {fd : FuncData} {ps : List Str} {spc : Spc}
/-- what is known ahead of a sort by keys -/
structure KeyB (X : Cx) (n : Nat) (f : Addr) (fd : FuncData) (ps : List Str) (spc : Spc) (A : Around) (F H : Hp) (h : Oh) (xs : List V) (ds : List D) (kf : D → D) : Prop where
  G : FnOk X.prog X.w X.K X.mg X.base CX0 n f fd ps (spOf X.K 1 spc)
  hb : Binds X.K fd ps []
  hr : Room n A
  hA : A.frames = X.A.frames
  hx : Ext F H
  ob : ∀ a o, h a = some o → ObAt X.K F H a o ∧ F a = none
  it : Reps X.K F xs ds
  key : ∀ x ∈ ds, KeyOf spc h x (kf x)
  sh : ∀ x ∈ ds, shD 8 (kf x) = true
  al : AllAlike (ds.map fun x => (kf x).pd)
  so : Sortable (ds.map fun x => (kf x).pd)
  ln : ds.length ≤ sizeLine
theorem sort_rest {A : Around} {F : Hp} {h : Oh} {xs : List V} {ds : List D} {kf : D → D} {vs : List Value} {b : Bool} {a kS : Addr} {e1 : Nat} {P : PySem.Fin → Shared → Prop} {E : Value → Shared → Prop} (B : KeyB X n f fd ps spc A F H h xs ds kf) (I : Inv X pins σ H s) (rv : Vals xs vs)
    (fk : FpOk X pins H kS) (fa : FpOk X pins H a) (hka : kS ≠ a) (nk : s.heap.get? kS = some (seqObj "list" #[] 0)) (na : s.heap.get? a = some (seqObj "list" #[] e1))
    (k : ∀ s' ys F' H', Inv X pins σ (upd H' a (.lst ys)) s' → Reps X.K F' ys (ds.mergeSort (dataLe b fun x => (kf x).pd)) → Gr X.K ⟨F, H, h, fun _ => False⟩ F' H' h → H' a = none → P (.done (.ret .none)) s') :
    wpAny (model X.prog X.w) A (ksk_rest a (.ref f) b vs.toArray e1 (.ref kS)) P E s := by
  have l1 := rv.length
  have l2 := B.it.length
  have l3 := B.ln
  unfold ksk_rest
  refine wpAny_bind (wpAny_rule ?_)
  first
    | rw [List.forIn_toArray]
    | (rw [← Array.forIn_toList]; simp only [List.toList_toArray])
    | rw [← Array.forIn_toList]
  refine wpAny_bind (ksk_fold (fun i s' => ∃ (Fj Hj : Hp) (kA : Array Value) (e : Nat) (kvs : List V), s'.heap.get? kS = some (seqObj "list" kA e) ∧ s'.heap.get? a = some (seqObj "list" #[] e1) ∧ Inv X pins σ Hj s' ∧ Hj kS = none ∧ Hj a = none ∧
    Gr X.K ⟨F, H, h, fun _ => False⟩ Fj Hj h ∧ Vals kvs kA.toList ∧ Reps X.K Fj kvs ((ds.map kf).take i)) vs 0 s
    ⟨F, H, #[], 0, [], nk, na, I, fk.1, fa.1, ⟨B.hx, .refl _, fun _ q _ _ => q, fun _ _ q _ _ => q, fun _ q => q, fun _ q => .inl q, B.ob⟩, .nil, by rw [List.take_zero]; exact .nil⟩ ?step ?done)
  case step =>
    rintro j u s' hu ⟨Fj, Hj, kA, e, kvs, nk', na', I', hk0, ha0, g, rk, rp⟩
    simp only [Nat.zero_add] at rp ⊢
    have hj : j < vs.length := (List.getElem?_eq_some_iff.mp hu).1
    have hjd : j < ds.length := by omega
    have hd : ds[j]? = some ds[j] := List.getElem?_eq_getElem hjd
    obtain ⟨x, hx, rx⟩ := B.it.get hd
    obtain ⟨u', hu', ru⟩ := rv.get hx
    have eu : u' = u := Option.some.inj (hu'.symm.trans hu)
    subst eu
    have hz : kA.size ≤ sizeLine := by
      have q1 : kvs.length = kA.size := by rw [rk.length, Array.length_toList]
      have q2 := rp.length
      rw [List.length_take, List.length_map] at q2
      omega
    have hz1 : kA.size + 1 ≤ sizeLine + 1 := Nat.succ_le_succ hz
    refine wpAny_bind (wpAny_attempt (wpAny_mono (key_call (E := fun _ _ => False) B.G B.hb B.hr B.hA I' g.ext g.obs ru (rx.mono g.gF) (B.key _ (List.getElem_mem hjd))) (fun v s'' he => ?_) fun _ _ hF => hF.elim))
    obtain ⟨kv, F', H', I'', un, rkv, rep, g'⟩ := he
    try dsimp only
    have nk2 : s''.heap.get? kS = some (seqObj "list" kA e) := un.keep _ _ nk' hk0 (FpOk.nostk fk I') (by simp)
    have na2 : s''.heap.get? a = some (seqObj "list" #[] e1) := un.keep _ _ na' ha0 (FpOk.nostk fa I') (by simp)
    have hk2 : H' kS = none := un.free _ _ nk' hk0 (by simp)
    have ha2 : H' a = none := un.free _ _ na' ha0 (by simp)
    have s1 := Heap.SameBut.update s''.heap kS (Obj.mapSeq (·.push v))
    obtain ⟨c2, hc2⟩ : ∃ c2, (s''.heap.update kS (Obj.mapSeq (·.push v))).get? kS = some (seqObj "list" (kA.push v) c2) := ⟨_, get?_update_seq nk2 (·.push v)⟩
    refine wpAny_bind (listUpdate_at nk2 rfl ?_ hz (by rw [Array.size_push]; exact hz1))
    refine wpAny_pure ⟨rfl, F', H', kA.push v, c2, kvs ++ [kv], hc2, (s1.2 a hka.symm).trans na2, I''.turnedL (t' := s''.toks) (ch := [kS]) (fun b o hb q => (s1.2 b (by simpa using hb)).trans q) (fun b hb => by rw [List.mem_singleton.mp hb]; exact FpOk.to fk hk2), hk2, ha2, g.then (fun p hp => hp.elim) g', ?_, ?_⟩
    · rw [Array.toList_push]
      exact vals_snoc rk rkv
    · have ek : (ds.map kf).take (j + 1) = (ds.map kf).take j ++ [kf ds[j]] := by rw [List.take_add_one, List.getElem?_map, hd]; rfl
      rw [ek]
      exact (rp.mono g'.gF).append (.one rep)
  case done =>
    rintro s' ⟨Fj, Hj, kA, e, kvs, nk', na', I', hk0, ha0, g, rk, rp⟩
    rw [List.take_of_length_le (by rw [List.length_map]; omega)] at rp
    have hal : (ds.map kf).all (shD 8) = true := by
      rw [List.all_eq_true]
      intro y hy
      obtain ⟨x, hx, rfl⟩ := List.mem_map.mp hy
      exact B.sh x hx
    have hk' := each_reads I' g.ext rk rp hal
    rw [List.map_map] at hk'
    have hsz : kA.size = vs.length := by
      have q1 : kvs.length = kA.size := by rw [rk.length, Array.length_toList]
      have q2 := rp.length
      rw [List.length_map] at q2
      omega
    try dsimp only
    refine wpAny_bind (listItems_at nk' rfl ?_)
    obtain ⟨W, w1, w2⟩ := restrict s'.heap fun c => decide (c ≠ kS ∧ c ≠ a)
    have w3 : ∀ c o, c ≠ kS → c ≠ a → s'.heap.get? c = some o → W.get? c = some o := fun c o q1 q2 q => (w1 c (decide_eq_true ⟨q1, q2⟩)).trans q
    have hu : ∀ d, d ∈ ds.map (fun x => (kf x).pd) → A.units + d.depth < cLine := fun d hd => by
      obtain ⟨x, hx, rfl⟩ := List.mem_map.mp hd
      have q1 := depth_sh 8 _ (B.sh x hx)
      have q2 := B.hr.un
      omega
    refine keyH_end (κ := dataKind s'.heap (ds.map fun x => (kf x).pd)) (h₁ := W) (fun c o hc q => ?_) (w2 kS (decide_eq_false (fun z => z.1 rfl))) nk' na' hka (SortsAt.data (s := s') hk' B.al B.so hu) hsz (by omega) fun h3 tk3 c3 k3 n3 => ?_
    · have hck : c ≠ kS := fun z => by
        subst z
        rw [w2 c (decide_eq_false (fun z => z.1 rfl))] at q
        cases q
      exact (w1 c (decide_eq_true ⟨hck, hc⟩)).symm.trans q
    · have ko : KeyedOut b (ds.map fun x => (kf x).pd) vs _ := ⟨s'.heap, kA.toList, B.al, rfl, hk'⟩
      obtain ⟨ys, y1, y2⟩ := rel_each (keyedOut_each (bs := ds) (fun x => (kf x).pd) ko (each_rel rv (B.it.mono g.gF)))
      have ly : ys.length ≤ sizeLine := by
        rw [y2.length, List.length_mergeSort]
        exact l3
      refine k _ ys Fj Hj (turnedAt (t' := tk3) (ch := [kS, a]) (T := a) I' (fun c o hc q => ?_) (fun c hc => ?_) (by simp) ⟨ly, _, c3, y1, n3⟩) y2 g ha0
      · have q1 : c ≠ kS ∧ c ≠ a := by simpa using hc
        exact k3 c o q1.2 (w3 c o q1.1 q1.2 q)
      · have q1 : c = kS ∨ c = a := by simpa using hc
        rcases q1 with rfl | rfl
        · exact FpOk.to fk hk0
        · exact FpOk.to fa ha0
end
section
variable {X : Cx} {n : Nat} {f : Addr} {fd : FuncData} {ps : List Str} {spc : Spc}
/-- what sorted(l, key=f) wants and gives -/
def rSortF (X : Cx) (n : Nat) (f : Addr) (fd : FuncData) (ps : List Str) (spc : Spc) : List V → List V → Hp → VK → Prop := fun vs zs H Q => ∃ (a : Addr) (F : Hp) (h : Oh) (xs : List V) (ds : List D) (kf : D → D), vs = [.ref a] ∧ zs = [.ref f] ∧ SqL X.K H a xs ∧
  KeyB X n f fd ps spc X.A.in1.in1 F H h xs ds kf ∧ ∀ ys F' H' p, Reps X.K F' ys (ds.mergeSort (dataLe false fun x => (kf x).pd)) → Gr X.K ⟨F, H, h, fun _ => False⟩ F' H' h → H' p = none → Q (.ref p) (upd H' p (.lst ys))
theorem cr_sortF : CallRK X (.builtin "sorted") [Str.ofString "key"] (rSortF X n f fd ps spc) := by
  intro pins s σ H vs zs us ws Q I r rz hq
  obtain ⟨l, F, h, xs, ds, kf, rfl, rfl, hl, B, k⟩ := hq
  obtain rfl := Vals.ref1 r
  obtain ⟨w1, rfl, e1⟩ := vals1 rz
  obtain rfl : w1 = Value.ref f := e1
  obtain ⟨its, rv, p, hz⟩ := I.list hl
  have l1 := rv.length
  have l2 := B.it.length
  have l3 := B.ln
  have a_lt : s.heap.objs.size ≤ s.heap.objs.size + 1 := Nat.le_succ _
  have fa : FpOk X pins H (s.heap.objs.size + 1) := I.fpOk a_lt (I.hok.fresh a_lt)
  refine sorted_of_sort (s := s) p.isList (by omega) (ksk_s1 _ _) (fun _ => ksk_l1 _ _) fun E' => ?_
  rw [show [Str.ofString "key"].zip [Value.ref f] = [(Str.ofString "key", Value.ref f)] from rfl, ksk_t1]
  have ho := copyHeap_at s.heap its
  have ha : s.heap.objs.size + 1 < (copyHeap s.heap its).objs.size := Heap.lt_size ho
  obtain ⟨e1, ho1⟩ : ∃ e1, ((copyHeap s.heap its).update (s.heap.objs.size + 1) (Obj.mapSeq fun _ => (#[] : Array Value))).get? (s.heap.objs.size + 1) = some (seqObj "list" #[] e1) := ⟨_, get?_update_seq ho fun _ => #[]⟩
  have hkS : (((copyHeap s.heap its).update (s.heap.objs.size + 1) (Obj.mapSeq fun _ => (#[] : Array Value))).push (seqObj "tuple" its.toArray 0)).objs.size = (copyHeap s.heap its).objs.size + 1 := by rw [size_push', Heap.size_update]
  have hle : s.heap.objs.size ≤ (copyHeap s.heap its).objs.size + 1 := by omega
  unfold ksk_tree
  refine wpAny_bind (listItems_at ho rfl ?_)
  refine wpAny_bind (listUpdate_at ho rfl ?_ (by rw [List.size_toArray]; omega) (Nat.zero_le _))
  refine wpAny_bind (seqEpoch_at ho1 rfl ?_)
  refine wpAny_bind (wpAny_newTuple ?_ (by show its.length ≤ _; omega))
  refine wpAny_bind (wpAny_newList ?_ (Nat.zero_le _))
  refine wpAny_holding ?_
  have keep : ∀ b o, s.heap.get? b = some o → (sortingHeap (copyHeap s.heap its) (s.heap.objs.size + 1) its).get? b = some o := fun b o q =>
    sortingHeap_old (Nat.ne_of_lt (Nat.lt_succ_of_lt (Heap.lt_size q))) (copyHeap_old q)
  have I2 : Inv X pins σ H { s with heap := sortingHeap (copyHeap s.heap its) (s.heap.objs.size + 1) its } := I.kept (t' := s.toks) keep
  refine sort_rest (b := false) B I2 rv (kS := (((copyHeap s.heap its).update (s.heap.objs.size + 1) (Obj.mapSeq fun _ => (#[] : Array Value))).push (seqObj "tuple" its.toArray 0)).objs.size) ?_ fa ?_ ?_ ?_ fun s' ys F' H' I' ry g ha' => ⟨rfl, .ref _, _, I', rfl, k ys F' H' _ ry g ha'⟩
  · rw [hkS]
    exact I.fpOk hle (I.hok.fresh hle)
  · rw [hkS]
    exact Nat.ne_of_gt (Nat.lt_succ_of_lt ha)
  · exact Heap.get?_push_size _ rfl
  · exact Heap.get?_push_of_some _ (Heap.get?_push_of_some _ ho1)
/-- sorted(e, key=f) -/
def wSortF (spc : Spc) (w : WE) : WE := fun S R => w S fun d S1 => match d with
  | .lst ds => ∃ kf : D → D, (∀ x ∈ ds, KeyOf spc S1.h x (kf x)) ∧ (∀ x ∈ ds, shD 8 (kf x) = true) ∧ AllAlike (ds.map fun x => (kf x).pd) ∧ Sortable (ds.map fun x => (kf x).pd) ∧ ds.length ≤ sizeLine ∧ R (.lst (ds.mergeSort (dataLe false fun x => (kf x).pd))) S1
  | _ => False
theorem dn_sortF {e : Expr} {x : Str} {p px kp pos : Pos} {w : WE} (G : FnOk X.prog X.w X.K X.mg X.base CX0 n f fd ps (spOf X.K 1 spc)) (hr : Room (n + 1) X.A) (hg : Gl X "sorted") (hm : X.mg "sorted" = none) (hgf : Gl X x) (hmf : X.mg x = some (.ref f)) (hb : Binds X.K fd ps []) (he : DE X e w)
    (h1 : starEach [e] X.env = [(false, eval e X.env)] := by rfl) (hdb : (x == ("__debug__" : Str)) = false := by decide) : DN X (.Call (.Name "sorted" p) [e] [⟨some "key", .Name x px, kp⟩] pos) (wSortF spc w) := fun E => PE.imp (pe_callBK cr_sortF hg hm (by rfl) (pa_cons (he E) pa_nil h1) (pk_cons (pe_glob hgf hmf (v := .ref f) rfl hdb) pk_nil) (he := by rw [h1]; rfl) (hpl := by rw [h1]; rfl)) fun σ H Q => by
  rintro ⟨S, F, R, hR, hw, k⟩
  refine ⟨S, F, _, hR, hw, fun d S1 v F1 H1 hw1 r1 hR1 x1 => ?_⟩
  split at hw1
  · obtain ⟨kf, k1, k2, k3, k4, k5, q⟩ := hw1
    cases r1 with
    | lst ha hs =>
      refine ⟨_, F1, S1.h, _, _, kf, rfl, rfl, .of (hR1.g.ext _ _ ha), ⟨G, hb, in2 hr, rfl, hR1.g.ext, hR1.g.obs, hs, k1, k2, k3, k4, k5⟩, fun ys F' H' p' ry g hp => ?_⟩
      obtain ⟨fr, hR'⟩ := fresh_of (hR1.after g) hp ry
      exact k _ _ p' F' _ q fr hR' (x1.trans g.gF)
  · exact hw1.elim
end
end VL

set_option Elab.async false
set_option linter.all false
set_option maxRecDepth 100000
set_option maxHeartbeats 4000000
/-! VL9: methods of ints and texts; a text times an int; list of a text. -/
namespace VL
open PySem PySem.Spec PyProof.Rows L2
/-- x.bit_length() -/
def wBits (w : WE) : WE := fun S R => w S fun d S1 => match d with
  | .int i => R (.int (Builtin.Int.intBits i : Nat)) S1
  | _ => False
abbrev OM1 := Str → D → (D → Prop) → Prop
def wM1 (g : OM1) (w we : WE) : WE := fun S R => w S fun d S1 => match d with
  | .str a => we S1 fun e S2 => g a e fun z => R z S2
  | _ => False
def wM0 (g : Str → (D → Prop) → Prop) (w : WE) : WE := fun S R => w S fun d S1 => match d with
  | .str a => g a fun z => R z S1
  | _ => False
/-- s.index(t), found -/
def mIndex : OM1 := fun a e R => match e with
  | .str b => ∃ i rest, Builtin.Str.occurrences a b 0 a.length 1 = i :: rest ∧ R (.int (i : Nat))
  | _ => False
/-- s.join(texts) -/
def mJoin : OM1 := fun a e R => match e with
  | .lst ds => ∃ ys : List Str, ds = ys.map D.str ∧ (ys.map (·.length)).sum + ys.length * a.length ≤ 16777216 ∧ R (.str (Txt.join a ys))
  | .tup ds => ∃ ys : List Str, ds = ys.map D.str ∧ (ys.map (·.length)).sum + ys.length * a.length ≤ 16777216 ∧ R (.str (Txt.join a ys))
  | _ => False
def mUpper (a : Str) (R : D → Prop) : Prop := a.length ≤ 5592405 ∧ R (.str (Txt.upper a))
def rM1 (K : PySem.W.Frag) (g : OM1) : V → List V → Hp → VK → Prop := fun x xs H Q => ∃ F a v e R, x = .str a ∧ xs = [v] ∧ Ext F H ∧ Rep K F v e ∧ g a e R ∧ ∀ z v', R z → Rep K F v' z → Q v' H
section
variable {X : Cx} {o e : Expr} {wo we : WE} {apos cpos pos : Pos} {name : Str} {id : String}
theorem de_bits (ho : DE X o wo) (hbase : attributeBase o "bit_length" X.env (eval o X.env) = eval o X.env := by rfl) (hline : (apos.endLine == pos.line) = true := by rfl) : DE X (.Call (.Attribute o "bit_length" apos) [] [] pos) (wBits wo) := fun E => PE.imp (pe_bits (ho E) hbase hline) fun σ H Q => by
  rintro ⟨S, F, R, hR, hw, k⟩
  refine ⟨S, F, _, hR, hw, fun d S1 v F1 H1 hw1 r1 hR1 x1 => ?_⟩
  split at hw1
  · cases r1
    exact ⟨_, rfl, k _ S1 _ F1 H1 hw1 (.int _) hR1 x1⟩
  · exact hw1.elim
theorem mv_index : MtR X "str.index" (rM1 X.K mIndex) := MtR.any fun x xs H Q => by
  rintro ⟨F, a, v, e, R, rfl, rfl, hx, r, hg, k⟩
  refine ⟨_, mt_sindex, ?_⟩
  unfold mIndex at hg
  split at hg
  · obtain ⟨i, rest, h1, h2⟩ := hg
    cases r
    exact ⟨_, _, i, rest, rfl, rfl, h1, k _ _ h2 (.int _)⟩
  · exact hg.elim
theorem mv_join : MtR X "str.join" (rM1 X.K mJoin) := MtR.any fun x xs H Q => by
  rintro ⟨F, a, v, e, R, rfl, rfl, hx, r, hg, k⟩
  refine ⟨_, mt_join, ?_⟩
  unfold mJoin at hg
  split at hg
  · obtain ⟨ys, rfl, h1, h2⟩ := hg
    cases r with
    | lst h s =>
      have e1 := s.strs
      subst e1
      exact ⟨_, _, ys, rfl, rfl, .inl (.of (hx _ _ h)), h1, k _ _ h2 (.str _)⟩
  · obtain ⟨ys, rfl, h1, h2⟩ := hg
    cases r with
    | tup h s =>
      have e1 := s.strs
      subst e1
      exact ⟨_, _, ys, rfl, rfl, .inr (hx.sqT h), h1, k _ _ h2 (.str _)⟩
  · exact hg.elim
theorem de_m1 {g : OM1} (slot : Slot "str" name id) (ty : typeOf (.builtin id) = pure (.type "method_descriptor")) (rule : MtR X id (rM1 X.K g)) (ho : DE X o wo) (he : DE X e we)
    (hs : starEach [e] X.env = [(false, eval e X.env)] := by rfl) (hbase : attributeBase o name X.env (eval o X.env) = eval o X.env := by rfl) (hline : (apos.endLine == pos.line) = true := by rfl) :
    DE X (.Call (.Attribute o name apos) [e] [] pos) (wM1 g wo we) := fun E => PE.imp (pe_m1 slot ty rule (ho E) (he E) hs hbase hline) fun σ H Q => by
  rintro ⟨S, F, R, hR, hw, k⟩
  refine ⟨S, F, _, hR, hw, fun d S1 v F1 H1 hw1 r1 hR1 x1 => ?_⟩
  split at hw1
  · cases r1
    refine ⟨⟨_, rfl⟩, S1, F1, _, hR1, hw1, fun e S2 u F2 H2 hw2 r2 hR2 x2 => ?_⟩
    exact ⟨F2, _, u, e, _, rfl, rfl, hR2.g.ext, r2, hw2, fun z v' hz rz => k z S2 v' F2 H2 hz rz hR2 (x1.trans x2)⟩
  · exact hw1.elim
theorem de_index (ho : DE X o wo) (he : DE X e we) (hs : starEach [e] X.env = [(false, eval e X.env)] := by rfl) (hbase : attributeBase o "index" X.env (eval o X.env) = eval o X.env := by rfl) (hline : (apos.endLine == pos.line) = true := by rfl) :
    DE X (.Call (.Attribute o "index" apos) [e] [] pos) (wM1 mIndex wo we) := de_m1 PySem.F.slot_str_index PySem.F.type_str_index mv_index ho he hs hbase hline
theorem de_join (ho : DE X o wo) (he : DE X e we) (hs : starEach [e] X.env = [(false, eval e X.env)] := by rfl) (hbase : attributeBase o "join" X.env (eval o X.env) = eval o X.env := by rfl) (hline : (apos.endLine == pos.line) = true := by rfl) :
    DE X (.Call (.Attribute o "join" apos) [e] [] pos) (wM1 mJoin wo we) := de_m1 PySem.F.slot_str_join PySem.F.type_str_join mv_join ho he hs hbase hline
theorem de_upper (ho : DE X o wo) (hbase : attributeBase o "upper" X.env (eval o X.env) = eval o X.env := by rfl) (hline : (apos.endLine == pos.line) = true := by rfl) :
    DE X (.Call (.Attribute o "upper" apos) [] [] pos) (wM0 mUpper wo) := fun E => PE.imp (pe_upper (ho E) hbase hline) fun σ H Q => by
  rintro ⟨S, F, R, hR, hw, k⟩
  refine ⟨S, F, _, hR, hw, fun d S1 v F1 H1 hw1 r1 hR1 x1 => ?_⟩
  split at hw1
  · cases r1
    exact ⟨⟨_, rfl⟩, _, rfl, rfl, hw1.1, k _ S1 _ F1 H1 hw1.2 (.str _) hR1 x1⟩
  · exact hw1.elim
end
/-! ### a text times an int; list of a text -/
def opMulS : O2
  | .str x, .int n, R => MulOk x n ∧ R (.str (Txt.mul x n))
  | d, e, R => opMul d e R
def bLstS : OC
  | [.str x], R => x.length ≤ sizeLine ∧ R (.lst (chars x))
  | ds, R => bLst ds R
section
variable {X : Cx}
theorem op_mul_s : OpR X (binaryOp .Mult) (fun x y H Q => ∃ a n, x = .str a ∧ y = .int n ∧ MulOk a n ∧ Q (.str (Txt.mul a n)) H) := by
  intro pins s σ H x y v u Q I rx ry h
  obtain ⟨a, n, rfl, rfl, hm, q⟩ := h
  obtain ⟨t, rfl⟩ := rx
  obtain ⟨t2, rfl⟩ := ry
  exact SB.mul hm fun t' k => ⟨.str _, H, I.tok k, ⟨t', rfl⟩, q⟩
theorem ov_mulS : OpV X (binaryOp .Mult) opMulS := OpR.any fun x y H Q => by
  rintro ⟨F, d, e, R, hx, r1, r2, hg, k⟩
  unfold opMulS at hg
  split at hg
  · cases r1; cases r2
    exact ⟨_, op_mul_s, _, _, rfl, rfl, hg.1, k _ _ F H hg.2 (.str _) (.refl hx)⟩
  · exact ⟨_, ov_mul, F, d, e, R, hx, r1, r2, hg, k⟩
theorem vals_get : ∀ {xs : List V} {us : List Value}, xs.length = us.length → (∀ (j : Nat) (u : Value), us[j]? = some u → ∃ x : V, xs[j]? = some x ∧ RelV x u) → Vals xs us
  | [], [], _, _ => .nil
  | [], _ :: _, h, _ => by simp at h
  | _ :: _, [], h, _ => by simp at h
  | x :: xs, u :: us, h, k => by
    obtain ⟨y, h1, h2⟩ := k 0 u rfl
    cases h1
    exact .cons h2 (vals_get (by simpa using h) fun j v hv => k (j + 1) v hv)
theorem reps_signs {K : PySem.W.Frag} {F : Hp} : ∀ cs : List Nat, Reps K F (cs.map fun c => .str ⟨#[c]⟩) (cs.map fun c => .str ⟨#[c]⟩)
  | [] => .nil
  | _ :: cs => .cons (.str _) (reps_signs cs)
theorem call_list_s (hc : X.calm = true) : CallR X (.type "list") (fun xs H Q => ∃ a : Str, xs = [.str a] ∧ a.length ≤ sizeLine ∧ ∀ l, H l = none → Q (.ref l) (upd H l (.lst (a.cps.toList.map fun c => .str ⟨#[c]⟩)))) := by
  intro pins s σ H xs us Q I rx h
  obtain ⟨a, rfl, hz, q⟩ := h
  cases rx with
  | cons r rr =>
    cases rr
    obtain ⟨t, rfl⟩ := r
    refine PySem.call_list_str (I.ok.hd hc) a t (hn := hz) fun h' tk acc c hk hS hacc => ?_
    have hn : H s.heap.objs.size = none := I.hok.fresh (Nat.le_refl _)
    have vs : Vals (a.cps.toList.map fun c => V.str ⟨#[c]⟩) acc.toList := vals_get (by rw [List.length_map, Array.length_toList, Array.length_toList]; exact hacc.1.symm) fun j u hu => by
      obtain ⟨c, t', h1, rfl⟩ := hacc.2 j u (by rw [← Array.getElem?_toList]; exact hu)
      exact ⟨.str ⟨#[c]⟩, by rw [List.getElem?_map, Array.getElem?_toList, h1]; rfl, ⟨t', rfl⟩⟩
    refine ⟨.ref _, _, I.laid (t' := tk) (o := .lst (a.cps.toList.map fun c => V.str ⟨#[c]⟩)) hk (Nat.le_refl _) ⟨?_, acc.toList, c, vs, ?_⟩, rfl, q _ hn⟩
    · rw [List.length_map]
      exact hz
    · simpa using hS
theorem cn_lstS (hc : X.calm = true) : CallN X (.type "list") bLstS := CallR.any fun xs H Q => by
  rintro ⟨F, ds, R, hx, r, hg, k⟩
  unfold bLstS at hg
  split at hg
  · obtain ⟨v, rfl, q⟩ := r.one_of
    cases q
    exact ⟨_, call_list_s hc, _, rfl, hg.1, fun l hl => k _ _ _ hg.2 (reps_signs _) hl⟩
  · exact ⟨_, cn_lst, F, ds, R, hx, r, hg, k⟩
theorem bLstS_l : ∀ ds R, bLstS ds R → bLstS ds fun d => R d ∧ ∃ es, d = .lst es := fun ds R h => by
  unfold bLstS at h ⊢
  split at h
  · exact ⟨h.1, h.2, _, rfl⟩
  · exact bLst_l _ _ h
theorem cv_lstS (hc : X.calm = true) : CallV X (.type "list") bLstS := vn_vc (cn_lstS hc) bLstS_l
end
end VL

set_option Elab.async false
set_option linter.all false
set_option maxRecDepth 100000
set_option maxHeartbeats 4000000
/-! VP: bits of whole numbers -/
namespace VL
open PySem PySem.Spec L2
/-- how many bits are 1 -/
def pcf : Nat → Nat → Nat
  | 0, _ => 0
  | f + 1, n => if n = 0 then 0 else n % 2 + pcf f (n / 2)
def pc (n : Nat) : Nat := pcf n n
theorem pcf_eq : ∀ (f g n : Nat), n ≤ f → n ≤ g → pcf f n = pcf g n
  | 0, 0, n, _, _ => rfl
  | 0, g + 1, n, h, _ => by
    have : n = 0 := by omega
    subst this
    simp [pcf]
  | f + 1, 0, n, _, h => by
    have : n = 0 := by omega
    subst this
    simp [pcf]
  | f + 1, g + 1, n, h, k => by
    unfold pcf
    split
    · rfl
    · rw [pcf_eq f g (n / 2) (by omega) (by omega)]
theorem pc_step (n : Nat) : pc n = n % 2 + pc (n / 2) := by
  unfold pc
  cases n with
  | zero => rfl
  | succ n =>
    show (if n + 1 = 0 then 0 else (n + 1) % 2 + pcf n ((n + 1) / 2)) = _
    rw [if_neg (by omega), pcf_eq n ((n + 1) / 2) ((n + 1) / 2) (by omega) (Nat.le_refl _)]
theorem pc_zero : pc 0 = 0 := rfl
theorem and_halves (a b : Nat) : (a &&& b) / 2 = (a / 2) &&& (b / 2) := by
  have := Nat.and_div_two (a := a) (b := b)
  omega
theorem and_mod2 (a b : Nat) : (a &&& b) % 2 = (a % 2) * (b % 2) := by
  have := Nat.and_mod_two_pow (a := a) (b := b) (n := 1)
  simp only [Nat.pow_one] at this
  rw [this]
  rcases Nat.mod_two_eq_zero_or_one a with h | h <;> rcases Nat.mod_two_eq_zero_or_one b with k | k <;> rw [h, k] <;> rfl
/-- taking the lowest 1 away -/
theorem pc_pred : ∀ n : Nat, 0 < n → pc (n &&& (n - 1)) + 1 = pc n := fun n => by
  induction n using Nat.strongRecOn with
  | ind n ih =>
    intro h
    rw [pc_step (n &&& (n - 1)), pc_step n, and_halves, and_mod2]
    rcases Nat.mod_two_eq_zero_or_one n with e | e
    · have e1 : (n - 1) / 2 = n / 2 - 1 := by omega
      rw [e1, e, Nat.zero_mul]
      have := ih (n / 2) (by omega) (by omega)
      omega
    · have e1 : (n - 1) / 2 = n / 2 := by omega
      have e2 : (n - 1) % 2 = 0 := by omega
      rw [e1, e2, e, Nat.and_self]
      omega
end VL

set_option Elab.async false
set_option linter.all false
set_option maxRecDepth 100000
set_option maxHeartbeats 4000000
namespace VL
open PySem PySem.Spec L2
theorem bnot_bnot (x : Int) : Builtin.bitNot (Builtin.bitNot x) = x := by
  unfold Builtin.bitNot
  omega
theorem and_nn (a b : Nat) : Builtin.bitAnd a b = ((a &&& b : Nat) : Int) := by
  unfold Builtin.bitAnd
  rw [decide_eq_true (Int.natCast_nonneg a), decide_eq_true (Int.natCast_nonneg b)]
  rfl
theorem or_nn (a b : Nat) : Builtin.bitOr a b = ((a ||| b : Nat) : Int) := by
  have n1 : ∀ c : Nat, ¬ 0 ≤ Builtin.bitNot c := fun c => by unfold Builtin.bitNot; omega
  unfold Builtin.bitOr
  have e : Builtin.bitAnd (Builtin.bitNot a) (Builtin.bitNot b) = Builtin.bitNot (((Builtin.bitNot (Builtin.bitNot a)).toNat ||| (Builtin.bitNot (Builtin.bitNot b)).toNat : Nat) : Int) := by
    rw [Builtin.bitAnd, decide_eq_false (n1 a), decide_eq_false (n1 b)]
  rw [e, bnot_bnot, bnot_bnot, bnot_bnot, Int.toNat_natCast, Int.toNat_natCast]
/-- the bits 0, and the rest -/
theorem m2 (i : Nat) (h : i < 2) : i = 0 ∨ i = 1 := by omega
theorem and2 (a b i j : Nat) (hi : i < 2) (hj : j < 2) : (2 * a + i) &&& (2 * b + j) = 2 * (a &&& b) + i * j := by
  have h1 := and_halves (2 * a + i) (2 * b + j)
  have h2 := and_mod2 (2 * a + i) (2 * b + j)
  have e1 : (2 * a + i) / 2 = a := by omega
  have e2 : (2 * b + j) / 2 = b := by omega
  have e3 : (2 * a + i) % 2 = i := by omega
  have e4 : (2 * b + j) % 2 = j := by omega
  rw [e1, e2] at h1
  rw [e3, e4] at h2
  omega
theorem or2 (a b i j : Nat) (hi : i < 2) (hj : j < 2) : (2 * a + i) ||| (2 * b + j) = 2 * (a ||| b) + (i + j - i * j) := by
  have h1 := Nat.or_div_two (a := 2 * a + i) (b := 2 * b + j)
  have h2 := Nat.or_mod_two_pow (a := 2 * a + i) (b := 2 * b + j) (n := 1)
  simp only [Nat.pow_one] at h2
  have e1 : (2 * a + i) / 2 = a := by omega
  have e2 : (2 * b + j) / 2 = b := by omega
  have e3 : (2 * a + i) % 2 = i := by omega
  have e4 : (2 * b + j) % 2 = j := by omega
  rw [e1, e2] at h1
  rw [e3, e4] at h2
  have h3 : i ||| j = i + j - i * j := by
    rcases m2 i hi with rfl | rfl <;> rcases m2 j hj with rfl | rfl <;> rfl
  rw [h3] at h2
  omega
theorem xor2 (a b i j : Nat) (hi : i < 2) (hj : j < 2) : (2 * a + i) ^^^ (2 * b + j) = 2 * (a ^^^ b) + (i + j - 2 * (i * j)) := by
  have h1 := Nat.xor_div_two (a := 2 * a + i) (b := 2 * b + j)
  have h2 := Nat.xor_mod_two_pow (a := 2 * a + i) (b := 2 * b + j) (n := 1)
  simp only [Nat.pow_one] at h2
  have e1 : (2 * a + i) / 2 = a := by omega
  have e2 : (2 * b + j) / 2 = b := by omega
  have e3 : (2 * a + i) % 2 = i := by omega
  have e4 : (2 * b + j) % 2 = j := by omega
  rw [e1, e2] at h1
  rw [e3, e4] at h2
  have h3 : i ^^^ j = i + j - 2 * (i * j) := by
    rcases m2 i hi with rfl | rfl <;> rcases m2 j hj with rfl | rfl <;> rfl
  rw [h3] at h2
  omega
theorem pc2 (a i : Nat) (hi : i < 2) : pc (2 * a + i) = i + pc a := by
  rw [pc_step, show (2 * a + i) % 2 = i by omega, show (2 * a + i) / 2 = a by omega]
theorem or_xor_and : ∀ a b : Nat, (a ||| b) = (a ^^^ b) + (a &&& b) := fun a => by
  induction a using Nat.strongRecOn with
  | ind a ih =>
    intro b
    by_cases ha : a = 0
    · subst ha
      simp
    · have x := ih (a / 2) (by omega) (b / 2)
      have p1 := Nat.mod_lt a (show 0 < 2 by decide)
      have p2 := Nat.mod_lt b (show 0 < 2 by decide)
      have e1 := or2 (a / 2) (b / 2) (a % 2) (b % 2) p1 p2
      have e2 := xor2 (a / 2) (b / 2) (a % 2) (b % 2) p1 p2
      have e3 := and2 (a / 2) (b / 2) (a % 2) (b % 2) p1 p2
      rw [Nat.div_add_mod, Nat.div_add_mod] at e1 e2 e3
      rw [e1, e2, e3, x]
      rcases m2 _ p1 with q | q <;> rcases m2 _ p2 with q' | q' <;> rw [q, q'] <;> omega
theorem xor_nn (a b : Nat) : Builtin.bitXor a b = ((a ^^^ b : Nat) : Int) := by
  unfold Builtin.bitXor
  rw [or_nn, and_nn, or_xor_and a b]
  omega
theorem shr_nn (a q : Nat) : (a : Int) / 2 ^ (q : Int).toNat = ((a / 2 ^ q : Nat) : Int) := by
  rw [Int.toNat_natCast]
  push_cast
  rfl
theorem shl_nn (a q : Nat) : (a : Int) * 2 ^ (q : Int).toNat = ((a * 2 ^ q : Nat) : Int) := by
  rw [Int.toNat_natCast]
  push_cast
  rfl
theorem and1_nn (a : Nat) : Builtin.bitAnd a 1 = ((a % 2 : Nat) : Int) := by
  rw [show (1 : Int) = ((1 : Nat) : Int) from rfl, and_nn, Nat.and_one_is_mod]
theorem bits_nn (a : Nat) : Builtin.Int.intBits a = if a = 0 then 0 else a.log2 + 1 := by
  unfold Builtin.Int.intBits
  by_cases h : a = 0
  · subst h; rfl
  · rw [if_neg h, if_neg (by simpa using h)]
    rfl
theorem rint {R : D → Oh → Prop} {h : Oh} {i j : Int} (hR : R (.int j) h) (e : i = j) : R (.int i) h := e ▸ hR
end VL

set_option Elab.async false
set_option linter.all false
set_option maxRecDepth 100000
set_option maxHeartbeats 4000000
/-! VP: Paulis as masks: what the defs of paulis promise -/
namespace VL.P
open PySem PySem.Spec PyProof.Rows L2 VL
def k_NAMES : D := (.str "IXZY")
structure Pa where
  x : Nat
  z : Nat
  s : Nat
  deriving DecidableEq
def Pa.e (p : Pa) : D := .tup [.int p.x, .int p.z, .int p.s]
def Pa.w (p : Pa) : Nat := pc (p.x ||| p.z)
/-- a letter's sign -/
def lch (x z : Nat) : Nat := if x % 2 = 0 then (if z % 2 = 0 then 73 else 90) else (if z % 2 = 0 then 88 else 89)
def lets (m : Nat) : List Nat := (List.range (if m = 0 then 0 else m.log2 + 1)).filter fun q => m / 2 ^ q % 2 == 1
def cmt (p q : Pa) : Bool := pc (p.x &&& q.z) % 2 == pc (p.z &&& q.x) % 2
/-- the turns of a product, by quarters -/
def trn (p q : Pa) : Int := (2 * ((p.s : Int) + q.s) + pc (p.x &&& p.z) + pc (q.x &&& q.z) + 2 * pc (p.z &&& q.x) - pc ((p.x ^^^ q.x) &&& (p.z ^^^ q.z))) % 4
def prd (p q : Pa) : Pa := ⟨p.x ^^^ q.x, p.z ^^^ q.z, (trn p q / 2).toNat⟩
def sng (k q : Nat) : Pa := ⟨k % 2 * 2 ^ q, k / 2 * 2 ^ q, 0⟩
def rnk (p : Pa) : D := .tup [.int p.w, .int p.x, .int p.z]
def sp_ones : Spc := fun ds h R _ => ∃ n : Nat, ds = [.int n] ∧ R (.int (pc n)) h
def sp_weight : Spc := fun ds h R _ => ∃ p : Pa, ds = [p.e] ∧ R (.int p.w) h
def sp_letter : Spc := fun ds h R _ => ∃ (p : Pa) (q : Nat), ds = [p.e, .int q] ∧ R (.str ⟨#[lch (p.x / 2 ^ q) (p.z / 2 ^ q)]⟩) h
def sp_support : Spc := fun ds h R _ => ∃ p : Pa, ds = [p.e] ∧ p.x < 2 ^ 100 ∧ p.z < 2 ^ 100 ∧ R (.lst ((lets (p.x ||| p.z)).map fun q => .int (q : Nat))) h
def sp_commutes : Spc := fun ds h R _ => ∃ p q : Pa, ds = [p.e, q.e] ∧ R (.bl (cmt p q)) h
def sp_product : Spc := fun ds h R _ => ∃ p q : Pa, ds = [p.e, q.e] ∧ p.s < 2 ∧ q.s < 2 ∧ p.z < 2 ^ 100 ∧ R (prd p q).e h
def sp_part : Spc := fun ds h R _ => ∃ (p : Pa) (m : Nat), ds = [p.e, .int m] ∧ R (Pa.e ⟨p.x &&& m, p.z &&& m, 0⟩) h
def sp_shifted : Spc := fun ds h R _ => ∃ (p : Pa) (q : Nat), ds = [p.e, .int q] ∧ p.x < 2 ^ 100 ∧ p.z < 2 ^ 100 ∧ q ≤ 1000 ∧ R (Pa.e ⟨p.x * 2 ^ q, p.z * 2 ^ q, p.s⟩) h
def sp_single : Spc := fun ds h R _ => ∃ (k q : Nat), k < 4 ∧ q ≤ 1000 ∧ ds = [.str ⟨#[lch k (k / 2)]⟩, .int q] ∧ R (sng k q).e h
def sp_rank : Spc := fun ds h R _ => ∃ p : Pa, ds = [p.e] ∧ R (rnk p) h
def w_ones_b1_1 : WS :=
  (wAug 1 opAddI (wC (.int 1)))
def w_ones_b1 : WS :=
  (wSeq (wAug 0 opAnd (wOp opSub (wVar 0) (wC (.int 1))))
  w_ones_b1_1)
def w_ones_t1 : WT :=
  (wB (wVar 0))
def w_ones_2 : WS :=
  (wRet (wVar 1))
def w_ones_1 : WS :=
  (wSeq (wWhile w_ones_t1 w_ones_b1)
  w_ones_2)
def w_ones : WS :=
  (wSeq (wAsg (wC (.int 0)) (gVar 1))
  w_ones_1)
def w_weight : WS :=
  (wRet (wCall sp_ones (wCons (wOp opOr (wIx (wVar 0) (wC (.int 0))) (wIx (wVar 0) (wC (.int 1)))) wNil)))
def w_letter : WS :=
  (wRet (wIx (wC k_NAMES) (wOp opAdd (wOp opAnd (wOp opShr (wIx (wVar 0) (wC (.int 0))) (wVar 1)) (wC (.int 1))) (wOp opMulS (wC (.int 2)) (wOp opAnd (wOp opShr (wIx (wVar 0) (wC (.int 1))) (wVar 1)) (wC (.int 1)))))))
def w_support_1 : WS :=
  (wRet (wLc (wRng1 (wCons (wBits (wVar 1)) wNil)) (gVar 2) (wB (wOp opAnd (wOp opShr (wVar 1) (wVar 2)) (wC (.int 1)))) (wVar 2) [2]))
def w_support : WS :=
  (wSeq (wAsg (wOp opOr (wIx (wVar 0) (wC (.int 0))) (wIx (wVar 0) (wC (.int 1)))) (gVar 1))
  w_support_1)
def w_commutes : WS :=
  (wRet (wOp opEq (wOp opMod (wCall sp_ones (wCons (wOp opAnd (wIx (wVar 0) (wC (.int 0))) (wIx (wVar 1) (wC (.int 1)))) wNil)) (wC (.int 2))) (wOp opMod (wCall sp_ones (wCons (wOp opAnd (wIx (wVar 0) (wC (.int 1))) (wIx (wVar 1) (wC (.int 0)))) wNil)) (wC (.int 2)))))
def w_product_4 : WS :=
  (wRet (wTup (wCons (wVar 2) (wCons (wVar 3) (wCons (wOp opDiv (wVar 4) (wC (.int 2))) wNil)))))
def w_product_3 : WS :=
  (wSeq (wAsg (wOp opMod (wOp opSub (wOp opAdd (wVar 4) (wOp opMulS (wC (.int 2)) (wCall sp_ones (wCons (wOp opAnd (wIx (wVar 0) (wC (.int 1))) (wIx (wVar 1) (wC (.int 0)))) wNil)))) (wCall sp_ones (wCons (wOp opAnd (wVar 2) (wVar 3)) wNil))) (wC (.int 4))) (gVar 4))
  w_product_4)
def w_product_2 : WS :=
  (wSeq (wAsg (wOp opAdd (wOp opAdd (wOp opMulS (wC (.int 2)) (wOp opAdd (wIx (wVar 0) (wC (.int 2))) (wIx (wVar 1) (wC (.int 2))))) (wCall sp_ones (wCons (wOp opAnd (wIx (wVar 0) (wC (.int 0))) (wIx (wVar 0) (wC (.int 1)))) wNil))) (wCall sp_ones (wCons (wOp opAnd (wIx (wVar 1) (wC (.int 0))) (wIx (wVar 1) (wC (.int 1)))) wNil))) (gVar 4))
  w_product_3)
def w_product_1 : WS :=
  (wSeq (wAsg (wOp opXor (wIx (wVar 0) (wC (.int 1))) (wIx (wVar 1) (wC (.int 1)))) (gVar 3))
  w_product_2)
def w_product : WS :=
  (wSeq (wAsg (wOp opXor (wIx (wVar 0) (wC (.int 0))) (wIx (wVar 1) (wC (.int 0)))) (gVar 2))
  w_product_1)
def w_part : WS :=
  (wRet (wTup (wCons (wOp opAnd (wIx (wVar 0) (wC (.int 0))) (wVar 1)) (wCons (wOp opAnd (wIx (wVar 0) (wC (.int 1))) (wVar 1)) (wCons (wC (.int 0)) wNil)))))
def w_shifted : WS :=
  (wRet (wTup (wCons (wOp opShl (wIx (wVar 0) (wC (.int 0))) (wVar 1)) (wCons (wOp opShl (wIx (wVar 0) (wC (.int 1))) (wVar 1)) (wCons (wIx (wVar 0) (wC (.int 2))) wNil)))))
def w_single_1 : WS :=
  (wRet (wTup (wCons (wOp opShl (wOp opAnd (wVar 2) (wC (.int 1))) (wVar 1)) (wCons (wOp opShl (wOp opShr (wVar 2) (wC (.int 1))) (wVar 1)) (wCons (wC (.int 0)) wNil)))))
def w_single : WS :=
  (wSeq (wAsg (wM1 mIndex (wC k_NAMES) (wVar 0)) (gVar 2))
  w_single_1)
def w_rank : WS :=
  (wRet (wTup (wCons (wCall sp_weight (wCons (wVar 0) wNil)) (wCons (wIx (wVar 0) (wC (.int 0))) (wCons (wIx (wVar 0) (wC (.int 1))) wNil)))))
theorem pk_ones : Pk 1 1 sp_ones w_ones := by
  rintro ds h R _ ⟨n, rfl, hR⟩
  refine ⟨pc n + 1, ?_⟩
  have loop : ∀ (k n c : Nat), pc n = k → R (.int ((c + k : Nat) : Int)) h → wWhN w_ones_t1 w_ones_b1 { Fi R with nx := w_ones_2 (Fi R) } (k + 1) ⟨[.f (.int n), .f (.int c)], h⟩ := fun k => by
    induction k with
    | zero =>
      intro n c e hR
      have : n = 0 := by
        rcases Nat.eq_zero_or_pos n with q | q
        · exact q
        · have := pc_pred n q
          omega
      subst this
      exact whn (brF rfl hR)
    | succ k ih =>
      intro n c e hR
      have hn : 0 < n := by
        rcases Nat.eq_zero_or_pos n with q | q
        · subst q
          rw [pc_zero] at e
          omega
        · exact q
      have hp := pc_pred n hn
      refine whn (brT (by simpa using (show n ≠ 0 by omega)) ?_)
      have e1 : Builtin.bitAnd (n : Int) ((n : Int) - 1) = ((n &&& (n - 1) : Nat) : Int) := by
        rw [show (n : Int) - 1 = ((n - 1 : Nat) : Int) by omega, and_nn]
      have x := ih (n &&& (n - 1)) (c + 1) (by omega) (by rw [show c + 1 + k = c + (k + 1) by omega]; exact hR)
      rw [← e1] at x
      exact x
  exact loop (pc n) n 0 rfl (by rw [Nat.zero_add]; exact hR)
theorem pk_weight : Pk 1 0 sp_weight w_weight := by
  rintro ds h R _ ⟨p, rfl, hR⟩
  exact ⟨_, rfl, _, rfl, _, by rw [or_nn], hR⟩
end VL.P

set_option Elab.async false
set_option linter.all false
set_option maxRecDepth 100000
set_option maxHeartbeats 4000000
namespace VL.P
open PySem PySem.Spec PyProof.Rows L2 VL
theorem line4 : (4 : Nat) ≤ sizeLine := by decide
theorem cmul2 (i : Nat) (h : i < 2) : CMulX 2 (i : Int) := cmul 2 1 (by decide) (by omega) (by decide)
theorem pk_letter : Pk 2 0 sp_letter w_letter := by
  rintro ds h R _ ⟨p, q, rfl, hR⟩
  have h1 := Nat.mod_lt (p.x / 2 ^ q) (show 0 < 2 by decide)
  have h2 := Nat.mod_lt (p.z / 2 ^ q) (show 0 < 2 by decide)
  unfold lch at hR
  refine ⟨_, rfl, Int.natCast_nonneg q, _, rfl, Int.natCast_nonneg q, ?_, line4, ?_⟩
  · show CMulX 2 (Builtin.bitAnd ((p.z : Int) / 2 ^ (q : Int).toNat) 1)
    rw [shr_nn, and1_nn]
    exact cmul2 _ h2
  · show ∃ c, atI [73, 88, 90, 89] (Builtin.bitAnd ((p.x : Int) / 2 ^ (q : Int).toNat) 1 + 2 * Builtin.bitAnd ((p.z : Int) / 2 ^ (q : Int).toNat) 1) = some c ∧ R (.str ⟨#[c]⟩) h
    rw [shr_nn, and1_nn, shr_nn, and1_nn]
    rcases m2 _ h1 with e | e <;> rcases m2 _ h2 with e' | e' <;> (rw [e, e'] at hR ⊢; exact ⟨_, rfl, hR⟩)
theorem pk_commutes : Pk 2 0 sp_commutes w_commutes := by
  rintro ds h R _ ⟨p, q, rfl, hR⟩
  refine ⟨_, rfl, _, rfl, _, by rw [and_nn], by decide, _, rfl, _, rfl, _, by rw [and_nn], by decide, ?_⟩
  have e : ∀ a b : Nat, ((((a : Nat) : Int) % 2 == ((b : Nat) : Int) % 2) = (a % 2 == b % 2)) := fun a b => by
    rw [Bool.eq_iff_iff, beq_iff_eq, beq_iff_eq]
    omega
  show R (.bl ((((pc (p.x &&& q.z) : Nat) : Int) % 2 == ((pc (p.z &&& q.x) : Nat) : Int) % 2))) h
  rw [e]
  exact hR
theorem pk_rank : Pk 1 0 sp_rank w_rank := by
  rintro ds h R _ ⟨p, rfl, hR⟩
  exact ⟨p, rfl, _, rfl, _, rfl, hR⟩
theorem pk_part : Pk 2 0 sp_part w_part := by
  rintro ds h R _ ⟨p, m, rfl, hR⟩
  refine ⟨_, rfl, _, rfl, ?_⟩
  show R (.tup [.int (Builtin.bitAnd p.x m), .int (Builtin.bitAnd p.z m), .int 0]) h
  rw [and_nn, and_nn]
  exact hR
theorem pk_shifted : Pk 2 0 sp_shifted w_shifted := by
  rintro ds h R _ ⟨p, q, rfl, h1, h2, h3, hR⟩
  refine ⟨_, rfl, shl_ok (n := 100) (by simpa using h1) (by omega), _, rfl, shl_ok (n := 100) (by simpa using h2) (by omega), _, rfl, ?_⟩
  show R (.tup [.int ((p.x : Int) * 2 ^ (q : Int).toNat), .int ((p.z : Int) * 2 ^ (q : Int).toNat), .int p.s]) h
  rw [shl_nn, shl_nn]
  exact hR
theorem pk_single : Pk 2 1 sp_single w_single := by
  rintro ds h R _ ⟨k, q, hk, hq, rfl, hR⟩
  have c : k = 0 ∨ k = 1 ∨ k = 2 ∨ k = 3 := by omega
  have key : ∀ (c i j m : Nat), i < 2 → j < 2 → Builtin.Str.occurrences (Str.ofString "IXZY") ⟨#[c]⟩ 0 (Str.ofString "IXZY").length 1 = m :: [] → Builtin.bitAnd (m : Nat) 1 = (i : Nat) → ((m : Nat) : Int) / 2 ^ (1 : Int).toNat = (j : Nat) →
      R (Pa.e ⟨i * 2 ^ q, j * 2 ^ q, 0⟩) h → w_single (Fi R) ⟨[.f (.str ⟨#[c]⟩), .f (.int q), .u], h⟩ := fun c i j m hi hj ho e1 e2 hR => by
    refine ⟨m, _, ho, ?_, by decide, ?_, ?_⟩
    · show CShl (Builtin.bitAnd (m : Nat) 1) (q : Int)
      rw [e1]
      exact shl_ok (n := 1) (by omega) (by omega)
    · show CShl (((m : Nat) : Int) / 2 ^ (1 : Int).toNat) (q : Int)
      rw [e2]
      exact shl_ok (n := 1) (by omega) (by omega)
    · show R (.tup [.int (Builtin.bitAnd (m : Nat) 1 * 2 ^ (q : Int).toNat), .int (((m : Nat) : Int) / 2 ^ (1 : Int).toNat * 2 ^ (q : Int).toNat), .int 0]) h
      rw [e1, e2, shl_nn, shl_nn]
      exact hR
  rcases c with rfl | rfl | rfl | rfl
  · exact key 73 0 0 0 (by decide) (by decide) (by decide +kernel) (by decide +kernel) (by decide) hR
  · exact key 88 1 0 1 (by decide) (by decide) (by decide +kernel) (by decide +kernel) (by decide) hR
  · exact key 90 0 1 2 (by decide) (by decide) (by decide +kernel) (by decide +kernel) (by decide) hR
  · exact key 89 1 1 3 (by decide) (by decide) (by decide +kernel) (by decide +kernel) (by decide) hR
end VL.P

set_option Elab.async false
set_option linter.all false
set_option maxRecDepth 100000
set_option maxHeartbeats 4000000
namespace VL.P
open PySem PySem.Spec PyProof.Rows L2 VL
theorem pc_le (n : Nat) : pc n ≤ n := by
  induction n using Nat.strongRecOn with
  | ind n ih =>
    rw [pc_step]
    by_cases h : n = 0
    · subst h; exact Nat.le_refl _
    · have := ih (n / 2) (by omega)
      omega
theorem trn_nn (p q : Pa) : 0 ≤ trn p q / 2 := Int.ediv_nonneg (Int.emod_nonneg _ (by decide)) (by decide)
theorem trn_lt (p q : Pa) : trn p q < 4 := Int.emod_lt_of_pos _ (by decide)
theorem prd_s (p q : Pa) : (prd p q).s < 2 := by
  have := trn_lt p q
  have := trn_nn p q
  show (trn p q / 2).toNat < 2
  omega
theorem pk_product : Pk 2 3 sp_product w_product := by
  rintro ds h R _ ⟨p, q, rfl, hp, hq, hz, hR⟩
  refine ⟨_, rfl, _, rfl, ?_⟩
  change w_product_1 (Fi R) ⟨[.f p.e, .f q.e, .f (.int (Builtin.bitXor p.x q.x)), .u, .u], h⟩
  rw [xor_nn]
  refine ⟨_, rfl, _, rfl, ?_⟩
  change w_product_2 (Fi R) ⟨[.f p.e, .f q.e, .f (.int ((p.x ^^^ q.x : Nat) : Int)), .f (.int (Builtin.bitXor p.z q.z)), .u], h⟩
  rw [xor_nn]
  refine ⟨_, rfl, _, rfl, cmul 2 2 (by decide) (by omega) (by decide), _, rfl, _, rfl, p.x &&& p.z, by rw [and_nn], _, rfl, _, rfl, q.x &&& q.z, by rw [and_nn], ?_⟩
  change w_product_3 (Fi R) ⟨[.f p.e, .f q.e, .f (.int ((p.x ^^^ q.x : Nat) : Int)), .f (.int ((p.z ^^^ q.z : Nat) : Int)), .f (.int (2 * ((p.s : Int) + q.s) + pc (p.x &&& p.z) + pc (q.x &&& q.z)))], h⟩
  have hb : pc (p.z &&& q.x) < 2 ^ 100 := Nat.lt_of_le_of_lt (Nat.le_trans (pc_le _) Nat.and_le_left) hz
  refine ⟨_, rfl, _, rfl, p.z &&& q.x, by rw [and_nn], cmul 2 100 (by decide) (by simpa using hb) (by decide), (p.x ^^^ q.x) &&& (p.z ^^^ q.z), by rw [and_nn], by decide, ?_⟩
  change w_product_4 (Fi R) ⟨[.f p.e, .f q.e, .f (.int ((p.x ^^^ q.x : Nat) : Int)), .f (.int ((p.z ^^^ q.z : Nat) : Int)), .f (.int (trn p q))], h⟩
  refine ⟨cdiv2, ?_⟩
  change R (.tup [.int ((p.x ^^^ q.x : Nat) : Int), .int ((p.z ^^^ q.z : Nat) : Int), .int (trn p q / 2)]) h
  have e : trn p q / 2 = ((prd p q).s : Int) := by
    show _ = (((trn p q / 2).toNat : Nat) : Int)
    have := trn_nn p q
    omega
  rw [e]
  exact hR
/-- a comprehension whose steps are plain -/
theorem lcL_run {g : WG} {tt : WT} {te : WE} {vs : List Nat} {s0 : List Sl} {R : List D → Oh → Prop} {h : Oh} (step : D → Option D) : ∀ (xs acc : List D),
    (∀ x ∈ xs, ∀ C : Option D → Oh → Prop, C (step x) h → g x ⟨wipeS s0 vs, h⟩ fun S1 => tt S1 fun b S2 => Br b (te S2 fun d S3 => wipeS S3.s vs = wipeS s0 vs ∧ C (some d) S3.h) (wipeS S2.s vs = wipeS s0 vs ∧ C none S2.h)) →
    R (acc ++ xs.filterMap step) h → wLcL g tt te vs s0 R xs h acc
  | [], acc, _, hR => by rw [List.filterMap_nil, List.append_nil] at hR; exact hR
  | x :: xs, acc, hs, hR => by
    have ih := fun a => lcL_run (g := g) (tt := tt) (te := te) (vs := vs) (s0 := s0) (R := R) (h := h) step xs a fun y hy => hs y (List.mem_cons_of_mem _ hy)
    refine hs x List.mem_cons_self (fun o h' => wLcL g tt te vs s0 R xs h' (match o with | some d => acc ++ [d] | none => acc)) ?_
    cases e : step x with
    | none =>
      rw [List.filterMap_cons, e] at hR
      exact ih acc hR
    | some d =>
      rw [List.filterMap_cons, e] at hR
      refine ih (acc ++ [d]) ?_
      rw [List.append_assoc]
      exact hR
/-- of whole numbers, those with p -/
def keepI (p : Nat → Bool) : D → Option D
  | .int i => if p i.toNat then some (.int i) else none
  | _ => none
theorem fm_range (l : List Nat) (p : Nat → Bool) : (l.map fun k => D.int (k : Nat)).filterMap (keepI p) = (l.filter p).map fun q => D.int (q : Nat) := by
  induction l with
  | nil => rfl
  | cons a l ih =>
    have e : keepI p (.int (a : Nat)) = if p a then some (.int (a : Nat)) else none := rfl
    rw [List.map_cons, List.filterMap_cons, ih, e, List.filter_cons]
    cases p a <;> rfl
theorem pk_support : Pk 1 2 sp_support w_support := by
  rintro ds h R _ ⟨p, rfl, hx, hz, hR⟩
  refine ⟨_, rfl, _, rfl, ?_⟩
  change w_support_1 (Fi R) ⟨[.f p.e, .f (.int (Builtin.bitOr p.x p.z)), .u], h⟩
  rw [or_nn]
  unfold lets at hR
  have hm : (p.x ||| p.z) < 2 ^ 100 := Nat.or_lt_two_pow hx hz
  generalize p.x ||| p.z = m at hR hm
  have hb : (if m = 0 then 0 else m.log2 + 1) ≤ 100 := by
    split
    · omega
    · rename_i hne
      have := (Nat.log2_lt hne).mpr hm
      omega
  have e1 : ((Builtin.Int.intBits (m : Int) : Nat) : Int).toNat = (if m = 0 then 0 else m.log2 + 1) := by rw [bits_nn, Int.toNat_natCast]
  have e2 : (Builtin.Int.intBits (m : Int) : Nat) ≤ 100 := by rw [bits_nn]; exact hb
  refine ⟨⟨by omega, by omega⟩, rfl, ?_, ?_⟩
  · show ((List.range ((Builtin.Int.intBits (m : Int) : Nat) : Int).toNat).map _).length ≤ 1000000
    rw [List.length_map, List.length_range, e1]
    omega
  · refine lcL_run (keepI fun q => m / 2 ^ q % 2 == 1) _ _ (fun x hx C hC => ?_) ?_
    · obtain ⟨q, hq, rfl⟩ := List.mem_map.mp hx
      refine ⟨Int.natCast_nonneg q, ?_⟩
      have hC' : C (if (m / 2 ^ q % 2 == 1) then some (.int (q : Nat)) else none) h := hC
      show Br ((Builtin.bitAnd ((m : Int) / 2 ^ (q : Int).toNat) 1) != 0) _ _
      rw [shr_nn, and1_nn]
      rcases m2 _ (Nat.mod_lt (m / 2 ^ q) (show 0 < 2 by decide)) with e | e
      · rw [e] at hC' ⊢
        exact brF rfl ⟨rfl, hC'⟩
      · rw [e] at hC' ⊢
        exact brT rfl ⟨rfl, hC'⟩
    · show R (.lst ([] ++ List.filterMap _ ((List.range ((Builtin.Int.intBits (m : Int) : Nat) : Int).toNat).map _))) h
      rw [e1, List.nil_append, fm_range _ fun q => m / 2 ^ q % 2 == 1]
      exact hR
end VL.P

set_option Elab.async false
set_option linter.all false
set_option maxRecDepth 100000
set_option maxHeartbeats 400000
/-! VTs: the tape's step, where * serves texts too -/
namespace VL
open PySem PySem.Spec PyProof.Rows L2
def w_nextS_6 : WS :=
  (wRet (wOp opMod (wCB bInt (wCons (wOp opDiv (wOp opMod (wOp opMulS (wIx (wVar 0) (wC (.int 3))) (wC (.int 16807))) (wC (.int 2147483647))) (wC (.int 7))) wNil)) (wVar 1)))
def w_nextS_5 : WS :=
  (wSeq (wAsg (wOp opMod (wCB bInt (wCons (wOp opAdd (wOp opAdd (wOp opMulS (wIx (wVar 0) (wC (.int 3))) (wC (.int 48271))) (wOp opMulS (wVar 3) (wC (.int 69621)))) (wC (.int 11))) wNil)) (wC (.int 2147483647))) (gIxM (wVar 0) (wC (.int 3))))
  w_nextS_6)
def w_nextS_4 : WS :=
  (wSeq (wIfS (wBb (wOp opGe (wVar 3) (wOp opPow (wC (.int 10)) (wC (.int 18))))) (wSeq (wAsg (wOp opDiv (wVar 3) (wVar 1)) (gIxM (wVar 0) (wC (.int 2))))
  (wRet (wOp opMod (wCB bInt (wCons (wVar 3) wNil)) (wVar 1)))) wNext)
  w_nextS_5)
def w_nextS_3 : WS :=
  (wSeq (wIfS (wBb (wOp opLt (wIx (wVar 0) (wC (.int 1))) (wCB bLen (wCons (wIx (wVar 0) (wC (.int 0))) wNil)))) (wSeq (wAsg (wCB bAbs (wCons (wIx (wIx (wVar 0) (wC (.int 0))) (wIx (wVar 0) (wC (.int 1)))) wNil)) (gVar 3))
  (wAugM (wVar 0) (wC (.int 1)) opAddI (wC (.int 1)))) wNext)
  w_nextS_4)
def w_nextS_2 : WS :=
  (wSeq (wAsg (wC (.int 0)) (gVar 3))
  w_nextS_3)
def w_nextS_1 : WS :=
  (wSeq (wIfS (wBb (wOp opGt (wVar 2) (wC (.int 0)))) (wSeq (wAsg (wOp opDiv (wVar 2) (wVar 1)) (gIxM (wVar 0) (wC (.int 2))))
  (wRet (wOp opMod (wCB bInt (wCons (wVar 2) wNil)) (wVar 1)))) wNext)
  w_nextS_2)
def w_nextS : WS :=
  (wSeq (wAsg (wIx (wVar 0) (wC (.int 2))) (gVar 2))
  w_nextS_1)
theorem pk_nextS : Pk 2 2 sp_next w_nextS := by
  intro ds h R _ q
  obtain ⟨a, m, rfl, ⟨ns, i, r, s, hT, hn, hi, hr, hs, hs2⟩, hm, hm2, hR⟩ := sp_next_out q
  refine ⟨_, _, hT, rfl, ?_⟩
  refine br (fun e => ?_) (fun e => ?_)
  · refine ⟨cdiv hm hm2, a, _, 2, 2, rfl, rfl, hT, rfl, hm, ?_⟩
    refine hR _ _ (Int.emod_nonneg _ (by omega)) (Int.emod_lt_of_pos _ hm) ⟨ns, i, r / m, s, Oh.put_same, hn, hi, Int.ediv_nonneg hr (by omega), hs, hs2⟩ (But.put _ _ _)
  -- the rest, from any cell
  have rest : ∀ (h1 : Oh) (i1 c : Int), 0 ≤ c → h1 a = some (.ml [.lst (ns.map .int), .int i1, .int r, .int s]) → 0 ≤ i1 → But a h h1 →
      w_nextS_4 (Fi R) ⟨[.f (.obj a), .f (.int m), .f (.int r), .f (.int c)], h1⟩ := fun h1 i1 c hc hT1 hi1 hb => by
    refine ⟨⟨by decide, by decide, by decide⟩, ?_⟩
    refine br (fun e2 => ?_) (fun e2 => ?_)
    · refine ⟨cdiv hm hm2, a, _, 2, 2, rfl, rfl, hT1, rfl, hm, ?_⟩
      refine hR _ _ (Int.emod_nonneg _ (by omega)) (Int.emod_lt_of_pos _ hm) ⟨ns, i1, c / m, s, Oh.put_same, hn, hi1, Int.ediv_nonneg hc (by omega), hs, hs2⟩ (hb.trans (But.put _ _ _))
    · have hc2 : c < 10 ^ 18 := by
        have := of_decide_eq_false e2
        have e3 : ((10 : Int) ^ (18 : Int).toNat) = 10 ^ 18 := rfl
        rw [e3] at this
        omega
      refine ⟨_, _, hT1, rfl, cmul 32 17 (by omega) (by decide) (by decide), cmul 60 18 (by omega) (by decide) (by decide), ?_⟩
      refine ⟨(by decide : (0 : Int) < 2147483647), a, _, 3, 3, rfl, rfl, hT1, rfl, ?_⟩
      have b1 : 0 ≤ (s * 48271 + c * 69621 + 11) % 2147483647 := Int.emod_nonneg _ (by decide)
      have b2 : (s * 48271 + c * 69621 + 11) % 2147483647 < 2147483647 := Int.emod_lt_of_pos _ (by decide)
      refine ⟨_, _, Oh.put_same, rfl, cmul 32 17 (by omega) (by decide) (by decide), (by decide : (0 : Int) < 2147483647), wide_div (b := 4) (by decide) (by decide) (by decide) (by decide), hm, ?_⟩
      exact hR _ _ (Int.emod_nonneg _ (by omega)) (Int.emod_lt_of_pos _ hm) ⟨ns, i1, r, _, Oh.put_same, hn, hi1, hr, b1, b2⟩ (hb.trans (But.put _ _ _))
  refine ⟨_, _, hT, rfl, _, _, hT, rfl, ?_⟩
  refine br (fun e2 => ?_) (fun e2 => ?_)
  · have e3 : i < ns.length := by
      have := of_decide_eq_true e2
      rw [List.length_map] at this
      exact this
    obtain ⟨x, hx, ha⟩ := atI_map (f := D.int) hi e3
    refine ⟨_, _, hT, rfl, _, _, hT, rfl, _, ha, ?_⟩
    refine ⟨a, _, 1, _, rfl, rfl, hT, rfl, _, 1, hT, rfl, ?_⟩
    exact rest _ (i + 1) _ (by split <;> omega) Oh.put_same (by omega) (But.put _ _ _)
  · exact rest h i 0 (by decide) hT hi (But.refl _ _)
end VL

set_option Elab.async false
set_option linter.all false
set_option maxRecDepth 100000
/-! Paulis as matrices: what each def of the text promises -/
namespace K01
open PySem PySem.Spec L2 VL VL.P
abbrev k_NAMES : D := VL.P.k_NAMES
/-- a letter by its bits: 0 I, 1 X, 2 Z, 3 Y -/
def ch (k : Nat) : Nat := lch k (k / 2)
def wstr (w : List Nat) : Str := ⟨(w.map ch).toArray⟩
/-- the mask of what b picks -/
def wm (b : Nat → Nat) : List Nat → Nat
  | [] => 0
  | k :: w => b k + 2 * wm b w
def bx (k : Nat) : Nat := k % 2
def bz (k : Nat) : Nat := k / 2
def wpa (w : List Nat) (s : Nat) : Pa := ⟨wm bx w, wm bz w, s⟩
def Wd (w : List Nat) : Prop := ∀ k ∈ w, k < 4
/-- the turns of a letter on a bit -/
def tq (k b : Nat) : Nat := if k = 3 then 1 + 2 * b else if k = 2 then 2 * b else 0
def fl (k b : Nat) : Nat := if bx k = 1 then 1 - b else b
def acb : List Nat → List Nat → List Nat
  | k :: w, b :: bs => fl k b :: acb w bs
  | _, _ => []
def act : List Nat → List Nat → Nat
  | k :: w, b :: bs => tq k b + act w bs
  | _, _ => 0
def bitsD (bs : List Nat) : D := .tup (bs.map fun b => .int (b : Nat))
def Bs (n : Nat) (bs : List Nat) : Prop := bs.length = n ∧ ∀ b ∈ bs, b < 2
abbrev sp_ones := VL.P.sp_ones
abbrev sp_weight := VL.P.sp_weight
abbrev sp_letter := VL.P.sp_letter
abbrev sp_support := VL.P.sp_support
abbrev sp_commutes := VL.P.sp_commutes
abbrev sp_product := VL.P.sp_product
abbrev sp_part := VL.P.sp_part
abbrev sp_shifted := VL.P.sp_shifted
abbrev sp_single := VL.P.sp_single
abbrev sp_rank := VL.P.sp_rank
/-- of_weight, as it goes -/
def blen (r : Pa) : Nat := if r.x ||| r.z = 0 then 0 else (r.x ||| r.z).log2 + 1
def grow (n : Nat) (r : Pa) : List Pa := ((List.range (n - blen r)).map fun k => blen r + k).flatMap fun q => [1, 3, 2].map fun k => prd r (sng k q)
def owt (n : Nat) : Nat → List Pa
  | 0 => [⟨0, 0, 0⟩]
  | m + 1 => (owt n m).flatMap (grow n)
/-- the key of a row -/
def kfR : D → D
  | .tup [.int x, .int z, _] => rnk ⟨x.toNat, z.toNat, 0⟩
  | _ => .non
def srt (l : List Pa) : D := .lst ((l.map Pa.e).mergeSort (PySem.W.dataLe false fun d => (kfR d).pd))
/-- all words, as the law lists them -/
def wds : Nat → List (List Nat)
  | 0 => [[]]
  | n + 1 => [0, 1, 3, 2].flatMap fun k => (wds n).map fun w => w ++ [k]
def lwt (n m : Nat) : List Pa := ((wds n).filter fun w => (w.filter fun k => k != 0).length == m).map fun w => wpa w 0
def sp_of_weight : Spc := fun ds h R _ => ∃ n m : Nat, ds = [.int n, .int m] ∧ n ≤ 3 ∧ m ≤ 3 ∧ R (srt (owt n m)) h
abbrev sp__law_next : Spc := sp_next
def sp__law_word : Spc := fun ds h R _ => ∃ (a : Addr) (n : Nat), ds = [.obj a, .int n] ∧ n ≤ 4 ∧ Tp h a ∧ ∀ w h', Wd w → w.length = n → Tp h' a → But a h h' → R (.str (wstr w)) h'
def sp__law_masks : Spc := fun ds h R _ => ∃ (w : List Nat) (s : Nat), ds = [.str (wstr w), .int s] ∧ Wd w ∧ w.length ≤ 30 ∧ R (wpa w s).e h
def sp__law_acted : Spc := fun ds h R _ => ∃ (w : List Nat) (s : Nat) (bs : List Nat) (t : Nat), ds = [.str (wstr w), .int s, bitsD bs, .int t] ∧ Wd w ∧ w.length ≤ 4 ∧ s < 2 ∧ Bs w.length bs ∧ t < 4 ∧
  R (.tup [bitsD (acb w bs), .int ((t + 2 * s + act w bs) % 4 : Nat)]) h
def sp__law_all_bits : Spc := fun ds h R _ => ∃ n : Nat, ds = [.int n] ∧ n ≤ 4 ∧ ∀ rows : List (List Nat), (∀ r ∈ rows, Bs n r) → R (.lst (rows.map bitsD)) h
def sp__law_pair : Spc := fun ds h R _ => ∃ (w u : List Nat) (s t : Nat), ds = [.tup [.str (wstr w), .int s], .tup [.str (wstr u), .int t]] ∧ Wd w ∧ Wd u ∧ w.length ≤ 4 ∧ u.length = w.length ∧ s < 2 ∧ t < 2 ∧ R (.bl true) h
def sp__law_parts : Spc := fun ds h R _ => ∃ (w : List Nat) (s m p : Nat), ds = [.str (wstr w), .int s, .int m, .int p] ∧ Wd w ∧ w.length ≤ 4 ∧ s < 2 ∧ m < 32 ∧ p < 20 ∧ R (.bl true) h
def sp__law_weights : Spc := fun ds h R _ => ∃ n m : Nat, ds = [.int n, .int m] ∧ n ≤ 3 ∧ m ≤ 3 ∧ R (srt (lwt n m)) h
abbrev sp_law : Spc := sp_true
end K01

set_option Elab.async false
set_option linter.all false
set_option maxRecDepth 100000
namespace K01
open PySem PySem.Spec L2 VL

def w_ones_b1_1 : WS :=
  (wAug 1 opAddI (wC (.int 1)))
def w_ones_b1 : WS :=
  (wSeq (wAug 0 opAnd (wOp opSub (wVar 0) (wC (.int 1))))
  w_ones_b1_1)
def w_ones_t1 : WT :=
  (wB (wVar 0))
def w_ones_2 : WS :=
  (wRet (wVar 1))
def w_ones_1 : WS :=
  (wSeq (wWhile w_ones_t1 w_ones_b1)
  w_ones_2)
def w_ones : WS :=
  (wSeq (wAsg (wC (.int 0)) (gVar 1))
  w_ones_1)
def w_weight : WS :=
  (wRet (wCall sp_ones (wCons (wOp opOr (wIx (wVar 0) (wC (.int 0))) (wIx (wVar 0) (wC (.int 1)))) wNil)))
def w_letter : WS :=
  (wRet (wIx (wC k_NAMES) (wOp opAdd (wOp opAnd (wOp opShr (wIx (wVar 0) (wC (.int 0))) (wVar 1)) (wC (.int 1))) (wOp opMulS (wC (.int 2)) (wOp opAnd (wOp opShr (wIx (wVar 0) (wC (.int 1))) (wVar 1)) (wC (.int 1)))))))
def w_support_1 : WS :=
  (wRet (wLc (wRng1 (wCons (wBits (wVar 1)) wNil)) (gVar 2) (wB (wOp opAnd (wOp opShr (wVar 1) (wVar 2)) (wC (.int 1)))) (wVar 2) [2]))
def w_support : WS :=
  (wSeq (wAsg (wOp opOr (wIx (wVar 0) (wC (.int 0))) (wIx (wVar 0) (wC (.int 1)))) (gVar 1))
  w_support_1)
def w_commutes : WS :=
  (wRet (wOp opEq (wOp opMod (wCall sp_ones (wCons (wOp opAnd (wIx (wVar 0) (wC (.int 0))) (wIx (wVar 1) (wC (.int 1)))) wNil)) (wC (.int 2))) (wOp opMod (wCall sp_ones (wCons (wOp opAnd (wIx (wVar 0) (wC (.int 1))) (wIx (wVar 1) (wC (.int 0)))) wNil)) (wC (.int 2)))))
def w_product_4 : WS :=
  (wRet (wTup (wCons (wVar 2) (wCons (wVar 3) (wCons (wOp opDiv (wVar 4) (wC (.int 2))) wNil)))))
def w_product_3 : WS :=
  (wSeq (wAsg (wOp opMod (wOp opSub (wOp opAdd (wVar 4) (wOp opMulS (wC (.int 2)) (wCall sp_ones (wCons (wOp opAnd (wIx (wVar 0) (wC (.int 1))) (wIx (wVar 1) (wC (.int 0)))) wNil)))) (wCall sp_ones (wCons (wOp opAnd (wVar 2) (wVar 3)) wNil))) (wC (.int 4))) (gVar 4))
  w_product_4)
def w_product_2 : WS :=
  (wSeq (wAsg (wOp opAdd (wOp opAdd (wOp opMulS (wC (.int 2)) (wOp opAdd (wIx (wVar 0) (wC (.int 2))) (wIx (wVar 1) (wC (.int 2))))) (wCall sp_ones (wCons (wOp opAnd (wIx (wVar 0) (wC (.int 0))) (wIx (wVar 0) (wC (.int 1)))) wNil))) (wCall sp_ones (wCons (wOp opAnd (wIx (wVar 1) (wC (.int 0))) (wIx (wVar 1) (wC (.int 1)))) wNil))) (gVar 4))
  w_product_3)
def w_product_1 : WS :=
  (wSeq (wAsg (wOp opXor (wIx (wVar 0) (wC (.int 1))) (wIx (wVar 1) (wC (.int 1)))) (gVar 3))
  w_product_2)
def w_product : WS :=
  (wSeq (wAsg (wOp opXor (wIx (wVar 0) (wC (.int 0))) (wIx (wVar 1) (wC (.int 0)))) (gVar 2))
  w_product_1)
def w_part : WS :=
  (wRet (wTup (wCons (wOp opAnd (wIx (wVar 0) (wC (.int 0))) (wVar 1)) (wCons (wOp opAnd (wIx (wVar 0) (wC (.int 1))) (wVar 1)) (wCons (wC (.int 0)) wNil)))))
def w_shifted : WS :=
  (wRet (wTup (wCons (wOp opShl (wIx (wVar 0) (wC (.int 0))) (wVar 1)) (wCons (wOp opShl (wIx (wVar 0) (wC (.int 1))) (wVar 1)) (wCons (wIx (wVar 0) (wC (.int 2))) wNil)))))
def w_single_1 : WS :=
  (wRet (wTup (wCons (wOp opShl (wOp opAnd (wVar 2) (wC (.int 1))) (wVar 1)) (wCons (wOp opShl (wOp opShr (wVar 2) (wC (.int 1))) (wVar 1)) (wCons (wC (.int 0)) wNil)))))
def w_single : WS :=
  (wSeq (wAsg (wM1 mIndex (wC k_NAMES) (wVar 0)) (gVar 2))
  w_single_1)
def w_rank : WS :=
  (wRet (wTup (wCons (wCall sp_weight (wCons (wVar 0) wNil)) (wCons (wIx (wVar 0) (wC (.int 0))) (wCons (wIx (wVar 0) (wC (.int 1))) wNil)))))
def w_of_weight_b4 : WS :=
  (wApp 4 (wCall sp_product (wCons (wVar 5) (wCons (wCall sp_single (wCons (wVar 7) (wCons (wVar 6) wNil))) wNil))))
def w_of_weight_b3 : WS :=
  (wFor (wItS (wC (.str "XYZ"))) (gVar 7) w_of_weight_b4)
def w_of_weight_b2 : WS :=
  (wFor (wRng2 (wCons (wBits (wOp opOr (wIx (wVar 5) (wC (.int 0))) (wIx (wVar 5) (wC (.int 1))))) (wCons (wVar 0) wNil))) (gVar 6) w_of_weight_b3)
def w_of_weight_b1_2 : WS :=
  (wAsg (wVar 4) (gVar 2))
def w_of_weight_b1_1 : WS :=
  (wSeq (wFor (wItL (wVar 2)) (gVar 5) w_of_weight_b2)
  w_of_weight_b1_2)
def w_of_weight_b1 : WS :=
  (wSeq (wSetO 4 (wLst wNil))
  w_of_weight_b1_1)
def w_of_weight_2 : WS :=
  (wRet (wSortF sp_rank (wVar 2)))
def w_of_weight_1 : WS :=
  (wSeq (wFor (wRng1 (wCons (wVar 1) wNil)) (gVar 3) w_of_weight_b1)
  w_of_weight_2)
def w_of_weight : WS :=
  (wSeq (wAsg (wLst (wCons (wTup (wCons (wC (.int 0)) (wCons (wC (.int 0)) (wCons (wC (.int 0)) wNil)))) wNil)) (gVar 2))
  w_of_weight_1)
def w__law_next_6 : WS :=
  (wRet (wOp opMod (wCB bInt (wCons (wOp opDiv (wOp opMod (wOp opMulS (wIx (wVar 0) (wC (.int 3))) (wC (.int 16807))) (wC (.int 2147483647))) (wC (.int 7))) wNil)) (wVar 1)))
def w__law_next_5 : WS :=
  (wSeq (wAsg (wOp opMod (wCB bInt (wCons (wOp opAdd (wOp opAdd (wOp opMulS (wIx (wVar 0) (wC (.int 3))) (wC (.int 48271))) (wOp opMulS (wVar 3) (wC (.int 69621)))) (wC (.int 11))) wNil)) (wC (.int 2147483647))) (gIxM (wVar 0) (wC (.int 3))))
  w__law_next_6)
def w__law_next_4 : WS :=
  (wSeq (wIfS (wBb (wOp opGe (wVar 3) (wOp opPow (wC (.int 10)) (wC (.int 18))))) (wSeq (wAsg (wOp opDiv (wVar 3) (wVar 1)) (gIxM (wVar 0) (wC (.int 2))))
  (wRet (wOp opMod (wCB bInt (wCons (wVar 3) wNil)) (wVar 1)))) wNext)
  w__law_next_5)
def w__law_next_3 : WS :=
  (wSeq (wIfS (wBb (wOp opLt (wIx (wVar 0) (wC (.int 1))) (wCB bLen (wCons (wIx (wVar 0) (wC (.int 0))) wNil)))) (wSeq (wAsg (wCB bAbs (wCons (wIx (wIx (wVar 0) (wC (.int 0))) (wIx (wVar 0) (wC (.int 1)))) wNil)) (gVar 3))
  (wAugM (wVar 0) (wC (.int 1)) opAddI (wC (.int 1)))) wNext)
  w__law_next_4)
def w__law_next_2 : WS :=
  (wSeq (wAsg (wC (.int 0)) (gVar 3))
  w__law_next_3)
def w__law_next_1 : WS :=
  (wSeq (wIfS (wBb (wOp opGt (wVar 2) (wC (.int 0)))) (wSeq (wAsg (wOp opDiv (wVar 2) (wVar 1)) (gIxM (wVar 0) (wC (.int 2))))
  (wRet (wOp opMod (wCB bInt (wCons (wVar 2) wNil)) (wVar 1)))) wNext)
  w__law_next_2)
def w__law_next : WS :=
  (wSeq (wAsg (wIx (wVar 0) (wC (.int 2))) (gVar 2))
  w__law_next_1)
def w__law_word : WS :=
  (wRet (wM1 mJoin (wC (.str "")) (wLc (wRng1 (wCons (wVar 1) wNil)) (gVar 2) wYes (wIx (wC (.str "IXYZ")) (wCall sp__law_next (wCons (wVar 0) (wCons (wC (.int 4)) wNil)))) [2])))
def w__law_masks_2 : WS :=
  (wRet (wTup (wCons (wVar 2) (wCons (wVar 3) (wCons (wVar 1) wNil)))))
def w__law_masks_1 : WS :=
  (wSeq (wAsg (wCB bSum (wCons (wLc (wRng1 (wCons (wCB bLen (wCons (wVar 0) wNil)) wNil)) (gVar 4) (wBb (wOp opInD (wIx (wVar 0) (wVar 4)) (wC (.str "ZY")))) (wOp opShl (wC (.int 1)) (wVar 4)) [4]) wNil)) (gVar 3))
  w__law_masks_2)
def w__law_masks : WS :=
  (wSeq (wAsg (wCB bSum (wCons (wLc (wRng1 (wCons (wCB bLen (wCons (wVar 0) wNil)) wNil)) (gVar 4) (wBb (wOp opInD (wIx (wVar 0) (wVar 4)) (wC (.str "XY")))) (wOp opShl (wC (.int 1)) (wVar 4)) [4]) wNil)) (gVar 2))
  w__law_masks_1)
def w__law_acted_b1_2 : WS :=
  (wIfS (wBb (wOp opInD (wIx (wVar 0) (wVar 4)) (wC (.str "XY")))) (wAsg (wOp opSub (wC (.int 1)) (wIxO 2 (wVar 4))) (gIxO 2 (wVar 4))) wNext)
def w__law_acted_b1_1 : WS :=
  (wSeq (wIfS (wBb (wOp opEq (wIx (wVar 0) (wVar 4)) (wC (.str "Z")))) (wAsg (wOp opAdd (wVar 3) (wOp opMulS (wC (.int 2)) (wIxO 2 (wVar 4)))) (gVar 3)) wNext)
  w__law_acted_b1_2)
def w__law_acted_b1 : WS :=
  (wSeq (wIfS (wBb (wOp opEq (wIx (wVar 0) (wVar 4)) (wC (.str "Y")))) (wAsg (wOp opAdd (wOp opAdd (wVar 3) (wC (.int 1))) (wOp opMulS (wC (.int 2)) (wIxO 2 (wVar 4)))) (gVar 3)) wNext)
  w__law_acted_b1_1)
def w__law_acted_3 : WS :=
  (wRet (wTup (wCons (wCB bTup (wCons (wVar 2) wNil)) (wCons (wOp opMod (wVar 3) (wC (.int 4))) wNil))))
def w__law_acted_2 : WS :=
  (wSeq (wFor (wRng1 (wCons (wCB bLen (wCons (wVar 0) wNil)) wNil)) (gVar 4) w__law_acted_b1)
  w__law_acted_3)
def w__law_acted_1 : WS :=
  (wSeq (wSetO 2 (wCB bLstS (wCons (wVar 2) wNil)))
  w__law_acted_2)
def w__law_acted : WS :=
  (wSeq (wAsg (wOp opAdd (wVar 3) (wOp opMulS (wC (.int 2)) (wVar 1))) (gVar 3))
  w__law_acted_1)
def w__law_all_bits_b1 : WS :=
  (wAsg (wOp opAdd (wLc (wItL (wVar 1)) (gVar 3) wYes (wOp opAdd (wVar 3) (wTup (wCons (wC (.int 0)) wNil))) [3]) (wLc (wItL (wVar 1)) (gVar 3) wYes (wOp opAdd (wVar 3) (wTup (wCons (wC (.int 1)) wNil))) [3])) (gVar 1))
def w__law_all_bits_2 : WS :=
  (wRet (wVar 1))
def w__law_all_bits_1 : WS :=
  (wSeq (wFor (wRng1 (wCons (wVar 0) wNil)) (gVar 2) w__law_all_bits_b1)
  w__law_all_bits_2)
def w__law_all_bits : WS :=
  (wSeq (wAsg (wLst (wCons (wTup wNil) wNil)) (gVar 1))
  w__law_all_bits_1)
def w__law_pair_b1_1 : WS :=
  (wIfS (wBb (wOp opNe (wCall sp__law_acted (wCons (wIx (wVar 0) (wC (.int 0))) (wCons (wIx (wVar 0) (wC (.int 1))) (wCons (wVar 9) (wCons (wVar 10) wNil))))) (wCall sp__law_acted (wCons (wVar 5) (wCons (wIx (wVar 4) (wC (.int 2))) (wCons (wVar 6) (wCons (wC (.int 0)) wNil))))))) (wRet (wC (.bl false))) wNext)
def w__law_pair_b1 : WS :=
  (wSeq (wAsg (wCall sp__law_acted (wCons (wIx (wVar 1) (wC (.int 0))) (wCons (wIx (wVar 1) (wC (.int 1))) (wCons (wVar 6) (wCons (wOp opMulS (wOp opMod (wVar 3) (wC (.int 2))) (wC (.int 3))) wNil))))) (gTp 2 (gsCons (gVar 9) (gsCons (gVar 10) gsNil))))
  w__law_pair_b1_1)
def w__law_pair_8 : WS :=
  (wRet (wC (.bl true)))
def w__law_pair_7 : WS :=
  (wSeq (wFor (wItL (wCall sp__law_all_bits (wCons (wVar 2) wNil))) (gVar 6) w__law_pair_b1)
  w__law_pair_8)
def w__law_pair_6 : WS :=
  (wSeq (wIfS (wOr (wBb (wOp opNe (wVar 4) (wCall sp__law_masks (wCons (wVar 5) (wCons (wIx (wVar 4) (wC (.int 2))) wNil))))) (wBb (wOp opNotInD (wIx (wVar 4) (wC (.int 2))) (wTup (wCons (wC (.int 0)) (wCons (wC (.int 1)) wNil)))))) (wRet (wC (.bl false))) wNext)
  w__law_pair_7)
def w__law_pair_5 : WS :=
  (wSeq (wAsg (wM1 mJoin (wC (.str "")) (wLc (wRng1 (wCons (wVar 2) wNil)) (gVar 11) wYes (wCall sp_letter (wCons (wVar 4) (wCons (wVar 11) wNil))) [11])) (gVar 5))
  w__law_pair_6)
def w__law_pair_4 : WS :=
  (wSeq (wIfS (wOr (wBb (wOp opNe (wCall sp_commutes (wCons (wVar 7) (wCons (wVar 8) wNil))) (wOp opEq (wOp opMod (wVar 3) (wC (.int 2))) (wC (.int 0))))) (wBb (wOp opNe (wCall sp_commutes (wCons (wVar 8) (wCons (wVar 7) wNil))) (wOp opEq (wOp opMod (wVar 3) (wC (.int 2))) (wC (.int 0)))))) (wRet (wC (.bl false))) wNext)
  w__law_pair_5)
def w__law_pair_3 : WS :=
  (wSeq (wAsg (wCall sp_product (wCons (wVar 7) (wCons (wVar 8) wNil))) (gVar 4))
  w__law_pair_4)
def w__law_pair_2 : WS :=
  (wSeq (wAsg (wCB bLen (wCons (wLc (wRng1 (wCons (wVar 2) wNil)) (gVar 11) (wAnd (wBb (wOp opNotInD (wC (.str "I")) (wTup (wCons (wIx (wIx (wVar 0) (wC (.int 0))) (wVar 11)) (wCons (wIx (wIx (wVar 1) (wC (.int 0))) (wVar 11)) wNil))))) (wBb (wOp opNe (wIx (wIx (wVar 0) (wC (.int 0))) (wVar 11)) (wIx (wIx (wVar 1) (wC (.int 0))) (wVar 11))))) (wVar 11) [11]) wNil)) (gVar 3))
  w__law_pair_3)
def w__law_pair_1 : WS :=
  (wSeq (wPar 7 8 (wCons (wCall sp__law_masks (wCons (wIx (wVar 0) (wC (.int 0))) (wCons (wIx (wVar 0) (wC (.int 1))) wNil))) (wCons (wCall sp__law_masks (wCons (wIx (wVar 1) (wC (.int 0))) (wCons (wIx (wVar 1) (wC (.int 1))) wNil))) wNil)))
  w__law_pair_2)
def w__law_pair : WS :=
  (wSeq (wAsg (wCB bLen (wCons (wIx (wVar 0) (wC (.int 0))) wNil)) (gVar 2))
  w__law_pair_1)
def w__law_parts_b1 : WS :=
  (wIfS (wBb (wOp opNe (wCall sp_single (wCons (wIx (wVar 0) (wVar 7)) (wCons (wVar 7) wNil))) (wCall sp__law_masks (wCons (wOp opAdd (wOp opMulS (wC (.str "I")) (wVar 7)) (wIx (wVar 0) (wVar 7))) (wCons (wC (.int 0)) wNil))))) (wRet (wC (.bl false))) wNext)
def w__law_parts_6 : WS :=
  (wRet (wOp opEq (wLc (wRng1 (wCons (wOp opAdd (wCB bLen (wCons (wVar 0) wNil)) (wC (.int 2))) wNil)) (gVar 7) wYes (wCall sp_letter (wCons (wVar 4) (wCons (wVar 7) wNil))) [7]) (wOp opAdd (wCB bLstS (wCons (wVar 0) wNil)) (wLst (wCons (wC (.str "I")) (wCons (wC (.str "I")) wNil))))))
def w__law_parts_5 : WS :=
  (wSeq (wFor (wItL (wVar 6)) (gVar 7) w__law_parts_b1)
  w__law_parts_6)
def w__law_parts_4 : WS :=
  (wSeq (wIfS (wOr (wBb (wOp opNe (wCall sp_support (wCons (wVar 4) wNil)) (wVar 6))) (wOr (wBb (wOp opNe (wCall sp_weight (wCons (wVar 4) wNil)) (wCB bLen (wCons (wVar 6) wNil)))) (wBb (wOp opNe (wCall sp_rank (wCons (wVar 4) wNil)) (wTup (wCons (wCB bLen (wCons (wVar 6) wNil)) (wCons (wIx (wVar 4) (wC (.int 0))) (wCons (wIx (wVar 4) (wC (.int 1))) wNil)))))))) (wRet (wC (.bl false))) wNext)
  w__law_parts_5)
def w__law_parts_3 : WS :=
  (wSeq (wIfS (wOr (wBb (wOp opNe (wCall sp_part (wCons (wVar 4) (wCons (wVar 2) wNil))) (wCall sp__law_masks (wCons (wVar 5) (wCons (wC (.int 0)) wNil))))) (wBb (wOp opNe (wCall sp_shifted (wCons (wVar 4) (wCons (wVar 3) wNil))) (wCall sp__law_masks (wCons (wOp opAdd (wOp opMulS (wC (.str "I")) (wVar 3)) (wVar 0)) (wCons (wVar 1) wNil)))))) (wRet (wC (.bl false))) wNext)
  w__law_parts_4)
def w__law_parts_2 : WS :=
  (wSeq (wAsg (wLc (wRng1 (wCons (wCB bLen (wCons (wVar 0) wNil)) wNil)) (gVar 7) (wBb (wOp opNe (wIx (wVar 0) (wVar 7)) (wC (.str "I")))) (wVar 7) [7]) (gVar 6))
  w__law_parts_3)
def w__law_parts_1 : WS :=
  (wSeq (wAsg (wM1 mJoin (wC (.str "")) (wLc (wRng1 (wCons (wCB bLen (wCons (wVar 0) wNil)) wNil)) (gVar 7) wYes (wIf (wBb (wOp opEq (wOp opMod (wOp opDiv (wVar 2) (wOp opShl (wC (.int 1)) (wVar 7))) (wC (.int 2))) (wC (.int 1)))) (wIx (wVar 0) (wVar 7)) (wC (.str "I"))) [7])) (gVar 5))
  w__law_parts_2)
def w__law_parts : WS :=
  (wSeq (wAsg (wCall sp__law_masks (wCons (wVar 0) (wCons (wVar 1) wNil))) (gVar 4))
  w__law_parts_1)
def w__law_weights_b2 : WS :=
  (wAsg (wOp opAdd (wVar 5) (wLc (wItL (wVar 2)) (gVar 7) wYes (wOp opAdd (wVar 7) (wVar 6)) [7])) (gVar 5))
def w__law_weights_b1_2 : WS :=
  (wAsg (wVar 5) (gVar 2))
def w__law_weights_b1_1 : WS :=
  (wSeq (wFor (wItS (wC (.str "IXYZ"))) (gVar 6) w__law_weights_b2)
  w__law_weights_b1_2)
def w__law_weights_b1 : WS :=
  (wSeq (wAsg (wLst wNil) (gVar 5))
  w__law_weights_b1_1)
def w__law_weights_3 : WS :=
  (wRet (wSortF sp_rank (wVar 4)))
def w__law_weights_2 : WS :=
  (wSeq (wAsg (wLc (wItL (wVar 2)) (gVar 7) (wBb (wOp opEq (wCB bLen (wCons (wLc (wItS (wVar 7)) (gVar 6) (wBb (wOp opNe (wVar 6) (wC (.str "I")))) (wVar 6) [6]) wNil)) (wVar 1))) (wCall sp__law_masks (wCons (wVar 7) (wCons (wC (.int 0)) wNil))) [7]) (gVar 4))
  w__law_weights_3)
def w__law_weights_1 : WS :=
  (wSeq (wFor (wRng1 (wCons (wVar 0) wNil)) (gVar 3) w__law_weights_b1)
  w__law_weights_2)
def w__law_weights : WS :=
  (wSeq (wAsg (wLst (wCons (wC (.str "")) wNil)) (gVar 2))
  w__law_weights_1)
def w_law_b1_3 : WS :=
  (wIfS (wNot (wB (wCall sp__law_parts (wCons (wIx (wVar 6) (wC (.int 0))) (wCons (wIx (wVar 6) (wC (.int 1))) (wCons (wCall sp__law_next (wCons (wVar 1) (wCons (wC (.int 32)) wNil))) (wCons (wCall sp__law_next (wCons (wVar 1) (wCons (wC (.int 20)) wNil))) wNil))))))) (wRet (wC (.bl false))) wNext)
def w_law_b1_2 : WS :=
  (wSeq (wIfS (wOr (wNot (wB (wCall sp__law_pair (wCons (wVar 6) (wCons (wVar 7) wNil))))) (wNot (wB (wCall sp__law_pair (wCons (wVar 6) (wCons (wVar 6) wNil)))))) (wRet (wC (.bl false))) wNext)
  w_law_b1_3)
def w_law_b1_1 : WS :=
  (wSeq (wAsg (wTup (wCons (wCall sp__law_word (wCons (wVar 1) (wCons (wVar 2) wNil))) (wCons (wCall sp__law_next (wCons (wVar 1) (wCons (wC (.int 2)) wNil))) wNil))) (gVar 7))
  w_law_b1_2)
def w_law_b1 : WS :=
  (wSeq (wAsg (wTup (wCons (wCall sp__law_word (wCons (wVar 1) (wCons (wVar 2) wNil))) (wCons (wCall sp__law_next (wCons (wVar 1) (wCons (wC (.int 2)) wNil))) wNil))) (gVar 6))
  w_law_b1_1)
def w_law_5 : WS :=
  (wRet (wOp opEq (wCall sp_of_weight (wCons (wVar 4) (wCons (wVar 5) wNil))) (wCall sp__law_weights (wCons (wVar 4) (wCons (wVar 5) wNil)))))
def w_law_4 : WS :=
  (wSeq (wAsg (wCall sp__law_next (wCons (wVar 1) (wCons (wOp opAdd (wVar 4) (wC (.int 1))) wNil))) (gVar 5))
  w_law_5)
def w_law_3 : WS :=
  (wSeq (wAsg (wOp opAdd (wC (.int 1)) (wOp opMod (wVar 2) (wC (.int 3)))) (gVar 4))
  w_law_4)
def w_law_2 : WS :=
  (wSeq (wFor (wRng1 (wCons (wOp opAdd (wC (.int 1)) (wCall sp__law_next (wCons (wVar 1) (wCons (wC (.int 5)) wNil)))) wNil)) (gVar 3) w_law_b1)
  w_law_3)
def w_law_1 : WS :=
  (wSeq (wAsg (wOp opAdd (wC (.int 1)) (wCall sp__law_next (wCons (wVar 1) (wCons (wC (.int 4)) wNil)))) (gVar 2))
  w_law_2)
def w_law : WS :=
  (wSeq (wSetM 1 (wLst (wCons (wCB bLstS (wCons (wVar 0) wNil)) (wCons (wC (.int 0)) (wCons (wC (.int 0)) (wCons (wC (.int 3)) wNil))))))
  w_law_1)
end K01

set_option Elab.async false
set_option linter.all false
set_option maxRecDepth 100000
set_option maxHeartbeats 400000
namespace K01
open PySem PySem.Spec PyProof.Rows L2 VL VL.P
theorem pk__law_next : Pk 2 2 sp__law_next w__law_next := pk_nextS
theorem pk_ones : Pk 1 1 sp_ones w_ones := VL.P.pk_ones
theorem pk_weight : Pk 1 0 sp_weight w_weight := VL.P.pk_weight
theorem pk_letter : Pk 2 0 sp_letter w_letter := VL.P.pk_letter
theorem pk_support : Pk 1 2 sp_support w_support := VL.P.pk_support
theorem pk_commutes : Pk 2 0 sp_commutes w_commutes := VL.P.pk_commutes
theorem pk_product : Pk 2 3 sp_product w_product := VL.P.pk_product
theorem pk_part : Pk 2 0 sp_part w_part := VL.P.pk_part
theorem pk_shifted : Pk 2 0 sp_shifted w_shifted := VL.P.pk_shifted
theorem pk_single : Pk 2 1 sp_single w_single := VL.P.pk_single
theorem pk_rank : Pk 1 0 sp_rank w_rank := VL.P.pk_rank
/-! ### words -/
theorem wstr_len (w : List Nat) : (wstr w).length = w.length := by
  show ((w.map ch).toArray).size = _
  rw [List.size_toArray, List.length_map]
theorem wstr_line {w : List Nat} (h : w.length ≤ 30) : (wstr w).length ≤ sizeLine := by
  rw [wstr_len]
  have := sizeLine_eq
  omega
theorem atI_nat {α : Type} {xs : List α} {k : Nat} {x : α} (h : xs[k]? = some x) : atI xs (k : Int) = some x := by
  obtain ⟨h1, _⟩ := List.getElem?_eq_some_iff.mp h
  unfold atI ixN
  rw [if_pos (Int.natCast_nonneg k), if_pos (by omega)]
  exact h
theorem wstr_at {w : List Nat} {i k : Nat} (h : w[i]? = some k) : atI (wstr w).cps.toList (i : Int) = some (ch k) := by
  refine atI_nat ?_
  show (w.map ch)[i]? = _
  rw [List.getElem?_map, h]
  rfl
theorem ch_in {k : Nat} (h : k < 4) : (!(Builtin.Str.occurrences (Str.ofString "XY") ⟨#[ch k]⟩ 0 (Str.ofString "XY").length 1).isEmpty) = (bx k == 1) := by
  have c : k = 0 ∨ k = 1 ∨ k = 2 ∨ k = 3 := by omega
  rcases c with rfl | rfl | rfl | rfl <;> decide +kernel
theorem ch_inz {k : Nat} (h : k < 4) : (!(Builtin.Str.occurrences (Str.ofString "ZY") ⟨#[ch k]⟩ 0 (Str.ofString "ZY").length 1).isEmpty) = (bz k == 1) := by
  have c : k = 0 ∨ k = 1 ∨ k = 2 ∨ k = 3 := by omega
  rcases c with rfl | rfl | rfl | rfl <;> decide +kernel
/-- the powers that b picks -/
def pks (b : Nat → Nat) (w : List Nat) : D → Option D
  | .int i => if (match w[i.toNat]? with | some k => b k == 1 | none => false) then some (.int ((2 ^ i.toNat : Nat) : Int)) else none
  | _ => none
theorem pks_list (b : Nat → Nat) (w : List Nat) : ∀ (l : List Nat), ∃ ns : List Nat, (l.map fun k => D.int (k : Nat)).filterMap (pks b w) = ns.map (fun n => .int (n : Nat)) ∧ ns = (l.filter fun i => match w[i]? with | some k => b k == 1 | none => false).map (2 ^ ·)
  | [] => ⟨[], rfl, rfl⟩
  | a :: l => by
    obtain ⟨ns, h1, h2⟩ := pks_list b w l
    have e : pks b w (.int (a : Nat)) = if (match w[a]? with | some k => b k == 1 | none => false) then some (.int ((2 ^ a : Nat) : Int)) else none := rfl
    rw [List.map_cons, List.filterMap_cons, e, h1]
    refine ⟨_, ?_, rfl⟩
    rw [List.filter_cons, h2]
    cases (match w[a]? with | some k => b k == 1 | none => false) <;> rfl
theorem pks_sum (b : Nat → Nat) (hb : ∀ k, b k < 2 ∨ True) : ∀ (w : List Nat), (∀ k ∈ w, b k < 2) → (((List.range w.length).filter fun i => match w[i]? with | some k => b k == 1 | none => false).map (2 ^ ·)).sum = wm b w
  | [], _ => rfl
  | k :: w, h => by
    have ih := pks_sum b hb w fun x hx => h x (List.mem_cons_of_mem _ hx)
    have hk := h k List.mem_cons_self
    rw [List.length_cons, List.range_succ_eq_map, List.filter_cons, List.filter_map]
    have e : (((List.range w.length).filter ((fun i => match (k :: w)[i]? with | some k => b k == 1 | none => false) ∘ Nat.succ)).map Nat.succ).map (2 ^ ·) = (((List.range w.length).filter fun i => match w[i]? with | some k => b k == 1 | none => false).map (2 ^ ·)).map (2 * ·) := by
      rw [List.map_map, List.map_map]
      refine List.map_congr_left fun x _ => ?_
      show 2 ^ (x + 1) = 2 * 2 ^ x
      rw [Nat.pow_succ, Nat.mul_comm]
    have e2 : ∀ l : List Nat, (l.map (2 * ·)).sum = 2 * l.sum := fun l => by
      induction l with
      | nil => rfl
      | cons a l ih => rw [List.map_cons, List.sum_cons, List.sum_cons, ih]; omega
    have e3 : ∀ l : List Nat, (List.map (2 ^ ·) (if (b k == 1) = true then 0 :: l else l)).sum = b k + (List.map (2 ^ ·) l).sum := fun l => by
      rcases m2 _ hk with q | q
      · rw [q]; simp
      · rw [q]; simp
    refine (e3 _).trans ?_
    rw [e, e2, ih]
    rfl
end K01

set_option Elab.async false
set_option linter.all false
set_option maxRecDepth 100000
set_option maxHeartbeats 400000
namespace K01
open PySem PySem.Spec PyProof.Rows L2 VL VL.P
theorem sum_cast : ∀ ns : List Nat, (ns.map fun (n : Nat) => (n : Int)).sum = ((ns.sum : Nat) : Int)
  | [] => rfl
  | n :: ns => by rw [List.map_cons, List.sum_cons, List.sum_cons, sum_cast ns]; omega
theorem get4 {w : List Nat} (hw : Wd w) {i : Nat} (h : i < w.length) : ∃ k, w[i]? = some k ∧ k < 4 := ⟨w[i], List.getElem?_eq_getElem h, hw _ (List.getElem_mem h)⟩
theorem bx_lt {k : Nat} : bx k < 2 := Nat.mod_lt _ (by decide)
theorem bz_lt {k : Nat} (h : k < 4) : bz k < 2 := by unfold bz; omega
theorem pks_at {b : Nat → Nat} {w : List Nat} {i k : Nat} (h : w[i]? = some k) : pks b w (.int (i : Nat)) = if (b k == 1) then some (.int ((2 ^ i : Nat) : Int)) else none := by
  show (if (match w[i]? with | some k => b k == 1 | none => false) then _ else _) = _
  rw [h]
  rfl
theorem range_mem {n : Nat} {x : D} (h : x ∈ (List.range ((n : Nat) : Int).toNat).map fun k => D.int (k : Nat)) : ∃ i < n, x = .int (i : Nat) := by
  obtain ⟨i, hi, rfl⟩ := List.mem_map.mp h
  rw [Int.toNat_natCast, List.mem_range] at hi
  exact ⟨i, hi, rfl⟩
theorem pk__law_masks : Pk 2 3 sp__law_masks w__law_masks := by
  rintro ds h R _ ⟨w, s, rfl, hw, hl, hR⟩
  have l1 := wstr_line hl
  have l0 := wstr_len w
  have bd : (-(2 : Int) ^ 62) ≤ ((wstr w).length : Nat) ∧ (((wstr w).length : Nat) : Int) < 2 ^ 62 := by rw [l0]; constructor <;> omega
  refine ⟨l1, bd, rfl, ?_, ?_⟩
  · show ((List.range (((wstr w).length : Nat) : Int).toNat).map _).length ≤ 1000000
    rw [List.length_map, List.length_range, l0]
    omega
  refine lcL_run (pks bx w) _ _ (fun x hx C hC => ?_) ?_
  · obtain ⟨i, hi, rfl⟩ := range_mem hx
    rw [l0] at hi
    obtain ⟨k, hk, k4⟩ := get4 hw hi
    rw [pks_at hk] at hC
    refine ⟨l1, ch k, wstr_at hk, ?_⟩
    refine br (fun e => ?_) (fun e => ?_)
    · rw [(ch_in k4).symm.trans e] at hC
      refine ⟨shl_ok (n := 1) (by decide) (by omega), rfl, ?_⟩
      have e1 : (1 : Int) * 2 ^ ((i : Nat) : Int).toNat = ((2 ^ i : Nat) : Int) := by rw [show (1 : Int) = ((1 : Nat) : Int) from rfl, shl_nn, Nat.one_mul]
      show C (some (.int ((1 : Int) * 2 ^ ((i : Nat) : Int).toNat))) h
      rw [e1]
      exact hC
    · rw [(ch_in k4).symm.trans e] at hC
      exact ⟨rfl, hC⟩
  obtain ⟨ns, n1, n2⟩ := pks_list bx w (List.range w.length)
  have hs : ns.sum = wm bx w := by rw [n2]; exact pks_sum bx (fun _ => .inr trivial) w fun k _ => bx_lt
  refine ⟨ns.map fun (n : Nat) => (n : Int), ?_, ?_⟩
  · show [] ++ List.filterMap (pks bx w) ((List.range (((wstr w).length : Nat) : Int).toNat).map _) = _
    rw [Int.toNat_natCast, l0, List.nil_append, n1, List.map_map]
    rfl
  rw [sum_cast, hs]
  change w__law_masks_1 (Fi R) ⟨[.f (.str (wstr w)), .f (.int s), .f (.int (wm bx w : Nat)), .u, .u], h⟩
  refine ⟨l1, bd, rfl, ?_, ?_⟩
  · show ((List.range (((wstr w).length : Nat) : Int).toNat).map _).length ≤ 1000000
    rw [List.length_map, List.length_range, l0]
    omega
  refine lcL_run (pks bz w) _ _ (fun x hx C hC => ?_) ?_
  · obtain ⟨i, hi, rfl⟩ := range_mem hx
    rw [l0] at hi
    obtain ⟨k, hk, k4⟩ := get4 hw hi
    rw [pks_at hk] at hC
    refine ⟨l1, ch k, wstr_at hk, ?_⟩
    refine br (fun e => ?_) (fun e => ?_)
    · rw [(ch_inz k4).symm.trans e] at hC
      refine ⟨shl_ok (n := 1) (by decide) (by omega), rfl, ?_⟩
      have e1 : (1 : Int) * 2 ^ ((i : Nat) : Int).toNat = ((2 ^ i : Nat) : Int) := by rw [show (1 : Int) = ((1 : Nat) : Int) from rfl, shl_nn, Nat.one_mul]
      show C (some (.int ((1 : Int) * 2 ^ ((i : Nat) : Int).toNat))) h
      rw [e1]
      exact hC
    · rw [(ch_inz k4).symm.trans e] at hC
      exact ⟨rfl, hC⟩
  obtain ⟨ns, n1, n2⟩ := pks_list bz w (List.range w.length)
  have hs : ns.sum = wm bz w := by rw [n2]; exact pks_sum bz (fun _ => .inr trivial) w fun k hk => bz_lt (hw k hk)
  refine ⟨ns.map fun (n : Nat) => (n : Int), ?_, ?_⟩
  · show [] ++ List.filterMap (pks bz w) ((List.range (((wstr w).length : Nat) : Int).toNat).map _) = _
    rw [Int.toNat_natCast, l0, List.nil_append, n1, List.map_map]
    rfl
  rw [sum_cast, hs]
  exact hR
end K01

set_option Elab.async false
set_option linter.all false
set_option maxRecDepth 100000
set_option maxHeartbeats 400000
namespace VL
open PySem PySem.Spec PyProof.Rows L2
/-- a comprehension by an invariant: P of how many turns, the items so far, the objects -/
theorem lcL_inv {g : WG} {tt : WT} {te : WE} {vs : List Nat} {s0 : List Sl} {R : List D → Oh → Prop} (P : Nat → List D → Oh → Prop) : ∀ (xs : List D) (j : Nat) (acc : List D) (h : Oh), P j acc h →
    (∀ x ∈ xs, ∀ j acc h, P j acc h → ∀ C : Option D → Oh → Prop, (∀ d h', P (j + 1) (acc ++ [d]) h' → C (some d) h') → (∀ h', P (j + 1) acc h' → C none h') →
      g x ⟨wipeS s0 vs, h⟩ fun S1 => tt S1 fun b S2 => Br b (te S2 fun d S3 => wipeS S3.s vs = wipeS s0 vs ∧ C (some d) S3.h) (wipeS S2.s vs = wipeS s0 vs ∧ C none S2.h)) →
    (∀ acc h, P (j + xs.length) acc h → R acc h) → wLcL g tt te vs s0 R xs h acc
  | [], j, acc, h, hp, _, hR => hR acc h hp
  | x :: xs, j, acc, h, hp, hs, hR => by
    have ih := fun a h' (q : P (j + 1) a h') => lcL_inv (g := g) (tt := tt) (te := te) (vs := vs) (s0 := s0) (R := R) P xs (j + 1) a h' q (fun y hy => hs y (List.mem_cons_of_mem _ hy)) fun acc h q => hR acc h (by rw [List.length_cons, show j + (xs.length + 1) = j + 1 + xs.length by omega]; exact q)
    exact hs x List.mem_cons_self j acc h hp (fun o h' => wLcL g tt te vs s0 R xs h' (match o with | some d => acc ++ [d] | none => acc)) (fun d h' q => ih _ _ q) (fun h' q => ih _ _ q)
end VL
namespace K01
open PySem PySem.Spec PyProof.Rows L2 VL VL.P
theorem join_signs : ∀ (l : List Nat) (a : Array Nat), (l.map fun c => (⟨#[c]⟩ : Str)).foldl (fun acc p => acc ++ (Str.ofString "").cps ++ p.cps) a = a ++ l.toArray
  | [], a => by simp
  | c :: l, a => by
    have e : (Str.ofString "").cps = #[] := rfl
    rw [List.map_cons, List.foldl_cons, join_signs l, e]
    simp
theorem join_ch (l : List Nat) : Txt.join (Str.ofString "") (l.map fun c => (⟨#[c]⟩ : Str)) = ⟨l.toArray⟩ := by
  cases l with
  | nil => rfl
  | cons c l =>
    show (⟨(l.map fun c => (⟨#[c]⟩ : Str)).foldl (fun acc p => acc ++ (Str.ofString "").cps ++ p.cps) #[c]⟩ : Str) = _
    rw [join_signs]
    simp
def wss (w : List Nat) : List Str := w.map fun k => ⟨#[ch k]⟩
theorem join_w (w : List Nat) : Txt.join (Str.ofString "") (wss w) = wstr w := by
  have := join_ch (w.map ch)
  rw [List.map_map] at this
  exact this
theorem wss_sum : ∀ w : List Nat, ((wss w).map (·.length)).sum = w.length
  | [] => rfl
  | k :: w => by
    show (1 + ((wss w).map (·.length)).sum) = w.length + 1
    rw [wss_sum w]; omega
def chD (w : List Nat) : List D := w.map fun k => .str ⟨#[ch k]⟩
theorem chD_wss (w : List Nat) : chD w = (wss w).map D.str := by
  unfold chD wss
  rw [List.map_map]
  rfl
/-- the letters joined -/
theorem join_run {w : List Nat} (hw : w.length ≤ 1000) {R : D → Prop} (hR : R (.str (wstr w))) : mJoin (Str.ofString "") (.lst (chD w)) R := by
  refine ⟨wss w, chD_wss w, ?_, ?_⟩
  · rw [wss_sum]
    show w.length + _ * 0 ≤ 16777216
    omega
  · rw [join_w]
    exact hR
theorem chD_app (w : List Nat) (k : Nat) : chD w ++ [.str ⟨#[ch k]⟩] = chD (w ++ [k]) := by
  unfold chD
  rw [List.map_append]
  rfl
theorem pk__law_word : Pk 2 1 sp__law_word w__law_word := by
  rintro ds h R _ ⟨a, n, rfl, hn, hT, hR⟩
  refine ⟨⟨by omega, by omega⟩, rfl, ?_, ?_⟩
  · show ((List.range ((n : Nat) : Int).toNat).map _).length ≤ 1000000
    rw [List.length_map, List.length_range, Int.toNat_natCast]
    omega
  refine lcL_inv (fun j acc h' => ∃ w, acc = chD w ∧ Wd w ∧ w.length = j ∧ Tp h' a ∧ But a h h') _ 0 [] h ⟨[], rfl, (fun _ q => by cases q), rfl, hT, But.refl _ _⟩ ?_ ?_
  · rintro x hx j acc h1 ⟨w, rfl, hw, hl, hT1, b1⟩ C hC _
    refine brT rfl ?_
    refine draw hT1 (by decide) (by decide) fun v h2 v0 v1 hT2 b2 => ?_
    have key : ∀ k : Nat, k < 4 → C (some (.str ⟨#[ch k]⟩)) h2 := fun k k4 => hC _ _ ⟨w ++ [k], chD_app w k, fun y hy => by
      rcases List.mem_append.mp hy with z | z
      · exact hw y z
      · rw [List.mem_singleton.mp z]; exact k4, by rw [List.length_append, hl]; rfl, hT2, b1.trans b2⟩
    have c : v = 0 ∨ v = 1 ∨ v = 2 ∨ v = 3 := by omega
    rcases c with rfl | rfl | rfl | rfl
    · exact ⟨line4, _, rfl, rfl, key 0 (by decide)⟩
    · exact ⟨line4, _, rfl, rfl, key 1 (by decide)⟩
    · exact ⟨line4, _, rfl, rfl, key 3 (by decide)⟩
    · exact ⟨line4, _, rfl, rfl, key 2 (by decide)⟩
  · rintro acc h1 ⟨w, rfl, hw, hl, hT1, b1⟩
    have hl' : w.length = n := by
      rw [hl, Nat.zero_add]
      show ((List.range ((n : Nat) : Int).toNat).map _).length = n
      rw [List.length_map, List.length_range, Int.toNat_natCast]
    exact join_run (by omega) (hR w h1 hw hl' hT1 b1)
end K01

set_option Elab.async false
set_option linter.all false
set_option maxRecDepth 100000
set_option maxHeartbeats 400000
namespace K01
open PySem PySem.Spec PyProof.Rows L2 VL VL.P
def bl (l : List Nat) : List D := l.map fun b => .int (b : Nat)
theorem bl_at {l : List Nat} {j b : Nat} (h : l[j]? = some b) : atI (bl l) (j : Int) = some (.int (b : Nat)) := by
  refine atI_nat ?_
  unfold bl
  rw [List.getElem?_map, h]
  rfl
theorem bl_ix {l : List Nat} {j : Nat} (h : j < l.length) : ixN (bl l).length (j : Int) = some j := by
  unfold ixN bl
  rw [if_pos (Int.natCast_nonneg j), if_pos (by rw [List.length_map]; omega), Int.toNat_natCast]
theorem bl_set (l : List Nat) (j b : Nat) : (bl l).set j (.int (b : Nat)) = bl (l.set j b) := by
  unfold bl
  rw [List.map_set]
theorem acted_turn {T : We} {w l : List Nat} {s t j k b : Nat} {h : Oh} (hl : w.length ≤ 4) (hk : w[j]? = some k) (k4 : k < 4) (hb : l[j]? = some b) (b2 : b < 2)
    (kk : T.nx ⟨[.f (.str (wstr w)), .f (.int s), .o (.lst (bl (l.set j (fl k b)))), .f (.int ((t + tq k b : Nat) : Int)), .f (.int j)], h⟩) :
    w__law_acted_b1 T ⟨[.f (.str (wstr w)), .f (.int s), .o (.lst (bl l)), .f (.int (t : Nat)), .f (.int j)], h⟩ := by
  have l1 := wstr_line (w := w) (by omega)
  have hat := wstr_at hk
  have hbt := bl_at hb
  have hj : j < l.length := (List.getElem?_eq_some_iff.mp hb).1
  have cm : CMulX 2 (b : Int) := cmul2 b b2
  have c : k = 0 ∨ k = 1 ∨ k = 2 ∨ k = 3 := by omega
  have hset : l.set j b = l := by
    have : l[j] = b := (List.getElem?_eq_some_iff.mp hb).2
    subst this
    exact List.set_getElem_self hj
  rcases c with rfl | rfl | rfl | rfl
  · refine ⟨l1, _, hat, brF (by decide +kernel) ⟨l1, _, hat, brF (by decide +kernel) ⟨l1, _, hat, brF (by decide +kernel) ?_⟩⟩⟩
    have e : fl 0 b = b := rfl
    rw [e, hset] at kk
    exact kk
  · refine ⟨l1, _, hat, brF (by decide +kernel) ⟨l1, _, hat, brF (by decide +kernel) ⟨l1, _, hat, brT (by decide +kernel) ?_⟩⟩⟩
    refine ⟨⟨_, rfl⟩, _, rfl, _, hbt, ⟨_, rfl⟩, _, _, _, rfl, rfl, bl_ix hj, ?_⟩
    have e1 : (1 : Int) - (b : Int) = ((1 - b : Nat) : Int) := by omega
    show T.nx ⟨[.f (.str (wstr w)), .f (.int s), .o (.lst ((bl l).set j (.int ((1 : Int) - (b : Int))))), .f (.int (t : Nat)), .f (.int j)], h⟩
    rw [e1, bl_set]
    exact kk
  · refine ⟨l1, _, hat, brF (by decide +kernel) ⟨l1, _, hat, brT (by decide +kernel) ⟨⟨_, rfl⟩, _, rfl, _, hbt, cm, l1, _, hat, brF (by decide +kernel) ?_⟩⟩⟩
    have e : fl 2 b = b := rfl
    rw [e, hset] at kk
    have e1 : ((t + tq 2 b : Nat) : Int) = (t : Int) + 2 * (b : Int) := by
      show ((t + 2 * b : Nat) : Int) = _
      omega
    rw [e1] at kk
    exact kk
  · refine ⟨l1, _, hat, brT (by decide +kernel) ⟨⟨_, rfl⟩, _, rfl, _, hbt, cm, l1, _, hat, brF (by decide +kernel) ⟨l1, _, hat, brT (by decide +kernel) ?_⟩⟩⟩
    refine ⟨⟨_, rfl⟩, _, rfl, _, hbt, ⟨_, rfl⟩, _, _, _, rfl, rfl, bl_ix hj, ?_⟩
    have e1 : (1 : Int) - (b : Int) = ((1 - b : Nat) : Int) := by omega
    show T.nx ⟨[.f (.str (wstr w)), .f (.int s), .o (.lst ((bl l).set j (.int ((1 : Int) - (b : Int))))), .f (.int ((t : Int) + 1 + 2 * (b : Int))), .f (.int j)], h⟩
    have e2 : ((t + tq 3 b : Nat) : Int) = (t : Int) + 1 + 2 * (b : Int) := by
      show ((t + (1 + 2 * b) : Nat) : Int) = _
      omega
    rw [e2] at kk
    rw [e1, bl_set]
    exact kk
theorem acted_loop (T : We) {w : List Nat} {s : Nat} {h : Oh} (hl : w.length ≤ 4) (hw : Wd w) : ∀ (wr wp br bp : List Nat) (t : Nat) (tk : Sl), w = wp ++ wr → wp.length = bp.length → br.length = wr.length → (∀ b ∈ br, b < 2) →
    (∀ tk, T.nx ⟨[.f (.str (wstr w)), .f (.int s), .o (.lst (bl (bp ++ acb wr br))), .f (.int ((t + act wr br : Nat) : Int)), tk], h⟩) →
    wForL (gVar 4) w__law_acted_b1 T ((List.range' wp.length wr.length).map fun k => .int (k : Nat)) ⟨[.f (.str (wstr w)), .f (.int s), .o (.lst (bl (bp ++ br))), .f (.int (t : Nat)), tk], h⟩
  | [], wp, br, bp, t, tk, e, e1, e2, hb, kk => by
    cases br with
    | nil => exact kk tk
    | cons b br => cases e2
  | k :: wr, wp, br, bp, t, tk, e, e1, e2, hb, kk => by
    cases br with
    | nil => cases e2
    | cons b br =>
      have hk : w[wp.length]? = some k := by rw [e, List.getElem?_append_right (Nat.le_refl _), Nat.sub_self]; rfl
      have hbk : (bp ++ b :: br)[wp.length]? = some b := by rw [e1, List.getElem?_append_right (Nat.le_refl _), Nat.sub_self]; rfl
      have k4 : k < 4 := hw k (List.mem_of_getElem? hk)
      have es : (bp ++ b :: br).set wp.length (fl k b) = (bp ++ [fl k b]) ++ br := by
        rw [e1, List.set_append_right _ _ (Nat.le_refl _), Nat.sub_self, List.set_cons_zero, List.append_assoc]
        rfl
      refine forv (acted_turn hl hk k4 hbk (hb b List.mem_cons_self) ?_)
      rw [es]
      have ih := acted_loop T (s := s) (h := h) hl hw wr (wp ++ [k]) br (bp ++ [fl k b]) (t + tq k b) (.f (.int (wp.length : Nat))) (by rw [e, List.append_assoc]; rfl) (by rw [List.length_append, List.length_append, e1]; rfl) (by simpa using e2) (fun x hx => hb x (List.mem_cons_of_mem _ hx)) fun tk => by
        have := kk tk
        rw [List.append_assoc, Nat.add_assoc]
        exact this
      rw [List.length_append] at ih
      exact ih
theorem bits_len {n : Nat} {bs : List Nat} (h : Bs n bs) : (bl bs).length = n := by unfold bl; rw [List.length_map]; exact h.1
theorem pk__law_acted : Pk 4 1 sp__law_acted w__law_acted := by
  rintro ds h R _ ⟨w, s, bs, t, rfl, hw, hl, hs, hb, ht, hR⟩
  have l0 := wstr_len w
  have l1 := wstr_line (w := w) (by omega)
  refine ⟨cmul2 s hs, ?_⟩
  change w__law_acted_1 (Fi R) ⟨[.f (.str (wstr w)), .f (.int s), .f (bitsD bs), .f (.int ((t : Int) + 2 * (s : Int))), .u], h⟩
  change w__law_acted_2 (Fi R) ⟨[.f (.str (wstr w)), .f (.int s), .o (.lst (bl bs)), .f (.int ((t : Int) + 2 * (s : Int))), .u], h⟩
  refine ⟨l1, ⟨by rw [l0]; omega, by rw [l0]; omega⟩, ?_⟩
  have e0 : (t : Int) + 2 * (s : Int) = ((t + 2 * s : Nat) : Int) := by omega
  have e1 : (((wstr w).length : Nat) : Int).toNat = w.length := by rw [l0, Int.toNat_natCast]
  rw [e0]
  show wForL (gVar 4) w__law_acted_b1 { Fi R with nx := w__law_acted_3 (Fi R) } ((List.range (((wstr w).length : Nat) : Int).toNat).map fun k => .int (k : Nat)) _
  rw [e1, List.range_eq_range']
  refine acted_loop { Fi R with nx := w__law_acted_3 (Fi R) } hl hw w [] bs [] (t + 2 * s) .u rfl rfl hb.1 hb.2 fun tk => ?_
  refine ⟨(by decide : (0 : Int) < 4), ?_⟩
  have e2 : (((t + 2 * s + act w bs : Nat) : Int)) % 4 = (((t + 2 * s + act w bs) % 4 : Nat) : Int) := by omega
  show R (.tup [.tup (bl ([] ++ acb w bs)), .int ((((t + 2 * s + act w bs : Nat) : Int)) % 4)]) h
  rw [e2]
  exact hR
end K01

set_option Elab.async false
set_option linter.all false
set_option maxRecDepth 100000
set_option maxHeartbeats 400000
namespace K01
open PySem PySem.Spec PyProof.Rows L2 VL VL.P
theorem bitsD_app (r : List Nat) (b : Nat) : D.tup (bl r ++ [.int (b : Nat)]) = bitsD (r ++ [b]) := by
  unfold bitsD bl
  rw [List.map_append]
  rfl
/-- one more bit on each row -/
def stp (b : Nat) : D → Option D
  | .tup ds => some (.tup (ds ++ [.int (b : Nat)]))
  | _ => none
theorem stp_list (b : Nat) : ∀ rows : List (List Nat), (rows.map bitsD).filterMap (stp b) = (rows.map (· ++ [b])).map bitsD
  | [] => rfl
  | r :: rows => by
    rw [List.map_cons, List.filterMap_cons, stp_list b rows]
    show D.tup (bl r ++ [.int (b : Nat)]) :: _ = _
    rw [bitsD_app]
    rfl
theorem bits_turn {T : We} {n : D} {rows : List (List Nat)} {j : Nat} {t2 : D} {h : Oh} (hr : ∀ r ∈ rows, Bs j r) (hl : rows.length ≤ 100) (hj : j ≤ 100)
    (k : T.nx ⟨[.f n, .f (.lst ((rows.map (· ++ [0]) ++ rows.map (· ++ [1])).map bitsD)), .f t2, .u], h⟩) : w__law_all_bits_b1 T ⟨[.f n, .f (.lst (rows.map bitsD)), .f t2, .u], h⟩ := by
  have hz := sizeLine_eq
  have step : ∀ (b : Nat) x, x ∈ rows.map bitsD → ∃ ds : List D, x = .tup ds ∧ ds.length ≤ 100 := fun b x hx => by
    obtain ⟨r, hr', rfl⟩ := List.mem_map.mp hx
    exact ⟨_, rfl, by rw [List.length_map, (hr r hr').1]; exact hj⟩
  refine ⟨rfl, (by rw [List.length_map]; omega), ?_⟩
  refine lcL_run (stp 0) _ _ (fun x hx C hC => ?_) ?_
  · obtain ⟨ds, rfl, l⟩ := step 0 x hx
    exact brT rfl ⟨(by show ds.length + 1 ≤ sizeLine; omega), rfl, hC⟩
  rw [List.nil_append, stp_list]
  refine ⟨rfl, (by show (rows.map bitsD).length ≤ 1000000; rw [List.length_map]; omega), ?_⟩
  refine lcL_run (stp 1) _ _ (fun x hx C hC => ?_) ?_
  · obtain ⟨ds, rfl, l⟩ := step 1 x hx
    exact brT rfl ⟨(by show ds.length + 1 ≤ sizeLine; omega), rfl, hC⟩
  rw [List.nil_append, stp_list]
  refine ⟨?_, ?_⟩
  · rw [List.length_map, List.length_map, List.length_map, List.length_map]
    omega
  · rw [List.map_append] at k
    exact k
theorem bits_loop (T : We) {n : D} {h : Oh} : ∀ (ts : List D) (rows : List (List Nat)) (j : Nat) (t2 : Sl), (∀ r ∈ rows, Bs j r) → rows.length ≤ 2 ^ j → j + ts.length ≤ 4 →
    (∀ (rows : List (List Nat)) (t2 : Sl), (∀ r ∈ rows, Bs (j + ts.length) r) → T.nx ⟨[.f n, .f (.lst (rows.map bitsD)), t2, .u], h⟩) → wForL (gVar 2) w__law_all_bits_b1 T ts ⟨[.f n, .f (.lst (rows.map bitsD)), t2, .u], h⟩
  | [], rows, j, t2, hr, hl, hj, k => k rows t2 hr
  | t :: ts, rows, j, t2, hr, hl, hj, k => by
    rw [List.length_cons] at hj k
    have h16 : 2 ^ j ≤ 2 ^ 4 := Nat.pow_le_pow_right (by decide) (by omega)
    have h16' : (2 : Nat) ^ 4 = 16 := by decide
    refine forv (bits_turn hr (by omega) (by omega) ?_)
    refine bits_loop T ts _ (j + 1) _ (fun r hr' => ?_) ?_ (by omega) fun rows t2 q => k rows t2 (by rw [show j + (ts.length + 1) = j + 1 + ts.length by omega]; exact q)
    · rcases List.mem_append.mp hr' with z | z
      all_goals
        obtain ⟨r', h1, rfl⟩ := List.mem_map.mp z
        obtain ⟨h2, h3⟩ := hr r' h1
        refine ⟨by rw [List.length_append, h2]; rfl, fun b hb => ?_⟩
        rcases List.mem_append.mp hb with z | z
        · exact h3 b z
        · rw [List.mem_singleton.mp z]; decide
    · rw [List.length_append, List.length_map, List.length_map, Nat.pow_succ]
      omega
theorem pk__law_all_bits : Pk 1 3 sp__law_all_bits w__law_all_bits := by
  rintro ds h R _ ⟨n, rfl, hn, hR⟩
  change w__law_all_bits_1 (Fi R) ⟨[.f (.int n), .f (.lst ([[]].map bitsD)), .u, .u], h⟩
  refine ⟨⟨by omega, by omega⟩, ?_⟩
  have e : ((List.range ((n : Nat) : Int).toNat).map fun k => D.int (k : Nat)).length = n := by rw [List.length_map, List.length_range, Int.toNat_natCast]
  refine bits_loop { Fi R with nx := w__law_all_bits_2 (Fi R) } _ _ 0 _ (fun r hr => ?_) (by decide) (by rw [Nat.zero_add, e]; exact hn) fun rows t2 q => ?_
  · rw [List.mem_singleton.mp hr]
    exact ⟨rfl, fun b hb => by cases hb⟩
  · rw [Nat.zero_add, e] at q
    exact hR rows q
end K01

set_option Elab.async false
set_option linter.all false
set_option maxRecDepth 100000
set_option maxHeartbeats 400000
/-! Paulis as matrices: the mathematics -/
namespace K01
open PySem PySem.Spec VL VL.P
/-- the letter of a product -/
def xr (k l : Nat) : Nat := (k % 2 + l % 2) % 2 + 2 * ((k / 2 + l / 2) % 2)
def wx : List Nat → List Nat → List Nat
  | k :: w, l :: u => xr k l :: wx w u
  | _, _ => []
def sm2 (f : Nat → Nat → Nat) : List Nat → List Nat → Nat
  | k :: w, l :: u => f k l + sm2 f w u
  | _, _ => 0
def yy (k : Nat) : Nat := bx k * bz k
def un (k l : Nat) : Nat := if k ≠ 0 ∧ l ≠ 0 ∧ k ≠ l then 1 else 0
theorem four {P : Nat → Prop} (h : ∀ k : Fin 4, P k.1) : ∀ k, k < 4 → P k := fun k hk => h ⟨k, hk⟩
theorem xr_lt {k l : Nat} : xr k l < 4 := by unfold xr; omega
theorem wx_wd : ∀ {w u : List Nat}, Wd (wx w u)
  | [], _ => fun k h => by simp [wx] at h
  | _ :: _, [] => fun k h => by simp [wx] at h
  | a :: w, b :: u => fun k h => by
    rcases List.mem_cons.mp h with rfl | h
    · exact xr_lt
    · exact wx_wd k h
theorem wx_len : ∀ {w u : List Nat}, u.length = w.length → (wx w u).length = w.length
  | [], _, _ => by cases ‹List Nat› <;> rfl
  | _ :: _, [], h => by cases h
  | a :: w, b :: u, h => by
    show (wx w u).length + 1 = w.length + 1
    rw [wx_len (by simpa using h)]
theorem Wd.tl {k : Nat} {w : List Nat} (h : Wd (k :: w)) : Wd w := fun x hx => h x (List.mem_cons_of_mem _ hx)
theorem Wd.hd {k : Nat} {w : List Nat} (h : Wd (k :: w)) : k < 4 := h k List.mem_cons_self
theorem wm_cons (b : Nat → Nat) (k : Nat) (w : List Nat) : wm b (k :: w) = 2 * wm b w + b k := by show b k + 2 * wm b w = _; omega
theorem wm_xor (b : Nat → Nat) (hb : ∀ k, k < 4 → b k < 2) (hx : ∀ k, k < 4 → ∀ l, l < 4 → b (xr k l) = b k + b l - 2 * (b k * b l)) : ∀ {w u : List Nat}, Wd w → Wd u → u.length = w.length → wm b (wx w u) = wm b w ^^^ wm b u
  | [], [], _, _, _ => by simp [wx, wm]
  | [], _ :: _, _, _, h => by cases h
  | _ :: _, [], _, _, h => by cases h
  | k :: w, l :: u, hw, hu, h => by
    show wm b (xr k l :: wx w u) = _
    rw [wm_cons, wm_cons, wm_cons, xor2 _ _ _ _ (hb k hw.hd) (hb l hu.hd), wm_xor b hb hx hw.tl hu.tl (by simpa using h), hx k hw.hd l hu.hd]
theorem bx_xr : ∀ k, k < 4 → ∀ l, l < 4 → bx (xr k l) = bx k + bx l - 2 * (bx k * bx l) := four fun k => four fun l => by revert k l; decide
theorem bz_xr : ∀ k, k < 4 → ∀ l, l < 4 → bz (xr k l) = bz k + bz l - 2 * (bz k * bz l) := four fun k => four fun l => by revert k l; decide
theorem mul_lt2 {i j : Nat} (hi : i < 2) (hj : j < 2) : i * j < 2 := by
  rcases m2 i hi with rfl | rfl <;> rcases m2 j hj with rfl | rfl <;> decide
theorem pc_and (b c : Nat → Nat) (hb : ∀ k, k < 4 → b k < 2) (hc : ∀ k, k < 4 → c k < 2) : ∀ {w u : List Nat}, Wd w → Wd u → u.length = w.length → pc (wm b w &&& wm c u) = sm2 (fun k l => b k * c l) w u
  | [], [], _, _, _ => by show pc (0 &&& 0) = 0; rw [Nat.and_self]; rfl
  | [], _ :: _, _, _, h => by cases h
  | _ :: _, [], _, _, h => by cases h
  | k :: w, l :: u, hw, hu, h => by
    rw [wm_cons, wm_cons, and2 _ _ _ _ (hb k hw.hd) (hc l hu.hd), pc2 _ _ (mul_lt2 (hb k hw.hd) (hc l hu.hd)), pc_and b c hb hc hw.tl hu.tl (by simpa using h)]
    rfl
theorem bx2 : ∀ k, k < 4 → bx k < 2 := fun k _ => bx_lt
theorem bz2 : ∀ k, k < 4 → bz k < 2 := fun k h => bz_lt h
/-- a property of the sums, letter by letter -/
theorem par : ∀ {w u : List Nat}, Wd w → Wd u → u.length = w.length → (sm2 (fun k l => bx k * bz l) w u + sm2 (fun k l => bz k * bx l) w u) % 2 = sm2 un w u % 2
  | [], [], _, _, _ => rfl
  | [], _ :: _, _, _, h => by cases h
  | _ :: _, [], _, _, h => by cases h
  | k :: w, l :: u, hw, hu, h => by
    have ih := par hw.tl hu.tl (by simpa using h)
    have e : (bx k * bz l + bz k * bx l) % 2 = un k l % 2 := (four (P := fun k => ∀ l, l < 4 → (bx k * bz l + bz k * bx l) % 2 = un k l % 2) (fun k => four fun l => by revert k l; decide)) k hw.hd l hu.hd
    show (bx k * bz l + sm2 _ w u + (bz k * bx l + sm2 _ w u)) % 2 = (un k l + sm2 un w u) % 2
    omega
theorem par3 : ∀ {w u : List Nat}, Wd w → Wd u → u.length = w.length → (sm2 (fun k l => yy k + yy l + yy (xr k l)) w u) % 2 = sm2 un w u % 2
  | [], [], _, _, _ => rfl
  | [], _ :: _, _, _, h => by cases h
  | _ :: _, [], _, _, h => by cases h
  | k :: w, l :: u, hw, hu, h => by
    have ih := par3 hw.tl hu.tl (by simpa using h)
    have e : (yy k + yy l + yy (xr k l)) % 2 = un k l % 2 := (four (P := fun k => ∀ l, l < 4 → (yy k + yy l + yy (xr k l)) % 2 = un k l % 2) (fun k => four fun l => by revert k l; decide)) k hw.hd l hu.hd
    show (yy k + yy l + yy (xr k l) + sm2 _ w u) % 2 = (un k l + sm2 un w u) % 2
    omega
theorem sm_yy : ∀ {w u : List Nat}, u.length = w.length → sm2 (fun k l => yy k + yy l + yy (xr k l)) w u = sm2 (fun k l => bx k * bz l) w w + sm2 (fun k l => bx k * bz l) u u + sm2 (fun k l => bx k * bz l) (wx w u) (wx w u)
  | [], [], _ => rfl
  | [], _ :: _, h => by cases h
  | _ :: _, [], h => by cases h
  | k :: w, l :: u, h => by
    have ih := sm_yy (w := w) (u := u) (by simpa using h)
    show yy k + yy l + yy (xr k l) + sm2 _ w u = (bx k * bz k + sm2 _ w w) + (bx l * bz l + sm2 _ u u) + (bx (xr k l) * bz (xr k l) + sm2 _ (wx w u) (wx w u))
    rw [ih]
    show bx k * bz k + bx l * bz l + bx (xr k l) * bz (xr k l) + _ = _
    omega
theorem act_mul : ∀ {w u bs : List Nat}, Wd w → Wd u → (∀ b ∈ bs, b < 2) → u.length = w.length → bs.length = w.length →
    (act u bs + act w (acb u bs) + sm2 (fun k l => bx k * bz l) (wx w u) (wx w u)) % 4 = (sm2 (fun k l => bx k * bz l) w w + sm2 (fun k l => bx k * bz l) u u + 2 * sm2 (fun k l => bz k * bx l) w u + act (wx w u) bs) % 4
  | [], [], [], _, _, _, _, _ => rfl
  | [], _ :: _, _, _, _, _, h, _ => by cases h
  | _ :: _, [], _, _, _, _, h, _ => by cases h
  | [], [], _ :: _, _, _, _, _, h => by cases h
  | _ :: _, _ :: _, [], _, _, _, _, h => by cases h
  | k :: w, l :: u, b :: bs, hw, hu, hb, h, h' => by
    have ih := act_mul hw.tl hu.tl (fun x hx => hb x (List.mem_cons_of_mem _ hx)) (by simpa using h) (by simpa using h')
    have b2 := hb b List.mem_cons_self
    have e : (tq l b + tq k (fl l b) + bx (xr k l) * bz (xr k l)) % 4 = (bx k * bz k + bx l * bz l + 2 * (bz k * bx l) + tq (xr k l) b) % 4 := by
      have q : ∀ (k l : Fin 4) (b : Fin 2), (tq l.1 b.1 + tq k.1 (fl l.1 b.1) + bx (xr k.1 l.1) * bz (xr k.1 l.1)) % 4 = (bx k.1 * bz k.1 + bx l.1 * bz l.1 + 2 * (bz k.1 * bx l.1) + tq (xr k.1 l.1) b.1) % 4 := by decide
      exact q ⟨k, hw.hd⟩ ⟨l, hu.hd⟩ ⟨b, b2⟩
    show (tq l b + act u bs + (tq k (fl l b) + act w (acb u bs)) + (bx (xr k l) * bz (xr k l) + sm2 _ (wx w u) (wx w u))) % 4 = (bx k * bz k + sm2 _ w w + (bx l * bz l + sm2 _ u u) + 2 * (bz k * bx l + sm2 _ w u) + (tq (xr k l) b + act (wx w u) bs)) % 4
    omega
theorem acb_mul : ∀ {w u bs : List Nat}, Wd w → Wd u → (∀ b ∈ bs, b < 2) → u.length = w.length → bs.length = w.length → acb w (acb u bs) = acb (wx w u) bs
  | [], [], [], _, _, _, _, _ => rfl
  | [], _ :: _, _, _, _, _, h, _ => by cases h
  | _ :: _, [], _, _, _, _, h, _ => by cases h
  | [], [], _ :: _, _, _, _, _, h => by cases h
  | _ :: _, _ :: _, [], _, _, _, _, h => by cases h
  | k :: w, l :: u, b :: bs, hw, hu, hb, h, h' => by
    have ih := acb_mul hw.tl hu.tl (fun x hx => hb x (List.mem_cons_of_mem _ hx)) (by simpa using h) (by simpa using h')
    have b2 := hb b List.mem_cons_self
    have e : fl k (fl l b) = fl (xr k l) b := by
      have q : ∀ (k l : Fin 4) (b : Fin 2), fl k.1 (fl l.1 b.1) = fl (xr k.1 l.1) b.1 := by decide
      exact q ⟨k, hw.hd⟩ ⟨l, hu.hd⟩ ⟨b, b2⟩
    show fl k (fl l b) :: acb w (acb u bs) = fl (xr k l) b :: acb (wx w u) bs
    rw [e, ih]
theorem fin4 {A B C Y1 Y2 Y3 Z U s t : Nat} (e1 : (A + B + Y3) % 4 = (Y1 + Y2 + 2 * Z + C) % 4) (e2 : (Y1 + Y2 + Y3) % 2 = U % 2) :
    ((3 * (U % 2) + 2 * t + A) % 4 + 2 * s + B) % 4 = (0 + 2 * ((2 * ((s : Int) + t) + Y1 + Y2 + 2 * Z - Y3) % 4 / 2).toNat + C) % 4 := by
  obtain ⟨X, hX⟩ : ∃ X : Nat, X = Y1 + Y2 + 2 * Z + 3 * Y3 := ⟨_, rfl⟩
  obtain ⟨T, hT⟩ : ∃ T : Nat, T = (2 * (s + t) + X) % 4 := ⟨_, rfl⟩
  have h0 : (2 * ((s : Int) + t) + Y1 + Y2 + 2 * Z - Y3) % 4 = (T : Int) := by omega
  have h1 : (A + B) % 4 = (X + C) % 4 := by omega
  have h2 : T % 2 = U % 2 := by omega
  have h3 : (3 * (T % 2) + T) % 4 = 2 * (T / 2) := by
    have : T < 4 := by omega
    have c : T = 0 ∨ T = 1 ∨ T = 2 ∨ T = 3 := by omega
    rcases c with e | e | e | e <;> rw [e]
  have h4 : ((T : Int) / 2).toNat = T / 2 := by omega
  rw [h0, h4, ← h2]
  clear h0 h4 hX e1 e2
  omega
/-- the sign that product tells, with the turns that are left over -/
theorem turns {w u bs : List Nat} {s t : Nat} (hw : Wd w) (hu : Wd u) (hb : ∀ b ∈ bs, b < 2) (h : u.length = w.length) (h' : bs.length = w.length) :
    (((3 * (sm2 un w u % 2) + 2 * t + act u bs) % 4 + 2 * s + act w (acb u bs)) % 4 = (0 + 2 * (prd (wpa w s) (wpa u t)).s + act (wx w u) bs) % 4) := by
  have e1 := act_mul hw hu hb h h'
  have e2 := par3 hw hu h
  rw [sm_yy h] at e2
  have ex := wm_xor bx bx2 bx_xr hw hu h
  have ez := wm_xor bz bz2 bz_xr hw hu h
  have p1 := pc_and bx bz bx2 bz2 hw hw rfl
  have p2 := pc_and bx bz bx2 bz2 hu hu rfl
  have p3 := pc_and bz bx bz2 bx2 hw hu h
  have p4 := pc_and bx bz bx2 bz2 (wx_wd (w := w) (u := u)) (wx_wd (w := w) (u := u)) rfl
  rw [ex, ez] at p4
  show _ = (0 + 2 * (trn (wpa w s) (wpa u t) / 2).toNat + _) % 4
  have et : trn (wpa w s) (wpa u t) = (2 * ((s : Int) + t) + pc (wm bx w &&& wm bz w) + pc (wm bx u &&& wm bz u) + 2 * pc (wm bz w &&& wm bx u) - pc ((wm bx w ^^^ wm bx u) &&& (wm bz w ^^^ wm bz u))) % 4 := rfl
  rw [et, p1, p2, p3, p4]
  exact fin4 e1 e2
/-- the letter at a place -/
theorem wm_div (b : Nat → Nat) (hb : ∀ k, k < 4 → b k < 2) : ∀ {w : List Nat} {i k : Nat}, Wd w → w[i]? = some k → wm b w / 2 ^ i % 2 = b k
  | [], i, k, _, h => by cases h
  | a :: w, 0, k, hw, h => by
    cases h
    have := hb a hw.hd
    rw [wm_cons, Nat.pow_zero, Nat.div_one]
    omega
  | a :: w, i + 1, k, hw, h => by
    have ih := wm_div b hb (w := w) (i := i) (k := k) hw.tl h
    have := hb a hw.hd
    rw [wm_cons, Nat.pow_succ, Nat.mul_comm (2 ^ i) 2, ← Nat.div_div_eq_div_mul, show (2 * wm b w + b a) / 2 = wm b w by omega]
    exact ih
theorem lch_mod (x z : Nat) : lch x z = lch (x % 2) (z % 2) := by
  unfold lch
  rw [Nat.mod_mod, Nat.mod_mod]
theorem lch_at {w : List Nat} {i k : Nat} (hw : Wd w) (h : w[i]? = some k) : lch (wm bx w / 2 ^ i) (wm bz w / 2 ^ i) = ch k := by
  have k4 := hw k (List.mem_of_getElem? h)
  rw [lch_mod, wm_div bx bx2 hw h, wm_div bz bz2 hw h]
  revert k4
  revert k
  intro k _ k4
  have c : k = 0 ∨ k = 1 ∨ k = 2 ∨ k = 3 := by omega
  rcases c with rfl | rfl | rfl | rfl <;> rfl
theorem wm_lt (b : Nat → Nat) (hb : ∀ k, k < 4 → b k < 2) : ∀ {w : List Nat}, Wd w → wm b w < 2 ^ w.length
  | [], _ => by show 0 < 1; decide
  | k :: w, h => by
    have ih := wm_lt b hb h.tl
    have := hb k h.hd
    rw [wm_cons, List.length_cons, Nat.pow_succ]
    omega
/-- how many places a test picks -/
theorem cnt (f : Nat → Nat → Bool) : ∀ {w u : List Nat}, u.length = w.length →
    ((List.range w.length).filter fun i => match w[i]?, u[i]? with | some k, some l => f k l | _, _ => false).length = sm2 (fun k l => if f k l then 1 else 0) w u
  | [], [], _ => rfl
  | [], _ :: _, h => by cases h
  | _ :: _, [], h => by cases h
  | k :: w, l :: u, h => by
    have ih := cnt f (w := w) (u := u) (by simpa using h)
    rw [List.length_cons, List.range_succ_eq_map, List.filter_cons, List.filter_map]
    have e : (List.map Nat.succ ((List.range w.length).filter ((fun i => match (k :: w)[i]?, (l :: u)[i]? with | some k, some l => f k l | _, _ => false) ∘ Nat.succ))).length = sm2 (fun k l => if f k l then 1 else 0) w u := by
      rw [List.length_map]
      exact ih
    have e3 : ∀ x : List Nat, (if f k l = true then 0 :: x else x).length = (if f k l then 1 else 0) + x.length := fun x => by
      cases f k l <;> simp <;> omega
    refine (e3 _).trans ?_
    rw [e]
    rfl
end K01

set_option Elab.async false
set_option linter.all false
set_option maxRecDepth 100000
set_option maxHeartbeats 400000
namespace K01
open PySem PySem.Spec PyProof.Rows L2 VL VL.P
local macro_rules | `(tactic| walk_at "n") => `(tactic| try dsimp only [Sg.st, Sg.ob, wipeS, List.set, List.map, List.replicate, List.cons_append, List.nil_append])
def fD (w : List Nat) (s : Nat) : D := .tup [.str (wstr w), .int s]
theorem chD_str {k l : Nat} (hk : k < 4) (hl : l < 4) : ((⟨#[ch k]⟩ : Str) == ⟨#[ch l]⟩) = (k == l) := by
  have q : ∀ (k l : Fin 4), ((⟨#[ch k.1]⟩ : Str) == ⟨#[ch l.1]⟩) = (k.1 == l.1) := by decide +kernel
  exact q ⟨k, hk⟩ ⟨l, hl⟩
/-- letters that differ, neither of them I -/
def dif (k l : Nat) : Bool := !((k == 0) || (l == 0)) && !(k == l)
theorem un_dif : ∀ {w u : List Nat}, sm2 (fun k l => if dif k l then 1 else 0) w u = sm2 un w u
  | [], _ => by cases ‹List Nat› <;> rfl
  | _ :: _, [] => rfl
  | k :: w, l :: u => by
    show (if dif k l then 1 else 0) + sm2 _ w u = un k l + sm2 un w u
    rw [un_dif]
    congr 1
    unfold dif un
    by_cases h1 : k = 0
    · subst h1; simp
    · by_cases h2 : l = 0
      · subst h2; simp
      · by_cases h3 : k = l
        · subst h3; simp
        · simp [h1, h2, h3]
theorem pe_sh (p : Pa) : shD 8 p.e = true := rfl
theorem pe_eq (p : Pa) : eqD p.e p.e = true := by
  show ((p.x : Int) == (p.x : Int) && ((p.z : Int) == (p.z : Int) && ((p.s : Int) == (p.s : Int) && true))) = true
  simp
theorem ne_pe {p q : Pa} (h : p = q) : (!eqD p.e q.e) = false := by
  subst h
  rw [pe_eq]
  rfl
theorem bitsD_sh (bs : List Nat) (t : Nat) : shD 8 (.tup [bitsD bs, .int (t : Nat)]) = true := by
  show ((bl bs).all (shD 6) && true) = true
  have : (bl bs).all (shD 6) = true := by
    rw [List.all_eq_true]
    intro x hx
    obtain ⟨b, _, rfl⟩ := List.mem_map.mp hx
    rfl
  rw [this]
  rfl
theorem bl_eq : ∀ bs : List Nat, eqDs (bl bs) (bl bs) = true
  | [] => rfl
  | b :: bs => by
    show ((b : Int) == (b : Int) && eqDs (bl bs) (bl bs)) = true
    rw [bl_eq bs]
    simp
theorem ne_bits {bs cs : List Nat} {t v : Nat} (h : bs = cs) (h' : t = v) : (!eqD (.tup [bitsD bs, .int (t : Nat)]) (.tup [bitsD cs, .int (v : Nat)])) = false := by
  subst h h'
  show (!(eqDs (bl bs) (bl bs) && ((t : Int) == (t : Int) && true))) = false
  rw [bl_eq]
  simp
theorem acb_bs : ∀ {u bs : List Nat}, bs.length = u.length → (∀ b ∈ bs, b < 2) → (acb u bs).length = u.length ∧ ∀ b ∈ acb u bs, b < 2
  | [], [], _, _ => ⟨rfl, fun b h => by cases h⟩
  | [], _ :: _, h, _ => by cases h
  | _ :: _, [], h, _ => by cases h
  | k :: u, b :: bs, h, hb => by
    obtain ⟨h1, h2⟩ := acb_bs (u := u) (bs := bs) (by simpa using h) fun x hx => hb x (List.mem_cons_of_mem _ hx)
    have b2 := hb b List.mem_cons_self
    refine ⟨by show (acb u bs).length + 1 = _; rw [h1]; rfl, fun x hx => ?_⟩
    rcases List.mem_cons.mp hx with rfl | hx
    · unfold fl; split <;> omega
    · exact h2 x hx
/-- one row of bits -/
theorem pair_turn {T : We} {w u bs : List Nat} {s t : Nat} {h : Oh} {n d5 d7 d8 : D} {t9 t10 t11 : Sl} (hw : Wd w) (hu : Wd u) (hl : w.length ≤ 4) (he : u.length = w.length) (hs : s < 2) (ht : t < 2) (hb : Bs w.length bs)
    (k : ∀ t9 t10, T.nx ⟨[.f (fD w s), .f (fD u t), .f n, .f (.int (sm2 un w u : Nat)), .f (prd (wpa w s) (wpa u t)).e, .f (.str (wstr (wx w u))), .f (bitsD bs), .f d7, .f d8, t9, t10, t11], h⟩) :
    w__law_pair_b1 T ⟨[.f (fD w s), .f (fD u t), .f n, .f (.int (sm2 un w u : Nat)), .f (prd (wpa w s) (wpa u t)).e, .f (.str (wstr (wx w u))), .f (bitsD bs), .f d7, .f d8, t9, t10, t11], h⟩ := by
  have e1 : ((sm2 un w u : Nat) : Int) % 2 * 3 = ((3 * (sm2 un w u % 2) : Nat) : Int) := by omega
  have cm : CMulX (((sm2 un w u : Nat) : Int) % 2) 3 := cmul 1 2 (by omega) (by decide) (by decide)
  have hl' : (wx w u).length = w.length := wx_len he
  refine ⟨_, rfl, _, rfl, (by decide : (0 : Int) < 2), cm, u, t, bs, 3 * (sm2 un w u % 2), by rw [e1], hu, by omega, ht, by rw [he]; exact hb, by omega, rfl, ?_⟩
  change w__law_pair_b1_1 T ⟨[.f (fD w s), .f (fD u t), .f n, .f (.int (sm2 un w u : Nat)), .f (prd (wpa w s) (wpa u t)).e, .f (.str (wstr (wx w u))), .f (bitsD bs), .f d7, .f d8, .f (bitsD (acb u bs)), .f (.int ((3 * (sm2 un w u % 2) + 2 * t + act u bs) % 4 : Nat)), t11], h⟩
  have hb2 : Bs w.length (acb u bs) := by
    obtain ⟨q1, q2⟩ := acb_bs (u := u) (bs := bs) (by rw [he]; exact hb.1) hb.2
    exact ⟨by rw [q1, he], q2⟩
  refine ⟨_, rfl, _, rfl, w, s, acb u bs, _, rfl, hw, hl, hs, hb2, by omega, ?_⟩
  refine ⟨_, rfl, wx w u, _, bs, 0, rfl, wx_wd, by omega, prd_s _ _, by rw [hl']; exact hb, by omega, ?_⟩
  refine ⟨bitsD_sh _ _, bitsD_sh _ _, brF (ne_bits (acb_mul hw hu hb.2 he hb.1) (turns hw hu hb.2 he hb.1)) ?_⟩
  exact k _ _
theorem pair_loop (T : We) {w u : List Nat} {s t : Nat} {h : Oh} {n d5 d7 d8 : D} {t11 : Sl} (hw : Wd w) (hu : Wd u) (hl : w.length ≤ 4) (he : u.length = w.length) (hs : s < 2) (ht : t < 2) : ∀ (rows : List (List Nat)) (t6 t9 t10 : Sl), (∀ r ∈ rows, Bs w.length r) →
    (∀ t6 t9 t10, T.nx ⟨[.f (fD w s), .f (fD u t), .f n, .f (.int (sm2 un w u : Nat)), .f (prd (wpa w s) (wpa u t)).e, .f (.str (wstr (wx w u))), t6, .f d7, .f d8, t9, t10, t11], h⟩) →
    wForL (gVar 6) w__law_pair_b1 T (rows.map bitsD) ⟨[.f (fD w s), .f (fD u t), .f n, .f (.int (sm2 un w u : Nat)), .f (prd (wpa w s) (wpa u t)).e, .f (.str (wstr (wx w u))), t6, .f d7, .f d8, t9, t10, t11], h⟩
  | [], t6, t9, t10, hr, k => k _ _ _
  | r :: rows, t6, t9, t10, hr, k => forv (pair_turn (d5 := .non) hw hu hl he hs ht (hr r List.mem_cons_self) fun t9 t10 => pair_loop T (d5 := .non) hw hu hl he hs ht rows _ _ _ (fun x hx => hr x (List.mem_cons_of_mem _ hx)) k)
/-- the letters that are told of a mask -/
def lst (p : Pa) : D → Option D
  | .int i => some (.str ⟨#[lch (p.x / 2 ^ i.toNat) (p.z / 2 ^ i.toNat)]⟩)
  | _ => none
theorem lst_list (p : Pa) : ∀ l : List Nat, (l.map fun k => D.int (k : Nat)).filterMap (lst p) = l.map fun i => .str ⟨#[lch (p.x / 2 ^ i) (p.z / 2 ^ i)]⟩
  | [] => rfl
  | a :: l => by
    rw [List.map_cons, List.filterMap_cons, lst_list p l]
    rfl
theorem letters {v : List Nat} {s : Nat} (hv : Wd v) : ((List.range v.length).map fun i => D.str ⟨#[lch (wm bx v / 2 ^ i) (wm bz v / 2 ^ i)]⟩) = chD v := by
  refine List.ext_getElem? fun i => ?_
  unfold chD
  rw [List.getElem?_map, List.getElem?_map]
  by_cases h : i < v.length
  · rw [List.getElem?_range h, List.getElem?_eq_getElem h]
    show some (D.str ⟨#[lch (wm bx v / 2 ^ i) (wm bz v / 2 ^ i)]⟩) = some (D.str ⟨#[ch v[i]]⟩)
    rw [lch_at hv (List.getElem?_eq_getElem h)]
  · rw [List.getElem?_eq_none (by rw [List.length_range]; omega), List.getElem?_eq_none (by omega)]
    rfl
theorem prd_wx {w u : List Nat} {s t : Nat} (hw : Wd w) (hu : Wd u) (he : u.length = w.length) : prd (wpa w s) (wpa u t) = wpa (wx w u) (prd (wpa w s) (wpa u t)).s := by
  show (⟨wm bx w ^^^ wm bx u, wm bz w ^^^ wm bz u, _⟩ : Pa) = ⟨wm bx (wx w u), wm bz (wx w u), _⟩
  rw [wm_xor bx bx2 bx_xr hw hu he, wm_xor bz bz2 bz_xr hw hu he]
  rfl
theorem cmt_un {w u : List Nat} {s t : Nat} (hw : Wd w) (hu : Wd u) (he : u.length = w.length) : cmt (wpa w s) (wpa u t) = (sm2 un w u % 2 == 0) ∧ cmt (wpa u t) (wpa w s) = (sm2 un w u % 2 == 0) := by
  have h1 := pc_and bx bz bx2 bz2 hw hu he
  have h2 := pc_and bz bx bz2 bx2 hw hu he
  have h3 := par hw hu he
  have c1 : pc (wm bx u &&& wm bz w) = pc (wm bz w &&& wm bx u) := by rw [Nat.and_comm]
  have c2 : pc (wm bz u &&& wm bx w) = pc (wm bx w &&& wm bz u) := by rw [Nat.and_comm]
  constructor
  · show (pc (wm bx w &&& wm bz u) % 2 == pc (wm bz w &&& wm bx u) % 2) = _
    rw [h1, h2, Bool.eq_iff_iff, beq_iff_eq, beq_iff_eq]
    omega
  · show (pc (wm bx u &&& wm bz w) % 2 == pc (wm bz u &&& wm bx w) % 2) = _
    rw [c1, c2, h1, h2, Bool.eq_iff_iff, beq_iff_eq, beq_iff_eq]
    omega
theorem wm100 {w : List Nat} (hw : Wd w) (hl : w.length ≤ 4) : wm bx w < 2 ^ 100 ∧ wm bz w < 2 ^ 100 := by
  have h1 := wm_lt bx bx2 hw
  have h2 := wm_lt bz bz2 hw
  have h3 : 2 ^ w.length ≤ 2 ^ 100 := Nat.pow_le_pow_right (by decide) (by omega)
  omega
theorem pk__law_pair : Pk 2 10 sp__law_pair w__law_pair := by
  rintro ds h R _ ⟨w, u, s, t, rfl, hw, hu, hl, he, hs, ht, hR⟩
  have l1 := wstr_line (w := w) (by omega)
  have l0 := wstr_len w
  refine ⟨_, rfl, l1, ?_⟩
  change w__law_pair_1 (Fi R) ⟨[.f (fD w s), .f (fD u t), .f (.int ((wstr w).length : Nat)), .u, .u, .u, .u, .u, .u, .u, .u, .u], h⟩
  rw [l0]
  refine ⟨_, rfl, _, rfl, w, s, rfl, hw, by omega, _, rfl, _, rfl, u, t, rfl, hu, by omega, ?_⟩
  change w__law_pair_2 (Fi R) ⟨[.f (fD w s), .f (fD u t), .f (.int (w.length : Nat)), .u, .u, .u, .u, .f (wpa w s).e, .f (wpa u t).e, .u, .u, .u], h⟩
  refine ⟨⟨by omega, by omega⟩, rfl, ?_, ?_⟩
  · show ((List.range ((w.length : Nat) : Int).toNat).map _).length ≤ 1000000
    rw [List.length_map, List.length_range, Int.toNat_natCast]
    omega
  refine lcL_run (keepI fun i => match w[i]?, u[i]? with | some k, some l => dif k l | _, _ => false) _ _ (fun x hx C hC => ?_) ?_
  · obtain ⟨i, hi, rfl⟩ := range_mem hx
    obtain ⟨k, hk, k4⟩ := get4 hw hi
    obtain ⟨l, hk', l4⟩ := get4 hu (show i < u.length by omega)
    have lu := wstr_line (w := u) (by omega)
    have hC' : C (if dif k l then some (.int (i : Nat)) else none) h := by
      have e : keepI (fun i => match w[i]?, u[i]? with | some k, some l => dif k l | _, _ => false) (.int (i : Nat)) = if (match w[i]?, u[i]? with | some k, some l => dif k l | _, _ => false) then some (.int (i : Nat)) else none := rfl
      rw [e, hk, hk'] at hC
      exact hC
    refine ⟨_, rfl, l1, ch k, wstr_at hk, _, rfl, lu, ch l, wstr_at hk', rfl, ?_⟩
    have e1 : (!inD (.str (Str.ofString "I")) [.str ⟨#[ch k]⟩, .str ⟨#[ch l]⟩]) = !((k == 0) || (l == 0)) := by
      show (!(((⟨#[ch k]⟩ : Str) == ⟨#[ch 0]⟩) || (((⟨#[ch l]⟩ : Str) == ⟨#[ch 0]⟩) || false))) = _
      rw [chD_str k4 (by decide), chD_str l4 (by decide), Bool.or_false]
    show Br (!inD (.str (Str.ofString "I")) [.str ⟨#[ch k]⟩, .str ⟨#[ch l]⟩]) _ _
    rw [e1]
    unfold dif at hC'
    refine br (fun e => ?_) (fun e => ?_)
    · rw [e] at hC'
      refine ⟨_, rfl, l1, ch k, wstr_at hk, _, rfl, lu, ch l, wstr_at hk', ?_⟩
      show Br (!((⟨#[ch k]⟩ : Str) == ⟨#[ch l]⟩)) _ _
      rw [chD_str k4 l4]
      refine br (fun e => ?_) (fun e => ?_)
      · rw [e] at hC'
        exact ⟨rfl, hC'⟩
      · rw [e] at hC'
        exact ⟨rfl, hC'⟩
    · rw [e] at hC'
      exact brF rfl ⟨rfl, hC'⟩
  have hcnt : (([] ++ List.filterMap (keepI fun i => match w[i]?, u[i]? with | some k, some l => dif k l | _, _ => false) ((List.range ((w.length : Nat) : Int).toNat).map fun k => D.int (k : Nat))).length : Nat) = sm2 un w u := by
    rw [List.nil_append, Int.toNat_natCast, fm_range, List.length_map]
    exact (cnt dif he).trans un_dif
  change w__law_pair_3 (Fi R) ⟨[.f (fD w s), .f (fD u t), .f (.int (w.length : Nat)), .f (.int (([] ++ List.filterMap (keepI fun i => match w[i]?, u[i]? with | some k, some l => dif k l | _, _ => false) ((List.range ((w.length : Nat) : Int).toNat).map fun k => D.int (k : Nat))).length : Nat)), .u, .u, .u, .f (wpa w s).e, .f (wpa u t).e, .u, .u, .u], h⟩
  rw [hcnt]
  obtain ⟨b1, b2⟩ := wm100 hw hl
  refine ⟨wpa w s, wpa u t, rfl, hs, ht, b2, ?_⟩
  change w__law_pair_4 (Fi R) ⟨[.f (fD w s), .f (fD u t), .f (.int (w.length : Nat)), .f (.int (sm2 un w u : Nat)), .f (prd (wpa w s) (wpa u t)).e, .u, .u, .f (wpa w s).e, .f (wpa u t).e, .u, .u, .u], h⟩
  obtain ⟨c1, c2⟩ := cmt_un (s := s) (t := t) hw hu he
  have em : ((((sm2 un w u : Nat) : Int) % 2 == 0) = (sm2 un w u % 2 == 0)) := by
    rw [Bool.eq_iff_iff, beq_iff_eq, beq_iff_eq]
    omega
  have ne : ∀ b c : Bool, b = c → (!(b == c)) = false := fun b c e => by subst e; cases b <;> rfl
  refine ⟨wpa w s, wpa u t, rfl, (by decide : (0 : Int) < 2), brF (ne _ _ (c1.trans em.symm)) ⟨wpa u t, wpa w s, rfl, (by decide : (0 : Int) < 2), brF (ne _ _ (c2.trans em.symm)) ?_⟩⟩
  change w__law_pair_5 (Fi R) ⟨[.f (fD w s), .f (fD u t), .f (.int (w.length : Nat)), .f (.int (sm2 un w u : Nat)), .f (prd (wpa w s) (wpa u t)).e, .u, .u, .f (wpa w s).e, .f (wpa u t).e, .u, .u, .u], h⟩
  have hl' : (wx w u).length = w.length := wx_len he
  refine ⟨⟨by omega, by omega⟩, rfl, ?_, ?_⟩
  · show ((List.range ((w.length : Nat) : Int).toNat).map _).length ≤ 1000000
    rw [List.length_map, List.length_range, Int.toNat_natCast]
    omega
  refine lcL_run (lst (prd (wpa w s) (wpa u t))) _ _ (fun x hx C hC => ?_) ?_
  · obtain ⟨i, hi, rfl⟩ := range_mem hx
    exact brT rfl ⟨prd (wpa w s) (wpa u t), i, rfl, rfl, hC⟩
  rw [List.nil_append]
  have eL : List.filterMap (lst (prd (wpa w s) (wpa u t))) ((List.range ((w.length : Nat) : Int).toNat).map fun k => D.int (k : Nat)) = chD (wx w u) := by
    rw [Int.toNat_natCast, lst_list, prd_wx hw hu he, ← hl']
    exact letters (s := 0) wx_wd
  show mJoin (Str.ofString "") (.lst (List.filterMap (lst (prd (wpa w s) (wpa u t))) ((List.range ((w.length : Nat) : Int).toNat).map fun k => D.int (k : Nat)))) _
  rw [eL]
  refine join_run (by omega) ?_
  change w__law_pair_6 (Fi R) ⟨[.f (fD w s), .f (fD u t), .f (.int (w.length : Nat)), .f (.int (sm2 un w u : Nat)), .f (prd (wpa w s) (wpa u t)).e, .f (.str (wstr (wx w u))), .u, .f (wpa w s).e, .f (wpa u t).e, .u, .u, .u], h⟩
  have hs3 := prd_s (wpa w s) (wpa u t)
  refine ⟨_, rfl, wx w u, (prd (wpa w s) (wpa u t)).s, rfl, wx_wd, by omega, rfl, rfl, brF (ne_pe (prd_wx hw hu he)) ?_⟩
  refine ⟨_, rfl, rfl, brF ?_ ?_⟩
  · rcases m2 _ hs3 with q | q <;> rw [q] <;> rfl
  refine ⟨w.length, rfl, hl, fun rows hr => ?_⟩
  exact pair_loop { Fi R with nx := w__law_pair_8 (Fi R) } (d5 := .non) hw hu hl he hs ht rows _ _ _ hr fun t6 t9 t10 => hR
end K01

set_option Elab.async false
set_option linter.all false
set_option maxRecDepth 100000
set_option maxHeartbeats 400000
namespace K01
open PySem PySem.Spec VL VL.P
theorem wm_zeros (b : Nat → Nat) (h0 : b 0 = 0) (w : List Nat) : ∀ p : Nat, wm b (List.replicate p 0 ++ w) = wm b w * 2 ^ p
  | 0 => by simp
  | p + 1 => by
    show wm b (0 :: (List.replicate p 0 ++ w)) = _
    rw [wm_cons, wm_zeros b h0 w p, h0, Nat.pow_succ, Nat.add_zero, Nat.mul_comm (2 ^ p) 2, Nat.mul_left_comm]
theorem wm_end (b : Nat → Nat) (h0 : b 0 = 0) : ∀ w : List Nat, wm b (w ++ [0, 0]) = wm b w
  | [] => by
    show b 0 + 2 * (b 0 + 2 * 0) = 0
    rw [h0]
  | k :: w => by
    show wm b (k :: (w ++ [0, 0])) = _
    rw [wm_cons, wm_cons, wm_end b h0 w]
theorem mulI : ∀ p : Fin 20, Txt.mul (Str.ofString "I") (p.1 : Int) = wstr (List.replicate p.1 0) := by decide +kernel
theorem mulI_ok : ∀ p : Fin 20, PySem.MulOk (Str.ofString "I") (p.1 : Int) := by
  unfold PySem.MulOk
  decide +kernel
theorem wstr_app (v w : List Nat) : wstr v ++ wstr w = wstr (v ++ w) := by
  show (⟨(v.map ch).toArray ++ (w.map ch).toArray⟩ : Str) = ⟨((v ++ w).map ch).toArray⟩
  rw [List.map_append]
  simp
/-- what a mask keeps -/
def kp : List Nat → Nat → List Nat
  | [], _ => []
  | k :: w, m => (if m % 2 = 1 then k else 0) :: kp w (m / 2)
theorem kp_len : ∀ (w : List Nat) (m : Nat), (kp w m).length = w.length
  | [], _ => rfl
  | k :: w, m => by show (kp w (m / 2)).length + 1 = _; rw [kp_len w]; rfl
theorem kp_wd : ∀ {w : List Nat} {m : Nat}, Wd w → Wd (kp w m)
  | [], _, _ => fun k h => by cases h
  | a :: w, m, hw => fun k h => by
    rcases List.mem_cons.mp h with rfl | h
    · have := hw.hd
      split <;> omega
    · exact kp_wd hw.tl k h
theorem kp_at : ∀ {w : List Nat} {m i k : Nat}, w[i]? = some k → (kp w m)[i]? = some (if m / 2 ^ i % 2 = 1 then k else 0)
  | [], _, i, _, h => by cases h
  | a :: w, m, 0, k, h => by cases h; rw [Nat.pow_zero, Nat.div_one]; rfl
  | a :: w, m, i + 1, k, h => by
    have := kp_at (w := w) (m := m / 2) (i := i) (k := k) h
    rw [Nat.div_div_eq_div_mul, Nat.mul_comm, ← Nat.pow_succ] at this
    exact this
theorem wm_kp (b : Nat → Nat) (hb : ∀ k, k < 4 → b k < 2) (h0 : b 0 = 0) : ∀ {w : List Nat} {m : Nat}, Wd w → wm b (kp w m) = wm b w &&& m
  | [], m, _ => by
    show 0 = 0 &&& m
    rw [Nat.zero_and]
  | k :: w, m, hw => by
    show wm b ((if m % 2 = 1 then k else 0) :: kp w (m / 2)) = _
    have hm : m = 2 * (m / 2) + m % 2 := by omega
    have e : wm b (k :: w) &&& m = 2 * (wm b w &&& m / 2) + b k * (m % 2) := by
      conv => lhs; rw [hm]
      rw [wm_cons, and2 _ _ _ _ (hb k hw.hd) (Nat.mod_lt _ (by decide))]
    rw [wm_cons, wm_kp b hb h0 hw.tl, e]
    rcases m2 _ (Nat.mod_lt m (show 0 < 2 by decide)) with q | q
    · rw [q, if_neg (by decide), h0, Nat.mul_zero]
    · rw [q, if_pos rfl, Nat.mul_one]
def nz (k : Nat) : Nat := if k = 0 then 0 else 1
theorem nz2 : ∀ k, k < 4 → nz k < 2 := fun k _ => by unfold nz; split <;> decide
theorem wm_or : ∀ {w : List Nat}, Wd w → (wm bx w ||| wm bz w) = wm nz w
  | [], _ => by show 0 ||| 0 = 0; rfl
  | k :: w, hw => by
    rw [wm_cons, wm_cons, wm_cons, or2 _ _ _ _ bx_lt (bz_lt hw.hd), wm_or hw.tl]
    have k4 := hw.hd
    have c : k = 0 ∨ k = 1 ∨ k = 2 ∨ k = 3 := by omega
    rcases c with rfl | rfl | rfl | rfl <;> rfl
theorem cnt1 (f : Nat → Bool) : ∀ {w : List Nat}, ((List.range w.length).filter fun i => match w[i]? with | some k => f k | none => false).length = (w.filter f).length
  | [] => rfl
  | k :: w => by
    have ih := cnt1 f (w := w)
    rw [List.length_cons, List.range_succ_eq_map, List.filter_cons, List.filter_map, List.filter_cons]
    have e : (List.map Nat.succ ((List.range w.length).filter ((fun i => match (k :: w)[i]? with | some k => f k | none => false) ∘ Nat.succ))).length = (w.filter f).length := by
      rw [List.length_map]
      exact ih
    have e3 : ∀ x : List Nat, (if f k = true then 0 :: x else x).length = (if f k then 1 else 0) + x.length := fun x => by
      cases f k <;> simp <;> omega
    refine (e3 _).trans ?_
    rw [e]
    cases f k <;> simp <;> omega
theorem pc_nz : ∀ {w : List Nat}, Wd w → pc (wm nz w) = (w.filter fun k => k != 0).length
  | [], _ => rfl
  | k :: w, hw => by
    rw [wm_cons, pc2 _ _ (nz2 k hw.hd), pc_nz hw.tl, List.filter_cons]
    unfold nz
    by_cases h : k = 0
    · subst h; simp
    · simp [h]; omega
theorem filt_ext {p : Nat → Bool} {n m : Nat} (h1 : ∀ i, n ≤ i → p i = false) (h2 : ∀ i, m ≤ i → p i = false) : (List.range n).filter p = (List.range m).filter p := by
  have key : ∀ a b : Nat, a ≤ b → (∀ i, a ≤ i → p i = false) → (List.range b).filter p = (List.range a).filter p := fun a b hab h => by
    obtain ⟨c, rfl⟩ := Nat.exists_eq_add_of_le hab
    rw [List.range_add, List.filter_append]
    have : (List.map (fun x => a + x) (List.range c)).filter p = [] := by
      rw [List.filter_eq_nil_iff]
      intro x hx
      obtain ⟨y, _, rfl⟩ := List.mem_map.mp hx
      rw [h _ (Nat.le_add_right _ _)]
      decide
    rw [this, List.append_nil]
  rcases Nat.le_total n m with h | h
  · exact (key n m h h1).symm
  · exact key m n h h2
theorem lets_w {w : List Nat} (hw : Wd w) : lets (wm nz w) = (List.range w.length).filter fun i => match w[i]? with | some k => (k != 0) | none => false := by
  have e : ∀ i, i < w.length → (wm nz w / 2 ^ i % 2 == 1) = (match w[i]? with | some k => (k != 0) | none => false) := fun i hi => by
    rw [wm_div nz nz2 hw (List.getElem?_eq_getElem hi), List.getElem?_eq_getElem hi]
    show (nz w[i] == 1) = (w[i] != 0)
    unfold nz
    by_cases h : w[i] = 0
    · rw [if_pos h, h]; rfl
    · rw [if_neg h]; simp [h]
  have hz : ∀ i, w.length ≤ i → (wm nz w / 2 ^ i % 2 == 1) = false := fun i hi => by
    have h1 := wm_lt nz nz2 hw
    have h2 : 2 ^ w.length ≤ 2 ^ i := Nat.pow_le_pow_right (by decide) hi
    rw [Nat.div_eq_of_lt (by omega)]
    rfl
  have hz2 : ∀ i, (if wm nz w = 0 then 0 else (wm nz w).log2 + 1) ≤ i → (wm nz w / 2 ^ i % 2 == 1) = false := fun i hi => by
    by_cases h : wm nz w = 0
    · rw [h, Nat.zero_div]; rfl
    · rw [if_neg h] at hi
      have h1 := Nat.lt_log2_self (n := wm nz w)
      have h2 : 2 ^ ((wm nz w).log2 + 1) ≤ 2 ^ i := Nat.pow_le_pow_right (by decide) hi
      rw [Nat.div_eq_of_lt (by omega)]
      rfl
  unfold lets
  rw [filt_ext hz2 hz]
  refine List.filter_congr fun i hi => ?_
  exact e i (List.mem_range.mp hi)
end K01

set_option Elab.async false
set_option linter.all false
set_option maxRecDepth 100000
set_option maxHeartbeats 400000
namespace K01
open PySem PySem.Spec PyProof.Rows L2 VL VL.P
theorem ch4 {k : Nat} (h : k < 4) : ((⟨#[ch k]⟩ : Str) == Str.ofString "I") = (k == 0) := by
  have := chD_str h (show 0 < 4 by decide)
  exact this
def nl (l : List Nat) : D := .lst (l.map fun q => .int (q : Nat))
theorem nl_sh (l : List Nat) : shD 8 (nl l) = true := by
  show (l.map fun q => D.int (q : Nat)).all (shD 7) = true
  rw [List.all_eq_true]
  intro x hx
  obtain ⟨b, _, rfl⟩ := List.mem_map.mp hx
  rfl
theorem ne_nl {l m : List Nat} (h : l = m) : (!eqD (nl l) (nl m)) = false := by
  subst h
  show (!eqDs (bl l) (bl l)) = false
  rw [bl_eq]
  rfl
theorem chD_sh (w : List Nat) : shD 8 (.lst (chD w)) = true := by
  show (chD w).all (shD 7) = true
  rw [List.all_eq_true]
  intro x hx
  obtain ⟨b, _, rfl⟩ := List.mem_map.mp hx
  show PyData.strOk ⟨#[ch b]⟩ = true
  have : ch b < 128 := by
    unfold ch lch
    split <;> split <;> decide
  simp [PyData.strOk]
  omega
theorem chD_eq : ∀ w : List Nat, eqDs (chD w) (chD w) = true
  | [] => rfl
  | k :: w => by
    show ((⟨#[ch k]⟩ : Str) == ⟨#[ch k]⟩ && eqDs (chD w) (chD w)) = true
    rw [chD_eq w]
    simp
/-- a kept letter -/
def kpl (w : List Nat) (m : Nat) : D → Option D
  | .int i => (w[i.toNat]?).map fun k => .str ⟨#[ch (if m / 2 ^ i.toNat % 2 = 1 then k else 0)]⟩
  | _ => none
theorem kpl_list (w : List Nat) (m : Nat) : ((List.range w.length).map fun k => D.int (k : Nat)).filterMap (kpl w m) = chD (kp w m) := by
  have e : ∀ l : List Nat, (∀ i ∈ l, i < w.length) → (l.map fun k => D.int (k : Nat)).filterMap (kpl w m) = l.map fun i => .str ⟨#[ch ((kp w m).getD i 0)]⟩ := fun l => by
    induction l with
    | nil => intro _; rfl
    | cons a l ih =>
      intro h
      have ha := h a List.mem_cons_self
      have q : kpl w m (.int (a : Nat)) = some (.str ⟨#[ch ((kp w m).getD a 0)]⟩) := by
        show (w[a]?).map (fun k => D.str ⟨#[ch (if m / 2 ^ a % 2 = 1 then k else 0)]⟩) = _
        rw [List.getElem?_eq_getElem ha, List.getD, kp_at (List.getElem?_eq_getElem ha)]
        rfl
      rw [List.map_cons, List.filterMap_cons, q, ih fun i hi => h i (List.mem_cons_of_mem _ hi)]
      rfl
  rw [e _ fun i hi => List.mem_range.mp hi]
  refine List.ext_getElem? fun i => ?_
  unfold chD
  rw [List.getElem?_map, List.getElem?_map]
  by_cases h : i < w.length
  · rw [List.getElem?_range h, List.getElem?_eq_getElem (show i < (kp w m).length by rw [kp_len]; exact h)]
    show some (D.str ⟨#[ch ((kp w m)[i]?.getD 0)]⟩) = _
    rw [List.getElem?_eq_getElem (show i < (kp w m).length by rw [kp_len]; exact h)]
    rfl
  · rw [List.getElem?_eq_none (by rw [List.length_range]; omega), List.getElem?_eq_none (by rw [kp_len]; omega)]
    rfl
/-- the places of w that are not I -/
def lit (w : List Nat) : List Nat := (List.range w.length).filter fun i => match w[i]? with | some k => (k != 0) | none => false
theorem lit_at {w : List Nat} {i : Nat} (h : i ∈ lit w) : ∃ k, w[i]? = some k ∧ k ≠ 0 := by
  have := (List.mem_filter.mp h).2
  cases e : w[i]? with
  | none => rw [e] at this; cases this
  | some k => rw [e] at this; exact ⟨k, rfl, by simpa using this⟩
theorem parts_turn {T : We} {w : List Nat} {h : Oh} {i : Nat} {d1 d2 d3 d4 d5 d6 : D} (hw : Wd w) (hl : w.length ≤ 4) (hi : i ∈ lit w)
    (k : T.nx ⟨[.f (.str (wstr w)), .f d1, .f d2, .f d3, .f d4, .f d5, .f d6, .f (.int (i : Nat))], h⟩) : w__law_parts_b1 T ⟨[.f (.str (wstr w)), .f d1, .f d2, .f d3, .f d4, .f d5, .f d6, .f (.int (i : Nat))], h⟩ := by
  have l1 := wstr_line (w := w) (by omega)
  obtain ⟨a, ha, a0⟩ := lit_at hi
  have a4 := hw a (List.mem_of_getElem? ha)
  have hi' : i < w.length := (List.getElem?_eq_some_iff.mp ha).1
  have hm := mulI ⟨i, by omega⟩
  have hmo := mulI_ok ⟨i, by omega⟩
  refine ⟨l1, ch a, wstr_at ha, a, i, a4, by omega, rfl, ?_⟩
  refine ⟨hmo, l1, ch a, wstr_at ha, ?_⟩
  have es : Txt.mul (Str.ofString "I") ((i : Nat) : Int) ++ (⟨#[ch a]⟩ : Str) = wstr (List.replicate i 0 ++ [a]) := by
    rw [hm, ← wstr_app]
    rfl
  have el : (wstr (List.replicate i 0 ++ [a])).length = i + 1 := by rw [wstr_len, List.length_append, List.length_replicate]; rfl
  have ll : (Txt.mul (Str.ofString "I") ((i : Nat) : Int)).length + (⟨#[ch a]⟩ : Str).length ≤ sizeLine := by
    rw [hm, wstr_len, List.length_replicate]
    show i + 1 ≤ sizeLine
    have := sizeLine_eq
    omega
  refine ⟨ll, List.replicate i 0 ++ [a], 0, ?_, ?_, ?_, ?_⟩
  · rw [es]; rfl
  · intro x hx
    rcases List.mem_append.mp hx with z | z
    · rw [List.eq_of_mem_replicate z]; decide
    · rw [List.mem_singleton.mp z]; exact a4
  · rw [List.length_append, List.length_replicate]
    show i + 1 ≤ 30
    omega
  · refine ⟨pe_sh _, pe_sh _, brF (ne_pe ?_) k⟩
    show (⟨a % 2 * 2 ^ i, a / 2 * 2 ^ i, 0⟩ : Pa) = ⟨wm bx (List.replicate i 0 ++ [a]), wm bz (List.replicate i 0 ++ [a]), 0⟩
    rw [wm_zeros bx rfl, wm_zeros bz rfl]
    show _ = (⟨(bx a + 2 * 0) * 2 ^ i, (bz a + 2 * 0) * 2 ^ i, 0⟩ : Pa)
    rfl
/-- a name that owns nothing -/
def NoO (t : Sl) : Prop := t = .u ∨ ∃ d, t = .f d
theorem parts_loop (T : We) {w : List Nat} {h : Oh} {d1 d2 d3 d4 d5 d6 : D} (hw : Wd w) (hl : w.length ≤ 4) : ∀ (ls : List Nat) (t7 : Sl), NoO t7 → (∀ i ∈ ls, i ∈ lit w) → (∀ t7, NoO t7 → T.nx ⟨[.f (.str (wstr w)), .f d1, .f d2, .f d3, .f d4, .f d5, .f d6, t7], h⟩) →
    wForL (gVar 7) w__law_parts_b1 T (ls.map fun q => .int (q : Nat)) ⟨[.f (.str (wstr w)), .f d1, .f d2, .f d3, .f d4, .f d5, .f d6, t7], h⟩
  | [], t7, h7, _, k => k t7 h7
  | i :: ls, t7, h7, hi, k => forv (parts_turn hw hl (hi i List.mem_cons_self) (parts_loop T hw hl ls _ (.inr ⟨_, rfl⟩) (fun x hx => hi x (List.mem_cons_of_mem _ hx)) k))
end K01

set_option Elab.async false
set_option linter.all false
set_option maxRecDepth 100000
set_option maxHeartbeats 400000
namespace K01
open PySem PySem.Spec PyProof.Rows L2 VL VL.P
theorem chars_w (w : List Nat) : chars (wstr w) = chD w := by
  unfold chars chD
  show ((w.map ch).toArray.toList).map _ = _
  rw [List.toList_toArray, List.map_map]
  rfl
theorem range_len (n : Nat) : ((List.range ((n : Nat) : Int).toNat).map fun k => D.int (k : Nat)).length = n := by rw [List.length_map, List.length_range, Int.toNat_natCast]
theorem pk__law_parts : Pk 4 4 sp__law_parts w__law_parts := by
  rintro ds h R _ ⟨w, s, m, p, rfl, hw, hl, hs, hm, hp, hR⟩
  have l1 := wstr_line (w := w) (by omega)
  have l0 := wstr_len w
  have bd : (-(2 : Int) ^ 62) ≤ ((wstr w).length : Nat) ∧ (((wstr w).length : Nat) : Int) < 2 ^ 62 := by rw [l0]; constructor <;> omega
  refine ⟨w, s, rfl, hw, by omega, ?_⟩
  change w__law_parts_1 (Fi R) ⟨[.f (.str (wstr w)), .f (.int s), .f (.int m), .f (.int p), .f (wpa w s).e, .u, .u, .u], h⟩
  refine ⟨l1, bd, rfl, ?_, ?_⟩
  · show ((List.range (((wstr w).length : Nat) : Int).toNat).map fun k => D.int (k : Nat)).length ≤ 1000000
    rw [range_len, l0]
    omega
  refine lcL_run (kpl w m) _ _ (fun x hx C hC => ?_) ?_
  · obtain ⟨i, hi, rfl⟩ := range_mem hx
    rw [l0] at hi
    obtain ⟨k, hk, k4⟩ := get4 hw hi
    have hC' : C (some (.str ⟨#[ch (if m / 2 ^ i % 2 = 1 then k else 0)]⟩)) h := by
      have e : kpl w m (.int (i : Nat)) = (w[i]?).map fun k => .str ⟨#[ch (if m / 2 ^ i % 2 = 1 then k else 0)]⟩ := rfl
      rw [e, hk] at hC
      exact hC
    have e1 : (1 : Int) * 2 ^ ((i : Nat) : Int).toNat = ((2 ^ i : Nat) : Int) := by rw [show (1 : Int) = ((1 : Nat) : Int) from rfl, shl_nn, Nat.one_mul]
    have i4 : 2 ^ i ≤ 2 ^ 4 := Nat.pow_le_pow_right (by decide) (by omega)
    have ip : 0 < 2 ^ i := Nat.pow_pos (by decide)
    have e16 : (2 : Nat) ^ 4 = 16 := by decide
    refine brT rfl ⟨shl_ok (n := 1) (by decide) (by omega), ?_, (by decide : (0 : Int) < 2), ?_⟩
    · show CDivW (m : Int) ((1 : Int) * 2 ^ ((i : Nat) : Int).toNat)
      rw [e1]
      exact cdiv (by omega) (by omega)
    · show Br ((m : Int) / ((1 : Int) * 2 ^ ((i : Nat) : Int).toNat) % 2 == 1) _ _
      have e2 : ((m : Int) / ((1 : Int) * 2 ^ ((i : Nat) : Int).toNat) % 2 == 1) = (m / 2 ^ i % 2 == 1) := by
        rw [e1, Bool.eq_iff_iff, beq_iff_eq, beq_iff_eq, show (m : Int) / ((2 ^ i : Nat) : Int) = ((m / 2 ^ i : Nat) : Int) from (Int.natCast_ediv m (2 ^ i)).symm]
        omega
      rw [e2]
      refine br (fun e => ?_) (fun e => ?_)
      · rw [if_pos (by simpa using e)] at hC'
        exact ⟨l1, ch k, wstr_at hk, rfl, hC'⟩
      · rw [if_neg (by simpa using e)] at hC'
        exact ⟨rfl, hC'⟩
  rw [List.nil_append]
  have eL : List.filterMap (kpl w m) ((List.range (((wstr w).length : Nat) : Int).toNat).map fun k => D.int (k : Nat)) = chD (kp w m) := by
    rw [Int.toNat_natCast, l0, kpl_list]
  show mJoin (Str.ofString "") (.lst (List.filterMap (kpl w m) ((List.range (((wstr w).length : Nat) : Int).toNat).map fun k => D.int (k : Nat)))) _
  rw [eL]
  refine join_run (by rw [kp_len]; omega) ?_
  change w__law_parts_2 (Fi R) ⟨[.f (.str (wstr w)), .f (.int s), .f (.int m), .f (.int p), .f (wpa w s).e, .f (.str (wstr (kp w m))), .u, .u], h⟩
  refine ⟨l1, bd, rfl, ?_, ?_⟩
  · show ((List.range (((wstr w).length : Nat) : Int).toNat).map fun k => D.int (k : Nat)).length ≤ 1000000
    rw [range_len, l0]
    omega
  refine lcL_run (keepI fun i => match w[i]? with | some k => (k != 0) | none => false) _ _ (fun x hx C hC => ?_) ?_
  · obtain ⟨i, hi, rfl⟩ := range_mem hx
    rw [l0] at hi
    obtain ⟨k, hk, k4⟩ := get4 hw hi
    have hC' : C (if (k != 0) then some (.int (i : Nat)) else none) h := by
      have e : keepI (fun i => match w[i]? with | some k => (k != 0) | none => false) (.int (i : Nat)) = if (match w[i]? with | some k => (k != 0) | none => false) then some (.int (i : Nat)) else none := rfl
      rw [e, hk] at hC
      exact hC
    refine ⟨l1, ch k, wstr_at hk, ?_⟩
    show Br (!((⟨#[ch k]⟩ : Str) == Str.ofString "I")) _ _
    rw [ch4 k4]
    refine br (fun e => ?_) (fun e => ?_)
    · rw [if_pos (by simpa using e)] at hC'
      exact ⟨rfl, hC'⟩
    · rw [if_neg (by simpa using e)] at hC'
      exact ⟨rfl, hC'⟩
  rw [List.nil_append]
  have eN : List.filterMap (keepI fun i => match w[i]? with | some k => (k != 0) | none => false) ((List.range (((wstr w).length : Nat) : Int).toNat).map fun k => D.int (k : Nat)) = (lit w).map fun q => .int (q : Nat) := by
    rw [Int.toNat_natCast, l0, fm_range]
    rfl
  change w__law_parts_3 (Fi R) ⟨[.f (.str (wstr w)), .f (.int s), .f (.int m), .f (.int p), .f (wpa w s).e, .f (.str (wstr (kp w m))), .f (.lst (List.filterMap (keepI fun i => match w[i]? with | some k => (k != 0) | none => false) ((List.range (((wstr w).length : Nat) : Int).toNat).map fun k => D.int (k : Nat)))), .u], h⟩
  rw [eN]
  change w__law_parts_3 (Fi R) ⟨[.f (.str (wstr w)), .f (.int s), .f (.int m), .f (.int p), .f (wpa w s).e, .f (.str (wstr (kp w m))), .f (nl (lit w)), .u], h⟩
  obtain ⟨b1, b2⟩ := wm100 hw hl
  have hM := mulI ⟨p, hp⟩
  have hMo := mulI_ok ⟨p, hp⟩
  have wz : Wd (List.replicate p 0 ++ w) := fun x hx => by
    rcases List.mem_append.mp hx with z | z
    · rw [List.eq_of_mem_replicate z]; decide
    · exact hw x z
  have es : Txt.mul (Str.ofString "I") ((p : Nat) : Int) ++ wstr w = wstr (List.replicate p 0 ++ w) := by
    rw [hM, ← wstr_app]
  have ll : (Txt.mul (Str.ofString "I") ((p : Nat) : Int)).length + (wstr w).length ≤ sizeLine := by
    rw [hM, wstr_len, List.length_replicate, l0]
    have := sizeLine_eq
    omega
  refine ⟨wpa w s, m, rfl, kp w m, 0, rfl, kp_wd hw, by rw [kp_len]; omega, pe_sh _, pe_sh _, brF (ne_pe ?_) ?_⟩
  · show (⟨wm bx w &&& m, wm bz w &&& m, 0⟩ : Pa) = ⟨wm bx (kp w m), wm bz (kp w m), 0⟩
    rw [wm_kp bx bx2 rfl hw, wm_kp bz bz2 rfl hw]
  refine ⟨wpa w s, p, rfl, b1, b2, by omega, hMo, ll, List.replicate p 0 ++ w, s, by rw [es], wz, ?_, pe_sh _, pe_sh _, brF (ne_pe ?_) ?_⟩
  · rw [List.length_append, List.length_replicate]
    omega
  · show (⟨wm bx w * 2 ^ p, wm bz w * 2 ^ p, s⟩ : Pa) = ⟨wm bx (List.replicate p 0 ++ w), wm bz (List.replicate p 0 ++ w), s⟩
    rw [wm_zeros bx rfl, wm_zeros bz rfl]
  change w__law_parts_4 (Fi R) ⟨[.f (.str (wstr w)), .f (.int s), .f (.int m), .f (.int p), .f (wpa w s).e, .f (.str (wstr (kp w m))), .f (nl (lit w)), .u], h⟩
  have eo := wm_or hw
  have el : lets (wm bx w ||| wm bz w) = lit w := by rw [eo]; exact lets_w hw
  have ln : (lit w).length = pc (wm bx w ||| wm bz w) := by rw [eo, pc_nz hw]; exact cnt1 fun k => k != 0
  have lnl : (((lit w).map fun q => D.int (q : Nat)).length : Nat) = pc (wm bx w ||| wm bz w) := by rw [List.length_map, ln]
  refine ⟨wpa w s, rfl, b1, b2, nl_sh _, nl_sh _, brF (ne_nl el) ?_⟩
  refine ⟨wpa w s, rfl, ?_⟩
  have e5 : (!(((wpa w s).w : Int) == ((((lit w).map fun q => D.int (q : Nat)).length : Nat) : Int))) = false := by
    rw [lnl]
    show (!(((pc (wm bx w ||| wm bz w) : Nat) : Int) == _)) = false
    simp
  refine brF e5 ⟨wpa w s, rfl, _, rfl, _, rfl, rfl, rfl, brF ?_ ?_⟩
  · show (!(((wpa w s).w : Int) == ((((lit w).map fun q => D.int (q : Nat)).length : Nat) : Int) && (((wm bx w : Nat) : Int) == ((wm bx w : Nat) : Int) && (((wm bz w : Nat) : Int) == ((wm bz w : Nat) : Int) && true)))) = false
    have : (((wpa w s).w : Int) == ((((lit w).map fun q => D.int (q : Nat)).length : Nat) : Int)) = true := by simpa using e5
    rw [this]
    simp
  refine parts_loop { Fi R with nx := w__law_parts_6 (Fi R) } hw hl (lit w) _ (.inl rfl) (fun i hi => hi) fun t7 h7 => ?_
  have e2 : ((((wstr w).length : Nat) : Int) + 2) = ((w.length + 2 : Nat) : Int) := by rw [l0]; omega
  have lv : (w ++ [0, 0]).length = w.length + 2 := by rw [List.length_append]; rfl
  have wv : Wd (w ++ [0, 0]) := fun x hx => by
    rcases List.mem_append.mp hx with z | z
    · exact hw x z
    · simp at z; rw [z]; decide
  refine ⟨l1, ⟨by rw [e2]; omega, by rw [e2]; omega⟩, (by rcases h7 with rfl | ⟨d, rfl⟩ <;> rfl), ?_, ?_⟩
  · show ((List.range ((((wstr w).length : Nat) : Int) + 2).toNat).map fun k => D.int (k : Nat)).length ≤ 1000000
    rw [e2, range_len]
    omega
  refine lcL_run (lst (wpa w s)) _ _ (fun x hx C hC => ?_) ?_
  · rw [e2] at hx
    obtain ⟨i, hi, rfl⟩ := range_mem hx
    exact brT rfl ⟨wpa w s, i, rfl, rfl, hC⟩
  rw [List.nil_append]
  have eL : List.filterMap (lst (wpa w s)) ((List.range ((((wstr w).length : Nat) : Int) + 2).toNat).map fun k => D.int (k : Nat)) = chD (w ++ [0, 0]) := by
    rw [e2, Int.toNat_natCast, lst_list, ← lv]
    have q := letters (v := w ++ [0, 0]) (s := 0) wv
    rw [wm_end bx rfl, wm_end bz rfl] at q
    exact q
  have eR : chars (wstr w) ++ [D.str (Str.ofString "I"), D.str (Str.ofString "I")] = chD (w ++ [0, 0]) := by
    rw [chars_w]
    unfold chD
    rw [List.map_append]
    rfl
  refine ⟨l1, ?_, ?_⟩
  · show (chars (wstr w)).length + 2 ≤ sizeLine
    rw [chars_w]
    show (w.map _).length + 2 ≤ sizeLine
    rw [List.length_map]
    have := sizeLine_eq
    omega
  · show opEq (.lst (List.filterMap (lst (wpa w s)) ((List.range ((((wstr w).length : Nat) : Int) + 2).toNat).map fun k => D.int (k : Nat)))) (.lst (chars (wstr w) ++ [D.str (Str.ofString "I"), D.str (Str.ofString "I")])) _
    rw [eL, eR]
    refine ⟨chD_sh _, chD_sh _, ?_⟩
    show R (.bl (eqDs (chD (w ++ [0, 0])) (chD (w ++ [0, 0])))) h
    rw [chD_eq]
    exact hR
end K01

set_option Elab.async false
set_option linter.all false
set_option maxRecDepth 100000
set_option maxHeartbeats 400000
namespace K01
open PySem PySem.Spec PyProof.Rows L2 VL VL.P
/-- a row that of_weight may hold -/
def Ok (r : Pa) : Prop := r.x < 2 ^ 50 ∧ r.z < 2 ^ 50 ∧ r.s < 2
def pl (l : List Pa) : List D := l.map Pa.e
theorem pl_app (l : List Pa) (p : Pa) : pl l ++ [p.e] = pl (l ++ [p]) := by unfold pl; rw [List.map_append]; rfl
theorem sng_lt {k q : Nat} (hk : k < 4) (hq : q < 40) : (sng k q).x < 2 ^ 50 ∧ (sng k q).z < 2 ^ 50 := by
  have h1 : 2 ^ q ≤ 2 ^ 40 := Nat.pow_le_pow_right (by decide) (by omega)
  have e : (2 : Nat) ^ 50 = 1024 * 2 ^ 40 := by decide
  have h2 : k % 2 * 2 ^ q ≤ 1 * 2 ^ q := Nat.mul_le_mul_right _ (by omega)
  have h3 : k / 2 * 2 ^ q ≤ 1 * 2 ^ q := Nat.mul_le_mul_right _ (by omega)
  have p40 : 0 < 2 ^ 40 := by decide
  constructor
  · show k % 2 * 2 ^ q < 2 ^ 50
    omega
  · show k / 2 * 2 ^ q < 2 ^ 50
    omega
theorem prd_ok {r : Pa} {k q : Nat} (hr : Ok r) (hk : k < 4) (hq : q < 40) : Ok (prd r (sng k q)) :=
  ⟨Nat.xor_lt_two_pow hr.1 (sng_lt hk hq).1, Nat.xor_lt_two_pow hr.2.1 (sng_lt hk hq).2, prd_s _ _⟩
/-- a letter more on a row -/
theorem ow_turn {T : We} {d0 d1 d2 d3 : D} {L : List Pa} {r : Pa} {k q c : Nat} {h : Oh} (hr : Ok r) (hk : k < 4) (hq : q < 40) (hc : ch k = c) (hL : L.length < 2000)
    (kk : T.nx ⟨[.f d0, .f d1, .f d2, .f d3, .o (.lst (pl (L ++ [prd r (sng k q)]))), .f r.e, .f (.int (q : Nat)), .f (.str ⟨#[c]⟩)], h⟩) :
    w_of_weight_b4 T ⟨[.f d0, .f d1, .f d2, .f d3, .o (.lst (pl L)), .f r.e, .f (.int (q : Nat)), .f (.str ⟨#[c]⟩)], h⟩ := by
  subst hc
  have hz := sizeLine_eq
  have z100 : r.z < 2 ^ 100 := Nat.lt_trans hr.2.1 (by decide)
  refine ⟨⟨_, rfl⟩, k, q, hk, by omega, rfl, r, sng k q, rfl, hr.2.2, (by show 0 < 2; decide), z100, _, rfl, ?_, ?_⟩
  · show (pl L).length < sizeLine
    unfold pl
    rw [List.length_map]
    omega
  · show T.nx ⟨[.f d0, .f d1, .f d2, .f d3, .o (.lst (pl L ++ [(prd r (sng k q)).e])), .f r.e, .f (.int (q : Nat)), .f (.str ⟨#[ch k]⟩)], h⟩
    rw [pl_app]
    exact kk
theorem ow_turn3 {T : We} {d0 d1 d2 d3 : D} {L : List Pa} {r : Pa} {q : Nat} {t7 : Sl} {h : Oh} (hr : Ok r) (hq : q < 40) (hL : L.length < 1990)
    (kk : ∀ t7, T.nx ⟨[.f d0, .f d1, .f d2, .f d3, .o (.lst (pl (L ++ [1, 3, 2].map fun k => prd r (sng k q)))), .f r.e, .f (.int (q : Nat)), t7], h⟩) :
    w_of_weight_b3 T ⟨[.f d0, .f d1, .f d2, .f d3, .o (.lst (pl L)), .f r.e, .f (.int (q : Nat)), t7], h⟩ := by
  change wForL (gVar 7) w_of_weight_b4 T [.str ⟨#[88]⟩, .str ⟨#[89]⟩, .str ⟨#[90]⟩] ⟨[.f d0, .f d1, .f d2, .f d3, .o (.lst (pl L)), .f r.e, .f (.int (q : Nat)), t7], h⟩
  refine forv ?_
  refine ow_turn (k := 1) hr (by decide) hq rfl (by omega) ?_
  dsimp only
  refine forv ?_
  refine ow_turn (k := 3) hr (by decide) hq rfl (by rw [List.length_append]; show L.length + 1 < _; omega) ?_
  dsimp only
  refine forv ?_
  refine ow_turn (k := 2) hr (by decide) hq rfl (by rw [List.length_append, List.length_append]; show L.length + 1 + 1 < _; omega) ?_
  have := kk (.f (.str ⟨#[90]⟩))
  rw [List.append_assoc, List.append_assoc]
  exact this
theorem ow_loop2 (T : We) {d0 d1 d2 d3 : D} {r : Pa} {h : Oh} (hr : Ok r) : ∀ (qs : List Nat) (L : List Pa) (t6 t7 : Sl), (∀ q ∈ qs, q < 40) → L.length + 3 * qs.length < 1990 →
    (∀ t6 t7, T.nx ⟨[.f d0, .f d1, .f d2, .f d3, .o (.lst (pl (L ++ qs.flatMap fun q => [1, 3, 2].map fun k => prd r (sng k q)))), .f r.e, t6, t7], h⟩) →
    wForL (gVar 6) w_of_weight_b3 T (qs.map fun q => .int (q : Nat)) ⟨[.f d0, .f d1, .f d2, .f d3, .o (.lst (pl L)), .f r.e, t6, t7], h⟩
  | [], L, t6, t7, _, _, kk => by
    have := kk t6 t7
    rw [List.flatMap_nil, List.append_nil] at this
    exact this
  | q :: qs, L, t6, t7, hq, hl, kk => by
    rw [List.length_cons] at hl
    refine forv ?_
    refine ow_turn3 hr (hq q List.mem_cons_self) (by omega) fun t7 => ?_
    refine ow_loop2 T hr qs _ _ _ (fun x hx => hq x (List.mem_cons_of_mem _ hx)) ?_ fun t6 t7 => ?_
    · rw [List.length_append]
      show L.length + 3 + 3 * qs.length < 1990
      omega
    · have := kk t6 t7
      rw [List.flatMap_cons, ← List.append_assoc] at this
      exact this
theorem blen_le {r : Pa} (hr : Ok r) : blen r ≤ 50 := by
  unfold blen
  split
  · omega
  · rename_i hne
    have := (Nat.log2_lt hne).mpr (Nat.or_lt_two_pow hr.1 hr.2.1)
    omega
theorem ow_row {T : We} {n : Nat} {d1 d2 d3 : D} {L : List Pa} {r : Pa} {t6 t7 : Sl} {h : Oh} (hr : Ok r) (hn : n ≤ 3) (hL : L.length < 1900)
    (kk : ∀ t6 t7, T.nx ⟨[.f (.int (n : Nat)), .f d1, .f d2, .f d3, .o (.lst (pl (L ++ grow n r))), .f r.e, t6, t7], h⟩) :
    w_of_weight_b2 T ⟨[.f (.int (n : Nat)), .f d1, .f d2, .f d3, .o (.lst (pl L)), .f r.e, t6, t7], h⟩ := by
  have hb := blen_le hr
  have e1 : ((Builtin.Int.intBits (Builtin.bitOr (r.x : Int) r.z) : Nat) : Int) = (blen r : Int) := by
    rw [or_nn, bits_nn]
    rfl
  have e2 : ((n : Int) - (blen r : Int)).toNat = n - blen r := by omega
  refine ⟨_, rfl, _, rfl, ⟨by omega, by omega, by omega, by omega⟩, ?_⟩
  show wForL (gVar 6) w_of_weight_b3 T ((List.range ((n : Int) - ((Builtin.Int.intBits (Builtin.bitOr (r.x : Int) r.z) : Nat) : Int)).toNat).map fun k => .int (((Builtin.Int.intBits (Builtin.bitOr (r.x : Int) r.z) : Nat) : Int) + (k : Nat))) _
  rw [e1, e2]
  have e3 : ((List.range (n - blen r)).map fun k => D.int ((blen r : Int) + (k : Nat))) = ((List.range (n - blen r)).map fun k => blen r + k).map fun q => D.int (q : Nat) := by
    rw [List.map_map]
    refine List.map_congr_left fun k _ => ?_
    show D.int _ = D.int _
    congr 1
  rw [e3]
  refine ow_loop2 T hr _ L _ _ (fun q hq => ?_) ?_ kk
  · obtain ⟨k, hk, rfl⟩ := List.mem_map.mp hq
    rw [List.mem_range] at hk
    omega
  · rw [List.length_map, List.length_range]
    omega
theorem grow_ok {n : Nat} {r : Pa} (hr : Ok r) (hn : n ≤ 3) : (∀ x ∈ grow n r, Ok x) ∧ (grow n r).length ≤ 9 := by
  constructor
  · intro x hx
    obtain ⟨q, hq, hx⟩ := List.mem_flatMap.mp hx
    obtain ⟨k, hk, rfl⟩ := List.mem_map.mp hq
    rw [List.mem_range] at hk
    obtain ⟨c, hc, rfl⟩ := List.mem_map.mp hx
    refine prd_ok hr ?_ (by omega)
    simp at hc
    omega
  · unfold grow
    have e : ∀ l : List Nat, (l.flatMap fun q => [1, 3, 2].map fun k => prd r (sng k q)).length = 3 * l.length := fun l => by
      induction l with
      | nil => rfl
      | cons a l ih =>
        rw [List.flatMap_cons, List.length_append, ih, List.length_cons]
        show 3 + 3 * l.length = _
        omega
    rw [e, List.length_map, List.length_range]
    omega
theorem ow_loop1 (T : We) {n : Nat} {d1 d2 d3 : D} {h : Oh} (hn : n ≤ 3) : ∀ (rs L : List Pa) (t5 t6 t7 : Sl), (∀ r ∈ rs, Ok r) → L.length + 9 * rs.length < 1900 →
    (∀ t5 t6 t7, T.nx ⟨[.f (.int (n : Nat)), .f d1, .f d2, .f d3, .o (.lst (pl (L ++ rs.flatMap (grow n)))), t5, t6, t7], h⟩) →
    wForL (gVar 5) w_of_weight_b2 T (pl rs) ⟨[.f (.int (n : Nat)), .f d1, .f d2, .f d3, .o (.lst (pl L)), t5, t6, t7], h⟩
  | [], L, t5, t6, t7, _, _, kk => by
    have := kk t5 t6 t7
    rw [List.flatMap_nil, List.append_nil] at this
    exact this
  | r :: rs, L, t5, t6, t7, hr, hl, kk => by
    rw [List.length_cons] at hl
    obtain ⟨g1, g2⟩ := grow_ok (hr r List.mem_cons_self) hn
    refine forv ?_
    refine ow_row (hr r List.mem_cons_self) hn (by omega) fun t6 t7 => ?_
    refine ow_loop1 T hn rs _ _ _ _ (fun x hx => hr x (List.mem_cons_of_mem _ hx)) ?_ fun t5 t6 t7 => ?_
    · rw [List.length_append]
      omega
    · have := kk t5 t6 t7
      rw [List.flatMap_cons, ← List.append_assoc] at this
      exact this
theorem owt_ok {n : Nat} (hn : n ≤ 3) : ∀ m, (∀ x ∈ owt n m, Ok x) ∧ (owt n m).length ≤ 9 ^ m
  | 0 => ⟨fun x hx => by
      rw [List.mem_singleton.mp hx]
      exact ⟨by decide, by decide, by decide⟩, by show 1 ≤ 1; decide⟩
  | m + 1 => by
    obtain ⟨h1, h2⟩ := owt_ok hn m
    constructor
    · intro x hx
      obtain ⟨r, hr, hx⟩ := List.mem_flatMap.mp hx
      exact (grow_ok (h1 r hr) hn).1 x hx
    · have e : ∀ l : List Pa, (∀ r ∈ l, Ok r) → (l.flatMap (grow n)).length ≤ 9 * l.length := fun l => by
        induction l with
        | nil => intro _; exact Nat.le_refl _
        | cons a l ih =>
          intro h
          have := ih fun x hx => h x (List.mem_cons_of_mem _ hx)
          have := (grow_ok (h a List.mem_cons_self) hn).2
          rw [List.flatMap_cons, List.length_append, List.length_cons]
          omega
      have := e _ h1
      show ((owt n m).flatMap (grow n)).length ≤ 9 ^ (m + 1)
      rw [Nat.pow_succ]
      omega
theorem ow_loop0 (T : We) {n : Nat} {d1 : D} {h : Oh} (hn : n ≤ 3) : ∀ (ts : List D) (j : Nat) (t3 t4 t5 t6 t7 : Sl), j + ts.length ≤ 3 →
    (∀ t3 t4 t5 t6 t7, T.nx ⟨[.f (.int (n : Nat)), .f d1, .f (.lst (pl (owt n (j + ts.length)))), t3, t4, t5, t6, t7], h⟩) →
    wForL (gVar 3) w_of_weight_b1 T ts ⟨[.f (.int (n : Nat)), .f d1, .f (.lst (pl (owt n j))), t3, t4, t5, t6, t7], h⟩
  | [], j, t3, t4, t5, t6, t7, hj, kk => kk _ _ _ _ _
  | t :: ts, j, t3, t4, t5, t6, t7, hj, kk => by
    rw [List.length_cons] at hj kk
    obtain ⟨o1, o2⟩ := owt_ok hn j
    have h2 : 9 ^ j ≤ 9 ^ 2 := Nat.pow_le_pow_right (by decide) (by omega)
    have e81 : (9 : Nat) ^ 2 = 81 := by decide
    refine forv ?_
    change w_of_weight_b1_1 { T with nx := wForL (gVar 3) w_of_weight_b1 T ts, ct := wForL (gVar 3) w_of_weight_b1 T ts, bk := T.nx } ⟨[.f (.int (n : Nat)), .f d1, .f (.lst (pl (owt n j))), .f t, .o (.lst (pl [])), t5, t6, t7], h⟩
    refine ow_loop1 _ hn (owt n j) [] _ _ _ o1 (by show 0 + 9 * _ < 1900; omega) fun t5 t6 t7 => ?_
    refine ow_loop0 T hn ts (j + 1) _ _ _ _ _ (by omega) fun t3 t4 t5 t6 t7 => ?_
    rw [show j + 1 + ts.length = j + (ts.length + 1) by omega]
    exact kk _ _ _ _ _
theorem kfR_e (p : Pa) : kfR p.e = rnk p := rfl
theorem sort_run {l : List Pa} {h : Oh} {Q : D → Prop} (hl : l.length ≤ 1000) (hQ : Q (srt l)) : ∃ kf : D → D, (∀ x ∈ pl l, KeyOf sp_rank h x (kf x)) ∧ (∀ x ∈ pl l, shD 8 (kf x) = true) ∧ PySem.W.AllAlike ((pl l).map fun x => (kf x).pd) ∧ PySem.W.Sortable ((pl l).map fun x => (kf x).pd) ∧ (pl l).length ≤ sizeLine ∧ Q (.lst ((pl l).mergeSort (PySem.W.dataLe false fun x => (kf x).pd))) := by
  have m : ∀ d ∈ ((pl l).map fun x => (kfR x).pd), ∃ a b c : Int, d = .tuple [.int a, .int b, .int c] := fun d hd => by
    obtain ⟨x, hx, rfl⟩ := List.mem_map.mp hd
    obtain ⟨p, _, rfl⟩ := List.mem_map.mp hx
    exact ⟨_, _, _, rfl⟩
  refine ⟨kfR, fun x hx => ?_, fun x hx => ?_, fun d hd d' hd' => ?_, .inl fun d hd => ?_, ?_, hQ⟩
  · obtain ⟨p, _, rfl⟩ := List.mem_map.mp hx
    exact ⟨p, rfl, rfl, rfl⟩
  · obtain ⟨p, _, rfl⟩ := List.mem_map.mp hx
    rfl
  · obtain ⟨a, b, c, rfl⟩ := m d hd
    obtain ⟨a', b', c', rfl⟩ := m d' hd'
    rfl
  · obtain ⟨a, b, c, rfl⟩ := m d hd
    exact ⟨_, _, rfl⟩
  · unfold pl
    rw [List.length_map]
    have := sizeLine_eq
    omega
theorem pk_of_weight : Pk 2 6 sp_of_weight w_of_weight := by
  rintro ds h R _ ⟨n, m, rfl, hn, hm, hR⟩
  change w_of_weight_1 (Fi R) ⟨[.f (.int (n : Nat)), .f (.int (m : Nat)), .f (.lst (pl (owt n 0))), .u, .u, .u, .u, .u], h⟩
  refine ⟨⟨by omega, by omega⟩, ?_⟩
  refine ow_loop0 { Fi R with nx := w_of_weight_2 (Fi R) } hn _ 0 _ _ _ _ _ (by rw [range_len]; omega) fun t3 t4 t5 t6 t7 => ?_
  rw [range_len, Nat.zero_add]
  have := (owt_ok hn m).2
  have h3 : 9 ^ m ≤ 9 ^ 3 := Nat.pow_le_pow_right (by decide) hm
  have e3 : (9 : Nat) ^ 3 = 729 := by decide
  exact sort_run (Q := fun d => R d h) (by omega) hR
end K01

set_option Elab.async false
set_option linter.all false
set_option maxRecDepth 100000
set_option maxHeartbeats 400000
namespace K01
open PySem PySem.Spec PyProof.Rows L2 VL VL.P
def wl (ws : List (List Nat)) : List D := ws.map fun w => .str (wstr w)
/-- one letter more on each row -/
def apx (c : Nat) : D → Option D
  | .str x => some (.str (x ++ ⟨#[c]⟩))
  | _ => none
theorem apx_list (k : Nat) : ∀ ws : List (List Nat), (wl ws).filterMap (apx (ch k)) = wl (ws.map (· ++ [k]))
  | [] => rfl
  | w :: ws => by
    have ih := apx_list k ws
    have e : apx (ch k) (.str (wstr w)) = some (.str (wstr (w ++ [k]))) := by
      show some (D.str (wstr w ++ wstr [k])) = _
      rw [wstr_app]
    show List.filterMap (apx (ch k)) (.str (wstr w) :: wl ws) = _
    rw [List.filterMap_cons, e, ih]
    rfl
theorem wl_app (a b : List (List Nat)) : wl a ++ wl b = wl (a ++ b) := by unfold wl; rw [List.map_append]
theorem wl_len (a : List (List Nat)) : (wl a).length = a.length := by unfold wl; rw [List.length_map]
theorem lw_turn {T : We} {d0 d1 d3 : D} {t4 : Sl} {ws ls : List (List Nat)} {k c : Nat} {h : Oh} (hc : ch k = c) (hw : ∀ w ∈ ws, w.length ≤ 10) (h1 : ws.length ≤ 100) (h2 : ls.length ≤ 1000)
    (kk : T.nx ⟨[.f d0, .f d1, .f (.lst (wl ws)), .f d3, t4, .f (.lst (wl (ls ++ ws.map (· ++ [k])))), .f (.str ⟨#[c]⟩), .u], h⟩) :
    w__law_weights_b2 T ⟨[.f d0, .f d1, .f (.lst (wl ws)), .f d3, t4, .f (.lst (wl ls)), .f (.str ⟨#[c]⟩), .u], h⟩ := by
  subst hc
  have hz := sizeLine_eq
  refine ⟨rfl, (by rw [wl_len]; omega), ?_⟩
  refine lcL_run (apx (ch k)) _ _ (fun x hx C hC => ?_) ?_
  · obtain ⟨w, hw', rfl⟩ := List.mem_map.mp hx
    have := hw w hw'
    refine brT rfl ⟨?_, rfl, hC⟩
    rw [wstr_len]
    show w.length + 1 ≤ sizeLine
    omega
  rw [List.nil_append, apx_list]
  refine ⟨?_, ?_⟩
  · rw [wl_len, wl_len, List.length_map]
    omega
  · rw [wl_app]
    exact kk
theorem wds_ok : ∀ n : Nat, (∀ w ∈ wds n, Wd w ∧ w.length = n) ∧ (wds n).length = 4 ^ n
  | 0 => ⟨fun w hw => by rw [List.mem_singleton.mp hw]; exact ⟨(fun k h => by cases h), rfl⟩, rfl⟩
  | n + 1 => by
    obtain ⟨h1, h2⟩ := wds_ok n
    constructor
    · intro w hw
      obtain ⟨k, hk, hw⟩ := List.mem_flatMap.mp hw
      obtain ⟨v, hv, rfl⟩ := List.mem_map.mp hw
      obtain ⟨a, b⟩ := h1 v hv
      refine ⟨fun x hx => ?_, by rw [List.length_append, b]; rfl⟩
      rcases List.mem_append.mp hx with z | z
      · exact a x z
      · rw [List.mem_singleton.mp z]
        simp at hk
        omega
    · show (((wds n).map _) ++ (((wds n).map _) ++ (((wds n).map _) ++ (((wds n).map _) ++ [])))).length = _
      simp only [List.length_append, List.length_map, List.length_nil, h2, Nat.pow_succ]
      omega
theorem lw_loop (T : We) {d0 d1 : D} {h : Oh} : ∀ (ts : List D) (j : Nat) (t3 t4 t5 t6 : Sl), j + ts.length ≤ 3 → NoO t4 → NoO t6 →
    (∀ t3 t4 t5 t6, NoO t4 → NoO t6 → T.nx ⟨[.f d0, .f d1, .f (.lst (wl (wds (j + ts.length)))), t3, t4, t5, t6, .u], h⟩) →
    wForL (gVar 3) w__law_weights_b1 T ts ⟨[.f d0, .f d1, .f (.lst (wl (wds j))), t3, t4, t5, t6, .u], h⟩
  | [], j, t3, t4, t5, t6, hj, n4, n6, kk => kk _ _ _ _ n4 n6
  | t :: ts, j, t3, t4, t5, t6, hj, n4, n6, kk => by
    rw [List.length_cons] at hj kk
    obtain ⟨w1, w2⟩ := wds_ok j
    have h2 : 4 ^ j ≤ 4 ^ 2 := Nat.pow_le_pow_right (by decide) (by omega)
    have e16 : (4 : Nat) ^ 2 = 16 := by decide
    have hl : ∀ w ∈ wds j, w.length ≤ 10 := fun w hw => by rw [(w1 w hw).2]; omega
    refine forv ?_
    change wForL (gVar 6) w__law_weights_b2 { ({ T with nx := wForL (gVar 3) w__law_weights_b1 T ts, ct := wForL (gVar 3) w__law_weights_b1 T ts, bk := T.nx } : We) with nx := w__law_weights_b1_2 { T with nx := wForL (gVar 3) w__law_weights_b1 T ts, ct := wForL (gVar 3) w__law_weights_b1 T ts, bk := T.nx } } [.str ⟨#[73]⟩, .str ⟨#[88]⟩, .str ⟨#[89]⟩, .str ⟨#[90]⟩] ⟨[.f d0, .f d1, .f (.lst (wl (wds j))), .f t, t4, .f (.lst (wl [])), t6, .u], h⟩
    refine forv ?_
    refine lw_turn (k := 0) rfl hl (by omega) (by decide) ?_
    dsimp only
    refine forv ?_
    refine lw_turn (k := 1) rfl hl (by omega) (by simp only [List.length_append, List.length_map, List.length_nil]; omega) ?_
    dsimp only
    refine forv ?_
    refine lw_turn (k := 3) rfl hl (by omega) (by simp only [List.length_append, List.length_map, List.length_nil]; omega) ?_
    dsimp only
    refine forv ?_
    refine lw_turn (k := 2) rfl hl (by omega) (by simp only [List.length_append, List.length_map, List.length_nil]; omega) ?_
    have ew : (([] ++ (wds j).map (· ++ [0])) ++ (wds j).map (· ++ [1])) ++ (wds j).map (· ++ [3]) ++ (wds j).map (· ++ [2]) = wds (j + 1) := by
      show _ = (wds j).map _ ++ ((wds j).map _ ++ ((wds j).map _ ++ ((wds j).map _ ++ [])))
      simp only [List.nil_append, List.append_assoc, List.append_nil]
    rw [ew]
    refine lw_loop T ts (j + 1) _ _ _ _ (by omega) n4 (.inr ⟨_, rfl⟩) fun t3 t4 t5 t6 n4 n6 => ?_
    rw [show j + 1 + ts.length = j + (ts.length + 1) by omega]
    exact kk _ _ _ _ n4 n6
/-- signs other than I -/
def noI : D → Option D
  | .str x => if x == Str.ofString "I" then none else some (.str x)
  | _ => none
theorem noI_list : ∀ {w : List Nat}, Wd w → ((chD w).filterMap noI).length = (w.filter fun k => k != 0).length
  | [], _ => rfl
  | k :: w, hw => by
    have ih := noI_list hw.tl
    have e : noI (.str ⟨#[ch k]⟩) = if (k == 0) then none else some (.str ⟨#[ch k]⟩) := by
      show (if (⟨#[ch k]⟩ : Str) == Str.ofString "I" then none else some _) = _
      rw [ch4 hw.hd]
    show (List.filterMap noI (.str ⟨#[ch k]⟩ :: chD w)).length = _
    rw [List.filterMap_cons, e, List.filter_cons]
    by_cases q : k = 0
    · subst q; exact ih
    · have q1 : (k == 0) = false := by simpa using q
      have q2 : (k != 0) = true := by simpa using q
      rw [q1, q2]
      show ((chD w).filterMap noI).length + 1 = _
      rw [ih]
      rfl
/-- a row that has the weight, as masks -/
def wst (ws : List (List Nat)) (m : Nat) : List D := ((ws.filter fun w => (w.filter fun k => k != 0).length == m).map fun w => (wpa w 0).e)
theorem lw_comp {g : WG} {tt : WT} {te : WE} {vs : List Nat} {s0 : List Sl} {h : Oh} (m : Nat) : ∀ (ws : List (List Nat)) (acc : List D) {R : List D → Oh → Prop},
    (∀ w ∈ ws, ∀ C : Option D → Oh → Prop, C (if (w.filter fun k => k != 0).length == m then some (wpa w 0).e else none) h → g (.str (wstr w)) ⟨wipeS s0 vs, h⟩ fun S1 => tt S1 fun b S2 => Br b (te S2 fun d S3 => wipeS S3.s vs = wipeS s0 vs ∧ C (some d) S3.h) (wipeS S2.s vs = wipeS s0 vs ∧ C none S2.h)) →
    R (acc ++ wst ws m) h → wLcL g tt te vs s0 R (wl ws) h acc
  | [], acc, R, _, hR => by
    have e : acc ++ wst [] m = acc := List.append_nil _
    rw [e] at hR
    exact hR
  | w :: ws, acc, R, hs, hR => by
    have ih := fun a => lw_comp (g := g) (tt := tt) (te := te) (vs := vs) (s0 := s0) (h := h) m ws a (R := R) fun y hy => hs y (List.mem_cons_of_mem _ hy)
    refine hs w List.mem_cons_self (fun o h' => wLcL g tt te vs s0 R (wl ws) h' (match o with | some d => acc ++ [d] | none => acc)) ?_
    have e : wst (w :: ws) m = if (w.filter fun k => k != 0).length == m then (wpa w 0).e :: wst ws m else wst ws m := by
      unfold wst
      rw [List.filter_cons]
      split <;> rfl
    rw [e] at hR
    cases q : (w.filter fun k => k != 0).length == m with
    | false =>
      rw [q, if_neg (by decide)] at hR
      exact ih acc hR
    | true =>
      rw [q, if_pos rfl] at hR
      refine ih (acc ++ [(wpa w 0).e]) ?_
      rw [List.append_assoc]
      exact hR
end K01

set_option Elab.async false
set_option linter.all false
set_option maxRecDepth 100000
set_option maxHeartbeats 400000
namespace K01
open PySem PySem.Spec PyProof.Rows L2 VL VL.P
theorem pk__law_weights : Pk 2 6 sp__law_weights w__law_weights := by
  rintro ds h R _ ⟨n, m, rfl, hn, hm, hR⟩
  change w__law_weights_1 (Fi R) ⟨[.f (.int (n : Nat)), .f (.int (m : Nat)), .f (.lst (wl (wds 0))), .u, .u, .u, .u, .u], h⟩
  refine ⟨⟨by omega, by omega⟩, ?_⟩
  refine lw_loop { Fi R with nx := w__law_weights_2 (Fi R) } _ 0 _ _ _ _ (by rw [range_len]; omega) (.inl rfl) (.inl rfl) fun t3 t4 t5 t6 n4 n6 => ?_
  rw [range_len, Nat.zero_add]
  obtain ⟨w1, w2⟩ := wds_ok n
  have h2 : 4 ^ n ≤ 4 ^ 3 := Nat.pow_le_pow_right (by decide) hn
  have e64 : (4 : Nat) ^ 3 = 64 := by decide
  refine ⟨rfl, (by rw [wl_len]; omega), ?_⟩
  refine lw_comp m (wds n) [] (fun w hw C hC => ?_) ?_
  · obtain ⟨ww, wn⟩ := w1 w hw
    have l1 := wstr_line (w := w) (by omega)
    have l0 := wstr_len w
    refine ⟨?_, ?_, ?_⟩
    · rcases n6 with rfl | ⟨d, rfl⟩ <;> rfl
    · show (chars (wstr w)).length ≤ 1000000
      rw [chars_w]
      show (w.map _).length ≤ 1000000
      rw [List.length_map]
      omega
    show wLcL _ _ _ _ _ _ (chars (wstr w)) _ _
    rw [chars_w]
    refine lcL_run noI _ _ (fun x hx C' hC' => ?_) ?_
    · obtain ⟨k, hk, rfl⟩ := List.mem_map.mp hx
      have k4 := ww k hk
      have e : noI (.str ⟨#[ch k]⟩) = if (k == 0) then none else some (.str ⟨#[ch k]⟩) := by
        show (if (⟨#[ch k]⟩ : Str) == Str.ofString "I" then none else some _) = _
        rw [ch4 k4]
      rw [e] at hC'
      show Br (!((⟨#[ch k]⟩ : Str) == Str.ofString "I")) _ _
      rw [ch4 k4]
      cases q : (k == 0) with
      | true =>
        rw [q] at hC'
        exact brF rfl ⟨rfl, hC'⟩
      | false =>
        rw [q] at hC'
        exact brT rfl ⟨rfl, hC'⟩
    · rw [List.nil_append]
      show Br ((((chD w).filterMap noI).length : Int) == (m : Int)) _ _
      rw [noI_list ww]
      have e : (((w.filter fun k => k != 0).length : Int) == (m : Int)) = ((w.filter fun k => k != 0).length == m) := by
        rw [Bool.eq_iff_iff, beq_iff_eq, beq_iff_eq]
        omega
      rw [e]
      refine br (fun q => ?_) (fun q => ?_)
      · rw [q, if_pos rfl] at hC
        exact ⟨w, 0, rfl, ww, by omega, rfl, hC⟩
      · rw [q, if_neg (by decide)] at hC
        exact ⟨rfl, hC⟩
  have hl : (lwt n m).length ≤ 1000 := by
    unfold lwt
    rw [List.length_map]
    have := List.length_filter_le (fun w => (w.filter fun k => k != 0).length == m) (wds n)
    omega
  have e : wst (wds n) m = pl (lwt n m) := by
    unfold wst lwt pl
    rw [List.map_map]
    rfl
  rw [List.nil_append, e]
  exact sort_run (Q := fun d => R d h) hl hR
end K01

set_option Elab.async false
set_option linter.all false
set_option maxRecDepth 100000
set_option maxHeartbeats 400000
namespace K01
open PySem PySem.Spec PyProof.Rows L2 VL VL.P
theorem perm9 : ∀ n : Fin 3, ∀ m : Fin 4, m.1 ≤ n.1 + 1 → (owt (n.1 + 1) m.1).isPerm (lwt (n.1 + 1) m.1) = true := by decide +kernel
theorem toks_inj {p q : Pa} (hp : p.s = 0) (hq : q.s = 0) (h : PySem.W.keyToks (rnk p).pd = PySem.W.keyToks (rnk q).pd) : p = q := by
  have e : ∀ p : Pa, PySem.W.keyToks (rnk p).pd = PySem.W.keyToks (.tuple [.int p.w, .int p.x, .int p.z]) := fun _ => rfl
  rw [e, e] at h
  simp only [PySem.W.keyToks, PySem.W.keyToksAll, List.cons_append, List.nil_append, List.cons.injEq, Sum.inl.injEq, true_and, and_true] at h
  obtain ⟨_, h1, h2⟩ := h
  obtain ⟨x, z, s⟩ := p
  obtain ⟨x', z', s'⟩ := q
  have hp' : s = 0 := hp
  have hq' : s' = 0 := hq
  have a1 : x = x' := Int.ofNat.inj h1
  have a2 : z = z' := Int.ofNat.inj h2
  subst a1 a2 hp' hq'
  rfl
theorem srt_perm {l m : List Pa} (h : l.Perm m) (hm : ∀ p ∈ m, p.s = 0) : srt l = srt m := by
  have T := PySem.W.sortLe_total (listOrd itemOrd) false (fun d : D => PySem.W.keyToks (kfR d).pd)
  have hl : ∀ p ∈ l, p.s = 0 := fun p hp => hm p (h.mem_iff.mp hp)
  have key : (pl l).mergeSort (PySem.W.dataLe false fun d => (kfR d).pd) = (pl m).mergeSort (PySem.W.dataLe false fun d => (kfR d).pd) := by
    refine List.Perm.eq_of_pairwise (le := fun a b => PySem.W.dataLe false (fun d => (kfR d).pd) a b = true) (fun a b ha hb h1 h2 => ?_) (List.pairwise_mergeSort T.trans (fun a b => by simpa using T.total a b) _) (List.pairwise_mergeSort T.trans (fun a b => by simpa using T.total a b) _) (((List.mergeSort_perm _ _).trans (h.map _)).trans (List.mergeSort_perm _ _).symm)
    obtain ⟨p, hp, rfl⟩ := List.mem_map.mp ((List.mergeSort_perm _ _).mem_iff.mp ha)
    obtain ⟨q, hq, rfl⟩ := List.mem_map.mp ((List.mergeSort_perm _ _).mem_iff.mp hb)
    have g1 : (!(listOrd itemOrd).blt (PySem.W.keyToks (rnk q).pd) (PySem.W.keyToks (rnk p).pd)) = true := h1
    have g2 : (!(listOrd itemOrd).blt (PySem.W.keyToks (rnk p).pd) (PySem.W.keyToks (rnk q).pd)) = true := h2
    have e : PySem.W.keyToks (rnk p).pd = PySem.W.keyToks (rnk q).pd := by
      refine (listOrd itemOrd).total _ _ ?_ ?_
      · simpa using g2
      · simpa using g1
    rw [toks_inj (hl p hp) (hm q hq) e]
  show D.lst _ = D.lst _
  exact congrArg D.lst key
theorem lwt_s (n m : Nat) : ∀ p ∈ lwt n m, p.s = 0 := fun p hp => by
  obtain ⟨w, _, rfl⟩ := List.mem_map.mp hp
  rfl
theorem same {n m : Nat} (h1 : 1 ≤ n) (h3 : n ≤ 3) (hm : m ≤ n) : srt (owt n m) = srt (lwt n m) := by
  have := perm9 ⟨n - 1, by omega⟩ ⟨m, by omega⟩ (by show m ≤ n - 1 + 1; omega)
  have e : n - 1 + 1 = n := by omega
  rw [show (⟨n - 1, by omega⟩ : Fin 3).1 + 1 = n from e] at this
  exact srt_perm (List.isPerm_iff.mp this) (lwt_s n m)
theorem srt_ok {l : List Pa} : shD 8 (srt l) = true ∧ eqD (srt l) (srt l) = true := by
  have m : ∀ x ∈ (pl l).mergeSort (PySem.W.dataLe false fun d => (kfR d).pd), ∃ p : Pa, x = p.e := fun x hx => by
    obtain ⟨p, _, rfl⟩ := List.mem_map.mp ((List.mergeSort_perm _ _).mem_iff.mp hx)
    exact ⟨p, rfl⟩
  show ((pl l).mergeSort (PySem.W.dataLe false fun d => (kfR d).pd)).all (shD 7) = true ∧ eqDs ((pl l).mergeSort (PySem.W.dataLe false fun d => (kfR d).pd)) ((pl l).mergeSort (PySem.W.dataLe false fun d => (kfR d).pd)) = true
  generalize (pl l).mergeSort (PySem.W.dataLe false fun d => (kfR d).pd) = xs at m
  induction xs with
  | nil => exact ⟨rfl, rfl⟩
  | cons x xs ih =>
    obtain ⟨i1, i2⟩ := ih fun y hy => m y (List.mem_cons_of_mem _ hy)
    obtain ⟨p, rfl⟩ := m x List.mem_cons_self
    refine ⟨?_, ?_⟩
    · rw [List.all_cons, i1]; rfl
    · show (eqD p.e p.e && eqDs xs xs) = true
      rw [pe_eq, i2]; rfl
/-! ### the law -/
theorem law_turn {T : We} {sc d2 d3 : D} {n : Nat} {a : Addr} {t4 t5 t6 t7 : Sl} {h : Oh} (hn : n ≤ 4) (hT : Tp h a)
    (k : ∀ h' t6 t7, Tp h' a → T.nx ⟨[.f sc, .f (.obj a), .f (.int (n : Nat)), .f d3, t4, t5, t6, t7], h'⟩) : w_law_b1 T ⟨[.f sc, .f (.obj a), .f (.int (n : Nat)), .f d3, t4, t5, t6, t7], h⟩ := by
  refine ⟨a, n, rfl, hn, hT, fun w h1 hw lw hT1 _ => ?_⟩
  refine draw hT1 (by decide) (by decide) fun s h2 s0 s1 hT2 _ => ?_
  obtain ⟨s', rfl⟩ := Int.eq_ofNat_of_zero_le s0
  change w_law_b1_1 T ⟨[.f sc, .f (.obj a), .f (.int (n : Nat)), .f d3, t4, t5, .f (fD w s'), t7], h2⟩
  refine ⟨a, n, rfl, hn, hT2, fun u h3 hu lu hT3 _ => ?_⟩
  refine draw hT3 (by decide) (by decide) fun t h4 t0 t1 hT4 _ => ?_
  obtain ⟨t', rfl⟩ := Int.eq_ofNat_of_zero_le t0
  change w_law_b1_2 T ⟨[.f sc, .f (.obj a), .f (.int (n : Nat)), .f d3, t4, t5, .f (fD w s'), .f (fD u t')], h4⟩
  refine ⟨w, u, s', t', rfl, hw, hu, by omega, by omega, by omega, by omega, brF rfl ⟨w, w, s', s', rfl, hw, hw, by omega, rfl, by omega, by omega, brF rfl ?_⟩⟩
  change w_law_b1_3 T ⟨[.f sc, .f (.obj a), .f (.int (n : Nat)), .f d3, t4, t5, .f (fD w s'), .f (fD u t')], h4⟩
  refine ⟨_, rfl, _, rfl, ?_⟩
  refine draw hT4 (by decide) (by decide) fun m h5 m0 m1 hT5 _ => ?_
  refine draw hT5 (by decide) (by decide) fun p h6 p0 p1 hT6 _ => ?_
  obtain ⟨m', rfl⟩ := Int.eq_ofNat_of_zero_le m0
  obtain ⟨p', rfl⟩ := Int.eq_ofNat_of_zero_le p0
  exact ⟨w, s', m', p', rfl, hw, by omega, by omega, by omega, by omega, brF rfl (k _ _ _ hT6)⟩
theorem law_loop (T : We) {sc d2 : D} {n : Nat} {a : Addr} {t4 t5 : Sl} (hn : n ≤ 4) : ∀ (ts : List D) (h : Oh) (t3 t6 t7 : Sl), Tp h a → (∀ h' t3 t6 t7, Tp h' a → T.nx ⟨[.f sc, .f (.obj a), .f (.int (n : Nat)), t3, t4, t5, t6, t7], h'⟩) →
    wForL (gVar 3) w_law_b1 T ts ⟨[.f sc, .f (.obj a), .f (.int (n : Nat)), t3, t4, t5, t6, t7], h⟩
  | [], h, t3, t6, t7, hT, k => k _ _ _ _ hT
  | t :: ts, h, t3, t6, t7, hT, k => forv (law_turn (d2 := .non) hn hT fun h' t6 t7 hT' => law_loop T (d2 := .non) hn ts h' _ _ _ hT' k)
theorem pk_law : Pk 1 7 sp_law w_law := by
  rintro ds h R _ ⟨ns, rfl, hl, hR⟩
  intro a ha
  change w_law_1 (Fi R) ⟨[.f (.scr ns), .f (.obj a), .u, .u, .u, .u, .u, .u], h.put a (.ml [.lst (ns.map .int), .int 0, .int 0, .int 3])⟩
  have hT : Tp (h.put a (.ml [.lst (ns.map .int), .int 0, .int 0, .int 3])) a := ⟨ns, 0, 0, 3, Oh.put_same, hl, by decide, by decide, by decide, by decide⟩
  refine draw hT (by decide) (by decide) fun q h1 q0 q1 hT1 _ => ?_
  obtain ⟨q', rfl⟩ := Int.eq_ofNat_of_zero_le q0
  have e1 : (1 : Int) + (q' : Int) = ((1 + q' : Nat) : Int) := by omega
  change w_law_2 (Fi R) ⟨[.f (.scr ns), .f (.obj a), .f (.int ((1 : Int) + (q' : Int))), .u, .u, .u, .u, .u], h1⟩
  rw [e1]
  refine draw hT1 (by decide) (by decide) fun v h2 v0 v1 hT2 _ => ?_
  refine ⟨⟨by omega, by omega⟩, ?_⟩
  refine law_loop { Fi R with nx := w_law_3 (Fi R) } (d2 := .non) (by omega) _ h2 _ _ _ hT2 fun h3 t3 t6 t7 hT3 => ?_
  obtain ⟨f, hf⟩ : ∃ f : Nat, f = 1 + (1 + q') % 3 := ⟨_, rfl⟩
  have e2 : (1 : Int) + ((1 + q' : Nat) : Int) % 3 = (f : Int) := by omega
  refine ⟨(by decide : (0 : Int) < 3), ?_⟩
  change w_law_4 (Fi R) ⟨[.f (.scr ns), .f (.obj a), .f (.int ((1 + q' : Nat) : Int)), t3, .f (.int ((1 : Int) + ((1 + q' : Nat) : Int) % 3)), .u, t6, t7], h3⟩
  rw [e2]
  refine draw hT3 (by omega) (by omega) fun m h4 m0 m1 hT4 _ => ?_
  obtain ⟨m', rfl⟩ := Int.eq_ofNat_of_zero_le m0
  change w_law_5 (Fi R) ⟨[.f (.scr ns), .f (.obj a), .f (.int ((1 + q' : Nat) : Int)), t3, .f (.int (f : Nat)), .f (.int (m' : Nat)), t6, t7], h4⟩
  refine ⟨f, m', rfl, by omega, by omega, f, m', rfl, by omega, by omega, ?_⟩
  rw [same (n := f) (m := m') (by omega) (by omega) (by omega)]
  obtain ⟨o1, o2⟩ := srt_ok (l := lwt f m')
  refine ⟨o1, o1, ?_⟩
  show R (.bl (eqD (srt (lwt f m')) (srt (lwt f m')))) h4
  rw [o2]
  exact hR _
end K01

set_option Elab.async false
set_option linter.all false
set_option maxRecDepth 100000
set_option maxHeartbeats 4000000
namespace K01
open PySem PySem.Spec L2 VL
theorem blk_any {N : List Str} {sc sc2 scope : Scope} {own : List (Str × Nat)} (h : BlkOk N sc scope own) (hf : scope.names.all (fun y => y.2 != .free) = true) : BlkOk N sc2 scope own := ⟨h.kind, h.uniq, h.ix, fun y hy e => by
  have := List.all_eq_true.mp hf y hy
  rw [e] at this
  exact absurd this (by decide), h.own⟩
def topS (i : Nat) : Stmt := PySem.Challenge.pw_mendedgates_k01_paulis_are_matrices.main.body.getD i (.Pass ⟨0, 0, 0, 0⟩)
abbrev s_ones : Stmt := topS 2
theorem sc_ones : FnScope ["mask", "count"] ["mask"] (defScope s_ones) := ⟨rfl, rfl, rfl, by decide +kernel, rfl, by decide +kernel, by decide +kernel⟩
abbrev s_weight : Stmt := topS 3
theorem sc_weight : FnScope ["pauli"] ["pauli"] (defScope s_weight) := ⟨rfl, rfl, rfl, by decide +kernel, rfl, by decide +kernel, by decide +kernel⟩
abbrev s_letter : Stmt := topS 4
theorem sc_letter : FnScope ["pauli", "qubit"] ["pauli", "qubit"] (defScope s_letter) := ⟨rfl, rfl, rfl, by decide +kernel, rfl, by decide +kernel, by decide +kernel⟩
abbrev s_support : Stmt := topS 5
theorem sc_support : FnScope ["pauli", "mask", "qubit"] ["pauli"] (defScope s_support) := ⟨rfl, rfl, rfl, by decide +kernel, rfl, by decide +kernel, by decide +kernel⟩
abbrev s_commutes : Stmt := topS 6
theorem sc_commutes : FnScope ["one", "other"] ["one", "other"] (defScope s_commutes) := ⟨rfl, rfl, rfl, by decide +kernel, rfl, by decide +kernel, by decide +kernel⟩
abbrev s_product : Stmt := topS 7
theorem sc_product : FnScope ["one", "other", "x", "z", "turns"] ["one", "other"] (defScope s_product) := ⟨rfl, rfl, rfl, by decide +kernel, rfl, by decide +kernel, by decide +kernel⟩
abbrev s_part : Stmt := topS 8
theorem sc_part : FnScope ["pauli", "mask"] ["pauli", "mask"] (defScope s_part) := ⟨rfl, rfl, rfl, by decide +kernel, rfl, by decide +kernel, by decide +kernel⟩
abbrev s_shifted : Stmt := topS 9
theorem sc_shifted : FnScope ["pauli", "places"] ["pauli", "places"] (defScope s_shifted) := ⟨rfl, rfl, rfl, by decide +kernel, rfl, by decide +kernel, by decide +kernel⟩
abbrev s_single : Stmt := topS 10
theorem sc_single : FnScope ["name", "qubit", "kind"] ["name", "qubit"] (defScope s_single) := ⟨rfl, rfl, rfl, by decide +kernel, rfl, by decide +kernel, by decide +kernel⟩
abbrev s_rank : Stmt := topS 11
theorem sc_rank : FnScope ["pauli"] ["pauli"] (defScope s_rank) := ⟨rfl, rfl, rfl, by decide +kernel, rfl, by decide +kernel, by decide +kernel⟩
abbrev s_of_weight : Stmt := topS 12
theorem sc_of_weight : FnScope ["n", "many", "rows", "turn", "longer", "row", "qubit", "name"] ["n", "many"] (defScope s_of_weight) := ⟨rfl, rfl, rfl, by decide +kernel, rfl, by decide +kernel, by decide +kernel⟩
abbrev s__law_next : Stmt := topS 14
theorem sc__law_next : FnScope ["tape", "many", "rest", "cell"] ["tape", "many"] (defScope s__law_next) := ⟨rfl, rfl, rfl, by decide +kernel, rfl, by decide +kernel, by decide +kernel⟩
abbrev s__law_word : Stmt := topS 15
theorem sc__law_word : FnScope ["tape", "n", "k"] ["tape", "n"] (defScope s__law_word) := ⟨rfl, rfl, rfl, by decide +kernel, rfl, by decide +kernel, by decide +kernel⟩
abbrev s__law_masks : Stmt := topS 16
theorem sc__law_masks : FnScope ["word", "sign", "x", "z", "k"] ["word", "sign"] (defScope s__law_masks) := ⟨rfl, rfl, rfl, by decide +kernel, rfl, by decide +kernel, by decide +kernel⟩
abbrev s__law_acted : Stmt := topS 17
theorem sc__law_acted : FnScope ["word", "sign", "bits", "turns", "k"] ["word", "sign", "bits", "turns"] (defScope s__law_acted) := ⟨rfl, rfl, rfl, by decide +kernel, rfl, by decide +kernel, by decide +kernel⟩
abbrev s__law_all_bits : Stmt := topS 18
theorem sc__law_all_bits : FnScope ["n", "rows", "k", "row"] ["n"] (defScope s__law_all_bits) := ⟨rfl, rfl, rfl, by decide +kernel, rfl, by decide +kernel, by decide +kernel⟩
abbrev s__law_pair : Stmt := topS 19
theorem sc__law_pair : FnScope ["first", "second", "n", "unlike", "found", "told", "bits", "one", "other", "middle", "turns", "k"] ["first", "second"] (defScope s__law_pair) := ⟨rfl, rfl, rfl, by decide +kernel, rfl, by decide +kernel, by decide +kernel⟩
abbrev s__law_parts : Stmt := topS 20
theorem sc__law_parts : FnScope ["word", "sign", "mask", "places", "pauli", "kept", "lit", "k"] ["word", "sign", "mask", "places"] (defScope s__law_parts) := ⟨rfl, rfl, rfl, by decide +kernel, rfl, by decide +kernel, by decide +kernel⟩
abbrev s__law_weights : Stmt := topS 21
theorem sc__law_weights : FnScope ["n", "many", "rows", "k", "found", "longer", "name", "row"] ["n", "many"] (defScope s__law_weights) := ⟨rfl, rfl, rfl, by decide +kernel, rfl, by decide +kernel, by decide +kernel⟩
abbrev s_law : Stmt := topS 22
theorem sc_law : FnScope ["script", "tape", "n", "turn", "few", "many", "first", "second"] ["script"] (defScope s_law) := ⟨rfl, rfl, rfl, by decide +kernel, rfl, by decide +kernel, by decide +kernel⟩
/-- what the top has written -/
structure Txt (K : PySem.W.Frag) (mg : Str → Option Value) (A : Nat → Addr) (B : Nat → FuncData) : Prop where
  z_len : mg "len" = none
  z_abs : mg "abs" = none
  z_int : mg "int" = none
  z_sum : mg "sum" = none
  z_tuple : mg "tuple" = none
  z_list : mg "list" = none
  z_range : mg "range" = none
  z_sorted : mg "sorted" = none
  c_NAMES : Cst K mg "NAMES" k_NAMES
  d_ones : DefAt K mg "ones" s_ones ["mask"] (A 0) (B 0)
  d_weight : DefAt K mg "weight" s_weight ["pauli"] (A 1) (B 1)
  d_letter : DefAt K mg "letter" s_letter ["pauli", "qubit"] (A 2) (B 2)
  d_support : DefAt K mg "support" s_support ["pauli"] (A 3) (B 3)
  d_commutes : DefAt K mg "commutes" s_commutes ["one", "other"] (A 4) (B 4)
  d_product : DefAt K mg "product" s_product ["one", "other"] (A 5) (B 5)
  d_part : DefAt K mg "part" s_part ["pauli", "mask"] (A 6) (B 6)
  d_shifted : DefAt K mg "shifted" s_shifted ["pauli", "places"] (A 7) (B 7)
  d_single : DefAt K mg "single" s_single ["name", "qubit"] (A 8) (B 8)
  d_rank : DefAt K mg "rank" s_rank ["pauli"] (A 9) (B 9)
  d_of_weight : DefAt K mg "of_weight" s_of_weight ["n", "many"] (A 10) (B 10)
  d__law_next : DefAt K mg "_law_next" s__law_next ["tape", "many"] (A 11) (B 11)
  d__law_word : DefAt K mg "_law_word" s__law_word ["tape", "n"] (A 12) (B 12)
  d__law_masks : DefAt K mg "_law_masks" s__law_masks ["word", "sign"] (A 13) (B 13)
  d__law_acted : DefAt K mg "_law_acted" s__law_acted ["word", "sign", "bits", "turns"] (A 14) (B 14)
  d__law_all_bits : DefAt K mg "_law_all_bits" s__law_all_bits ["n"] (A 15) (B 15)
  d__law_pair : DefAt K mg "_law_pair" s__law_pair ["first", "second"] (A 16) (B 16)
  d__law_parts : DefAt K mg "_law_parts" s__law_parts ["word", "sign", "mask", "places"] (A 17) (B 17)
  d__law_weights : DefAt K mg "_law_weights" s__law_weights ["n", "many"] (A 18) (B 18)
  d_law : DefAt K mg "law" s_law ["script"] (A 19) (B 19)
section
variable {P : Program} {w : World} {K : PySem.W.Frag} {mg : Str → Option Value} {base : Heap} {A : Nat → Addr} {B : Nat → FuncData}
theorem ok_ones (T : Txt K mg A B) : FnOk P w K mg base CX0 1 (A 0) (B 0) ["mask"] (spOf K 1 sp_ones) := by
  refine fn_ok (ws := w_ones) T.d_ones.fn sc_ones rfl (fun cdv A outer s H E hr => ?_) pk_ones
  exact (dss_cons (ds_set 1 de_int (fun _ he => ps_set (i := 1) sc_ones.nd rfl (by first | exact .inl rfl | exact .inr rfl) he))
      (dss_cons (ds_while PassesOwn.never (dt_tru (de_var 0 (pv 0))) (dss_cons (ds_aug 0 iv_and (de_op ov_sub (de_var 0 (pv 0)) de_int) (fun _ _ he hp => ps_aug (i := 0) sc_ones.nd rfl (by first | exact .inl rfl | exact .inr rfl) he hp))
      (dss_one (ds_aug 1 iv_add de_int (fun _ _ he hp => ps_aug (i := 1) sc_ones.nd rfl (by first | exact .inl rfl | exact .inr rfl) he hp)))))
      (dss_one (ds_ret (de_var 1 (pv 1))))))
theorem ok_weight (T : Txt K mg A B) : FnOk P w K mg base CX0 2 (A 1) (B 1) ["pauli"] (spOf K 1 sp_weight) := by
  have G_ones : FnOk P w K mg base CX0 1 (A 0) (B 0) ["mask"] (spOf K 1 sp_ones) := ok_ones T
  refine fn_ok (ws := w_weight) T.d_weight.fn sc_weight rfl (fun cdv A outer s H E hr => ?_) pk_weight
  exact (dss_one (ds_ret (de_call G_ones (hr.mono (by decide)) (by rfl) T.d_ones.gl T.d_ones.fn.kp T.d_ones.bd (da_cons (de_op ov_or (de_ix (de_var 0 (pv 0)) de_int (fun _ _ => rfl)) (de_ix (de_var 0 (pv 0)) de_int (fun _ _ => rfl))) da_nil))))
theorem ok_letter (T : Txt K mg A B) : FnOk P w K mg base CX0 1 (A 2) (B 2) ["pauli", "qubit"] (spOf K 2 sp_letter) := by
  refine fn_ok (ws := w_letter) T.d_letter.fn sc_letter rfl (fun cdv A outer s H E hr => ?_) pk_letter
  exact (dss_one (ds_ret (de_ix (T.c_NAMES.de rfl) (de_op ov_add (de_op ov_and (de_op ov_shr (de_ix (de_var 0 (pv 0)) de_int (fun _ _ => rfl)) (de_var 1 (pv 1))) de_int) (de_op ov_mulS de_int (de_op ov_and (de_op ov_shr (de_ix (de_var 0 (pv 0)) de_int (fun _ _ => rfl)) (de_var 1 (pv 1))) de_int))) (fun _ _ => rfl))))
theorem ok_support (T : Txt K mg A B) : FnOk P w K mg base CX0 1 (A 3) (B 3) ["pauli"] (spOf K 1 sp_support) := by
  refine fn_ok (ws := w_support) T.d_support.fn sc_support rfl (fun cdv A outer s H E hr => ?_) pk_support
  exact (dss_cons (ds_set 1 (de_op ov_or (de_ix (de_var 0 (pv 0)) de_int (fun _ _ => rfl)) (de_ix (de_var 0 (pv 0)) de_int (fun _ _ => rfl))) (fun _ he => ps_set (i := 1) sc_support.nd rfl (by first | exact .inl rfl | exact .inr rfl) he))
      (dss_one (ds_ret (de_new (dn_lc (own := [("qubit", 2)]) rfl sc_support.nd (di_rng1 (by rfl) T.z_range (da_cons (de_bits (de_var 1 (pv 1))) da_nil)) (blkOk_by (N := ["pauli", "mask", "qubit"]) (sc := defScope s_support) (by decide +kernel)) (tg_one (by decide)) (fun _ _ _ _ _ => pg_name (i := 2) sc_support.nd rfl (Or.inl rfl)) (fun _ _ _ _ _ => pts_x1 (dt_tru (de_op ov_and (de_op ov_shr (de_var 1 (pv 1)) (de_var 2 (pv 2))) de_int))) (fun _ _ _ _ _ => (de_var 2 (pv 2))))))))
theorem ok_commutes (T : Txt K mg A B) : FnOk P w K mg base CX0 2 (A 4) (B 4) ["one", "other"] (spOf K 2 sp_commutes) := by
  have G_ones : FnOk P w K mg base CX0 1 (A 0) (B 0) ["mask"] (spOf K 1 sp_ones) := ok_ones T
  refine fn_ok (ws := w_commutes) T.d_commutes.fn sc_commutes rfl (fun cdv A outer s H E hr => ?_) pk_commutes
  exact (dss_one (ds_ret (de_cmp (ov_eq hr.units) (de_op ov_mod (de_call G_ones (hr.mono (by decide)) (by rfl) T.d_ones.gl T.d_ones.fn.kp T.d_ones.bd (da_cons (de_op ov_and (de_ix (de_var 0 (pv 0)) de_int (fun _ _ => rfl)) (de_ix (de_var 1 (pv 1)) de_int (fun _ _ => rfl))) da_nil)) de_int) (de_op ov_mod (de_call G_ones (hr.mono (by decide)) (by rfl) T.d_ones.gl T.d_ones.fn.kp T.d_ones.bd (da_cons (de_op ov_and (de_ix (de_var 0 (pv 0)) de_int (fun _ _ => rfl)) (de_ix (de_var 1 (pv 1)) de_int (fun _ _ => rfl))) da_nil)) de_int) (nomark _))))
theorem ok_product (T : Txt K mg A B) : FnOk P w K mg base CX0 2 (A 5) (B 5) ["one", "other"] (spOf K 2 sp_product) := by
  have G_ones : FnOk P w K mg base CX0 1 (A 0) (B 0) ["mask"] (spOf K 1 sp_ones) := ok_ones T
  refine fn_ok (ws := w_product) T.d_product.fn sc_product rfl (fun cdv A outer s H E hr => ?_) pk_product
  exact (dss_cons (ds_set 2 (de_op ov_xor (de_ix (de_var 0 (pv 0)) de_int (fun _ _ => rfl)) (de_ix (de_var 1 (pv 1)) de_int (fun _ _ => rfl))) (fun _ he => ps_set (i := 2) sc_product.nd rfl (by first | exact .inl rfl | exact .inr rfl) he))
      (dss_cons (ds_set 3 (de_op ov_xor (de_ix (de_var 0 (pv 0)) de_int (fun _ _ => rfl)) (de_ix (de_var 1 (pv 1)) de_int (fun _ _ => rfl))) (fun _ he => ps_set (i := 3) sc_product.nd rfl (by first | exact .inl rfl | exact .inr rfl) he))
      (dss_cons (ds_set 4 (de_op ov_add (de_op ov_add (de_op ov_mulS de_int (de_op ov_add (de_ix (de_var 0 (pv 0)) de_int (fun _ _ => rfl)) (de_ix (de_var 1 (pv 1)) de_int (fun _ _ => rfl)))) (de_call G_ones (hr.mono (by decide)) (by rfl) T.d_ones.gl T.d_ones.fn.kp T.d_ones.bd (da_cons (de_op ov_and (de_ix (de_var 0 (pv 0)) de_int (fun _ _ => rfl)) (de_ix (de_var 0 (pv 0)) de_int (fun _ _ => rfl))) da_nil))) (de_call G_ones (hr.mono (by decide)) (by rfl) T.d_ones.gl T.d_ones.fn.kp T.d_ones.bd (da_cons (de_op ov_and (de_ix (de_var 1 (pv 1)) de_int (fun _ _ => rfl)) (de_ix (de_var 1 (pv 1)) de_int (fun _ _ => rfl))) da_nil))) (fun _ he => ps_set (i := 4) sc_product.nd rfl (by first | exact .inl rfl | exact .inr rfl) he))
      (dss_cons (ds_set 4 (de_op ov_mod (de_op ov_sub (de_op ov_add (de_var 4 (pv 4)) (de_op ov_mulS de_int (de_call G_ones (hr.mono (by decide)) (by rfl) T.d_ones.gl T.d_ones.fn.kp T.d_ones.bd (da_cons (de_op ov_and (de_ix (de_var 0 (pv 0)) de_int (fun _ _ => rfl)) (de_ix (de_var 1 (pv 1)) de_int (fun _ _ => rfl))) da_nil)))) (de_call G_ones (hr.mono (by decide)) (by rfl) T.d_ones.gl T.d_ones.fn.kp T.d_ones.bd (da_cons (de_op ov_and (de_var 2 (pv 2)) (de_var 3 (pv 3))) da_nil))) de_int) (fun _ he => ps_set (i := 4) sc_product.nd rfl (by first | exact .inl rfl | exact .inr rfl) he))
      (dss_one (ds_ret (de_tup (da_cons (de_var 2 (pv 2)) (da_cons (de_var 3 (pv 3)) (da_cons (de_op ov_div (de_var 4 (pv 4)) de_int) da_nil))))))))))
theorem ok_part (T : Txt K mg A B) : FnOk P w K mg base CX0 1 (A 6) (B 6) ["pauli", "mask"] (spOf K 2 sp_part) := by
  refine fn_ok (ws := w_part) T.d_part.fn sc_part rfl (fun cdv A outer s H E hr => ?_) pk_part
  exact (dss_one (ds_ret (de_tup (da_cons (de_op ov_and (de_ix (de_var 0 (pv 0)) de_int (fun _ _ => rfl)) (de_var 1 (pv 1))) (da_cons (de_op ov_and (de_ix (de_var 0 (pv 0)) de_int (fun _ _ => rfl)) (de_var 1 (pv 1))) (da_cons de_int da_nil))))))
theorem ok_shifted (T : Txt K mg A B) : FnOk P w K mg base CX0 1 (A 7) (B 7) ["pauli", "places"] (spOf K 2 sp_shifted) := by
  refine fn_ok (ws := w_shifted) T.d_shifted.fn sc_shifted rfl (fun cdv A outer s H E hr => ?_) pk_shifted
  exact (dss_one (ds_ret (de_tup (da_cons (de_op ov_shl (de_ix (de_var 0 (pv 0)) de_int (fun _ _ => rfl)) (de_var 1 (pv 1))) (da_cons (de_op ov_shl (de_ix (de_var 0 (pv 0)) de_int (fun _ _ => rfl)) (de_var 1 (pv 1))) (da_cons (de_ix (de_var 0 (pv 0)) de_int (fun _ _ => rfl)) da_nil))))))
theorem ok_single (T : Txt K mg A B) : FnOk P w K mg base CX0 1 (A 8) (B 8) ["name", "qubit"] (spOf K 2 sp_single) := by
  refine fn_ok (ws := w_single) T.d_single.fn sc_single rfl (fun cdv A outer s H E hr => ?_) pk_single
  exact (dss_cons (ds_set 2 (de_index (T.c_NAMES.de rfl) (de_var 0 (pv 0))) (fun _ he => ps_set (i := 2) sc_single.nd rfl (by first | exact .inl rfl | exact .inr rfl) he))
      (dss_one (ds_ret (de_tup (da_cons (de_op ov_shl (de_op ov_and (de_var 2 (pv 2)) de_int) (de_var 1 (pv 1))) (da_cons (de_op ov_shl (de_op ov_shr (de_var 2 (pv 2)) de_int) (de_var 1 (pv 1))) (da_cons de_int da_nil)))))))
theorem ok_rank (T : Txt K mg A B) : FnOk P w K mg base CX0 3 (A 9) (B 9) ["pauli"] (spOf K 1 sp_rank) := by
  have G_weight : FnOk P w K mg base CX0 2 (A 1) (B 1) ["pauli"] (spOf K 1 sp_weight) := ok_weight T
  refine fn_ok (ws := w_rank) T.d_rank.fn sc_rank rfl (fun cdv A outer s H E hr => ?_) pk_rank
  exact (dss_one (ds_ret (de_tup (da_cons (de_call G_weight (hr.mono (by decide)) (by rfl) T.d_weight.gl T.d_weight.fn.kp T.d_weight.bd (da_cons (de_var 0 (pv 0)) da_nil)) (da_cons (de_ix (de_var 0 (pv 0)) de_int (fun _ _ => rfl)) (da_cons (de_ix (de_var 0 (pv 0)) de_int (fun _ _ => rfl)) da_nil))))))
theorem ok_of_weight (T : Txt K mg A B) : FnOk P w K mg base CX0 5 (A 10) (B 10) ["n", "many"] (spOf K 2 sp_of_weight) := by
  have G_product : FnOk P w K mg base CX0 2 (A 5) (B 5) ["one", "other"] (spOf K 2 sp_product) := ok_product T
  have G_single : FnOk P w K mg base CX0 1 (A 8) (B 8) ["name", "qubit"] (spOf K 2 sp_single) := ok_single T
  have G_rank : FnOk P w K mg base CX0 3 (A 9) (B 9) ["pauli"] (spOf K 1 sp_rank) := ok_rank T
  refine fn_ok (ws := w_of_weight) T.d_of_weight.fn sc_of_weight rfl (fun cdv A outer s H E hr => ?_) pk_of_weight
  exact (dss_cons (ds_set 2 (de_new (dn_lst (da_cons (de_tup (da_cons de_int (da_cons de_int (da_cons de_int da_nil)))) da_nil))) (fun _ he => ps_set (i := 2) sc_of_weight.nd rfl (by first | exact .inl rfl | exact .inr rfl) he))
      (dss_cons (ds_for PassesOwn.never rfl (di_rng1 (by rfl) T.z_range (da_cons (de_var 1 (pv 1)) da_nil)) (dg_var 3 (pg_name (i := 3) sc_of_weight.nd rfl (by first | exact .inl rfl | exact .inr rfl))) (dss_cons (ds_setO 4 (dn_lst da_nil) (fun _ he => ps_set (i := 4) sc_of_weight.nd rfl (by first | exact .inl rfl | exact .inr rfl) he))
      (dss_cons (ds_for PassesOwn.never rfl (di_list (de_var 2 (pv 2))) (dg_var 5 (pg_name (i := 5) sc_of_weight.nd rfl (by first | exact .inl rfl | exact .inr rfl))) (dss_one (ds_for PassesOwn.never rfl (di_rng2 (by rfl) T.z_range (da_cons (de_bits (de_op ov_or (de_ix (de_var 5 (pv 5)) de_int (fun _ _ => rfl)) (de_ix (de_var 5 (pv 5)) de_int (fun _ _ => rfl)))) (da_cons (de_var 0 (pv 0)) da_nil))) (dg_var 6 (pg_name (i := 6) sc_of_weight.nd rfl (by first | exact .inl rfl | exact .inr rfl))) (dss_one (ds_for PassesOwn.never rfl (di_str de_str) (dg_var 7 (pg_name (i := 7) sc_of_weight.nd rfl (by first | exact .inl rfl | exact .inr rfl))) (dss_one (ds_app 4 (pv 4) (de_call G_product (hr.mono (by decide)) (by rfl) T.d_product.gl T.d_product.fn.kp T.d_product.bd (da_cons (de_var 5 (pv 5)) (da_cons (de_call G_single (hr.mono (by decide)) (by rfl) T.d_single.gl T.d_single.fn.kp T.d_single.bd (da_cons (de_var 7 (pv 7)) (da_cons (de_var 6 (pv 6)) da_nil))) da_nil))) (fun _ _ hx he => pe_bm PySem.F.plainAttrs_list PySem.F.slot_list_append PySem.F.type_list_append mt_append hx (pa_cons he pa_nil)))))))))
      (dss_one (ds_set 2 (de_var 4 (pv 4)) (fun _ he => ps_set (i := 2) sc_of_weight.nd rfl (by first | exact .inl rfl | exact .inr rfl) he))))))
      (dss_one (ds_ret (de_new (dn_sortF G_rank (hr.mono (by decide)) (by rfl) T.z_sorted (by rfl) T.d_rank.gl T.d_rank.bd (de_var 2 (pv 2))))))))
theorem ok__law_next (T : Txt K mg A B) : FnOk P w K mg base CX0 1 (A 11) (B 11) ["tape", "many"] (spOf K 2 sp__law_next) := by
  refine fn_ok (ws := w__law_next) T.d__law_next.fn sc__law_next rfl (fun cdv A outer s H E hr => ?_) pk__law_next
  exact (dss_cons (ds_set 2 (de_ix (de_var 0 (pv 0)) de_int (fun _ _ => rfl)) (fun _ he => ps_set (i := 2) sc__law_next.nd rfl (by first | exact .inl rfl | exact .inr rfl) he))
      (dss_cons (ds_if (dt_cmp ov_gt (de_var 2 (pv 2)) de_int (nomark _)) (dss_cons (ds_asg (de_op ov_div (de_var 2 (pv 2)) (de_var 1 (pv 1))) (dg_ixM (de_var 0 (pv 0)) de_int))
      (dss_one (ds_ret (de_op ov_mod (de_cty cv_int (by rfl) T.z_int (by decide +kernel) (da_cons (de_var 2 (pv 2)) da_nil)) (de_var 1 (pv 1)))))) dss_nil)
      (dss_cons (ds_set 3 de_int (fun _ he => ps_set (i := 3) sc__law_next.nd rfl (by first | exact .inl rfl | exact .inr rfl) he))
      (dss_cons (ds_if (dt_cmp ov_lt (de_ix (de_var 0 (pv 0)) de_int (fun _ _ => rfl)) (de_cb cv_len (by rfl) T.z_len (by decide +kernel) (da_cons (de_ix (de_var 0 (pv 0)) de_int (fun _ _ => rfl)) da_nil)) (nomark _)) (dss_cons (ds_set 3 (de_cb cv_abs (by rfl) T.z_abs (by decide +kernel) (da_cons (de_ix (de_ix (de_var 0 (pv 0)) de_int (fun _ _ => rfl)) (de_ix (de_var 0 (pv 0)) de_int (fun _ _ => rfl)) (fun _ _ => rfl)) da_nil)) (fun _ he => ps_set (i := 3) sc__law_next.nd rfl (by first | exact .inl rfl | exact .inr rfl) he))
      (dss_one (ds_augM iv_add (de_var 0 (pv 0)) de_int de_int))) dss_nil)
      (dss_cons (ds_if (dt_cmp ov_ge (de_var 3 (pv 3)) (de_op ov_pow de_int de_int) (nomark _)) (dss_cons (ds_asg (de_op ov_div (de_var 3 (pv 3)) (de_var 1 (pv 1))) (dg_ixM (de_var 0 (pv 0)) de_int))
      (dss_one (ds_ret (de_op ov_mod (de_cty cv_int (by rfl) T.z_int (by decide +kernel) (da_cons (de_var 3 (pv 3)) da_nil)) (de_var 1 (pv 1)))))) dss_nil)
      (dss_cons (ds_asg (de_op ov_mod (de_cty cv_int (by rfl) T.z_int (by decide +kernel) (da_cons (de_op ov_add (de_op ov_add (de_op ov_mulS (de_ix (de_var 0 (pv 0)) de_int (fun _ _ => rfl)) de_int) (de_op ov_mulS (de_var 3 (pv 3)) de_int)) de_int) da_nil)) de_int) (dg_ixM (de_var 0 (pv 0)) de_int))
      (dss_one (ds_ret (de_op ov_mod (de_cty cv_int (by rfl) T.z_int (by decide +kernel) (da_cons (de_op ov_div (de_op ov_mod (de_op ov_mulS (de_ix (de_var 0 (pv 0)) de_int (fun _ _ => rfl)) de_int) de_int) de_int) da_nil)) (de_var 1 (pv 1)))))))))))
theorem ok__law_word (T : Txt K mg A B) : FnOk P w K mg base CX0 2 (A 12) (B 12) ["tape", "n"] (spOf K 2 sp__law_word) := by
  have G__law_next : FnOk P w K mg base CX0 1 (A 11) (B 11) ["tape", "many"] (spOf K 2 sp__law_next) := ok__law_next T
  refine fn_ok (ws := w__law_word) T.d__law_word.fn sc__law_word rfl (fun cdv A outer s H E hr => ?_) pk__law_word
  exact (dss_one (ds_ret (de_join de_str (de_new (dn_lc (own := [("k", 2)]) rfl sc__law_word.nd (di_rng1 (by rfl) T.z_range (da_cons (de_var 1 (pv 1)) da_nil)) (blkOk_by (N := ["tape", "n", "k"]) (sc := defScope s__law_word) (by decide +kernel)) (tg_one (by decide)) (fun _ _ _ _ _ => pg_name (i := 2) sc__law_word.nd rfl (Or.inl rfl)) (fun _ _ _ _ _ => pts_x0) (fun _ _ _ _ _ => (de_ix de_str (de_call G__law_next (hr.mono (by decide)) (by rfl) T.d__law_next.gl T.d__law_next.fn.kp T.d__law_next.bd (da_cons (de_var 0 (pv 0)) (da_cons de_int da_nil))) (fun _ _ => rfl))))))))
theorem ok__law_masks (T : Txt K mg A B) : FnOk P w K mg base CX0 1 (A 13) (B 13) ["word", "sign"] (spOf K 2 sp__law_masks) := by
  refine fn_ok (ws := w__law_masks) T.d__law_masks.fn sc__law_masks rfl (fun cdv A outer s H E hr => ?_) pk__law_masks
  exact (dss_cons (ds_set 2 (de_cb (cv_sum rfl) (by rfl) T.z_sum (by decide +kernel) (da_cons (de_new (dn_lc (own := [("k", 4)]) rfl sc__law_masks.nd (di_rng1 (by rfl) T.z_range (da_cons (de_cb cv_len (by rfl) T.z_len (by decide +kernel) (da_cons (de_var 0 (pv 0)) da_nil)) da_nil)) (blkOk_by (N := ["word", "sign", "x", "z", "k"]) (sc := defScope s__law_masks) (by decide +kernel)) (tg_one (by decide)) (fun _ _ _ _ _ => pg_name (i := 4) sc__law_masks.nd rfl (Or.inl rfl)) (fun _ _ _ _ _ => pts_x1 (dt_cmp (ov_inD (Room65 hr)) (de_ix (de_var 0 (pv 0)) (de_var 4 (pv 4)) (fun _ _ => rfl)) de_str (by rfl))) (fun _ _ _ _ _ => (de_op ov_shl de_int (de_var 4 (pv 4)))))) da_nil)) (fun _ he => ps_set (i := 2) sc__law_masks.nd rfl (by first | exact .inl rfl | exact .inr rfl) he))
      (dss_cons (ds_set 3 (de_cb (cv_sum rfl) (by rfl) T.z_sum (by decide +kernel) (da_cons (de_new (dn_lc (own := [("k", 4)]) rfl sc__law_masks.nd (di_rng1 (by rfl) T.z_range (da_cons (de_cb cv_len (by rfl) T.z_len (by decide +kernel) (da_cons (de_var 0 (pv 0)) da_nil)) da_nil)) (blkOk_by (N := ["word", "sign", "x", "z", "k"]) (sc := defScope s__law_masks) (by decide +kernel)) (tg_one (by decide)) (fun _ _ _ _ _ => pg_name (i := 4) sc__law_masks.nd rfl (Or.inl rfl)) (fun _ _ _ _ _ => pts_x1 (dt_cmp (ov_inD (Room65 hr)) (de_ix (de_var 0 (pv 0)) (de_var 4 (pv 4)) (fun _ _ => rfl)) de_str (by rfl))) (fun _ _ _ _ _ => (de_op ov_shl de_int (de_var 4 (pv 4)))))) da_nil)) (fun _ he => ps_set (i := 3) sc__law_masks.nd rfl (by first | exact .inl rfl | exact .inr rfl) he))
      (dss_one (ds_ret (de_tup (da_cons (de_var 2 (pv 2)) (da_cons (de_var 3 (pv 3)) (da_cons (de_var 1 (pv 1)) da_nil))))))))
theorem ok__law_acted (T : Txt K mg A B) : FnOk P w K mg base CX0 1 (A 14) (B 14) ["word", "sign", "bits", "turns"] (spOf K 4 sp__law_acted) := by
  refine fn_ok (ws := w__law_acted) T.d__law_acted.fn sc__law_acted rfl (fun cdv A outer s H E hr => ?_) pk__law_acted
  exact (dss_cons (ds_set 3 (de_op ov_add (de_var 3 (pv 3)) (de_op ov_mulS de_int (de_var 1 (pv 1)))) (fun _ he => ps_set (i := 3) sc__law_acted.nd rfl (by first | exact .inl rfl | exact .inr rfl) he))
      (dss_cons (ds_setO 2 (dn_cty (cn_lstS rfl) bLstS_l (by rfl) T.z_list (by decide +kernel) (da_cons (de_var 2 (pv 2)) da_nil)) (fun _ he => ps_set (i := 2) sc__law_acted.nd rfl (by first | exact .inl rfl | exact .inr rfl) he))
      (dss_cons (ds_for PassesOwn.never rfl (di_rng1 (by rfl) T.z_range (da_cons (de_cb cv_len (by rfl) T.z_len (by decide +kernel) (da_cons (de_var 0 (pv 0)) da_nil)) da_nil)) (dg_var 4 (pg_name (i := 4) sc__law_acted.nd rfl (by first | exact .inl rfl | exact .inr rfl))) (dss_cons (ds_if (dt_cmp (ov_eq hr.units) (de_ix (de_var 0 (pv 0)) (de_var 4 (pv 4)) (fun _ _ => rfl)) de_str (nomark _)) (dss_one (ds_set 3 (de_op ov_add (de_op ov_add (de_var 3 (pv 3)) de_int) (de_op ov_mulS de_int (de_ixO 2 (pv 2) (de_var 4 (pv 4)) (fun _ _ => rfl)))) (fun _ he => ps_set (i := 3) sc__law_acted.nd rfl (by first | exact .inl rfl | exact .inr rfl) he))) dss_nil)
      (dss_cons (ds_if (dt_cmp (ov_eq hr.units) (de_ix (de_var 0 (pv 0)) (de_var 4 (pv 4)) (fun _ _ => rfl)) de_str (nomark _)) (dss_one (ds_set 3 (de_op ov_add (de_var 3 (pv 3)) (de_op ov_mulS de_int (de_ixO 2 (pv 2) (de_var 4 (pv 4)) (fun _ _ => rfl)))) (fun _ he => ps_set (i := 3) sc__law_acted.nd rfl (by first | exact .inl rfl | exact .inr rfl) he))) dss_nil)
      (dss_one (ds_if (dt_cmp (ov_inD (Room65 hr)) (de_ix (de_var 0 (pv 0)) (de_var 4 (pv 4)) (fun _ _ => rfl)) de_str (by rfl)) (dss_one (ds_asg (de_op ov_sub de_int (de_ixO 2 (pv 2) (de_var 4 (pv 4)) (fun _ _ => rfl))) (dg_ixO 2 (pv 2) (de_var 4 (pv 4))))) dss_nil)))))
      (dss_one (ds_ret (de_tup (da_cons (de_cty cv_tup (by rfl) T.z_tuple (by decide +kernel) (da_cons (de_var 2 (pv 2)) da_nil)) (da_cons (de_op ov_mod (de_var 3 (pv 3)) de_int) da_nil))))))))
theorem ok__law_all_bits (T : Txt K mg A B) : FnOk P w K mg base CX0 1 (A 15) (B 15) ["n"] (spOf K 1 sp__law_all_bits) := by
  refine fn_ok (ws := w__law_all_bits) T.d__law_all_bits.fn sc__law_all_bits rfl (fun cdv A outer s H E hr => ?_) pk__law_all_bits
  exact (dss_cons (ds_set 1 (de_new (dn_lst (da_cons (de_tup da_nil) da_nil))) (fun _ he => ps_set (i := 1) sc__law_all_bits.nd rfl (by first | exact .inl rfl | exact .inr rfl) he))
      (dss_cons (ds_for PassesOwn.never rfl (di_rng1 (by rfl) T.z_range (da_cons (de_var 0 (pv 0)) da_nil)) (dg_var 2 (pg_name (i := 2) sc__law_all_bits.nd rfl (by first | exact .inl rfl | exact .inr rfl))) (dss_one (ds_set 1 (de_op ov_add (de_new (dn_lc (own := [("row", 3)]) rfl sc__law_all_bits.nd (di_list (de_var 1 (pv 1))) (blkOk_by (N := ["n", "rows", "k", "row"]) (sc := defScope s__law_all_bits) (by decide +kernel)) (tg_one (by decide)) (fun _ _ _ _ _ => pg_name (i := 3) sc__law_all_bits.nd rfl (Or.inl rfl)) (fun _ _ _ _ _ => pts_x0) (fun _ _ _ _ _ => (de_op ov_add (de_var 3 (pv 3)) (de_tup (da_cons de_int da_nil)))))) (de_new (dn_lc (own := [("row", 3)]) rfl sc__law_all_bits.nd (di_list (de_var 1 (pv 1))) (blkOk_by (N := ["n", "rows", "k", "row"]) (sc := defScope s__law_all_bits) (by decide +kernel)) (tg_one (by decide)) (fun _ _ _ _ _ => pg_name (i := 3) sc__law_all_bits.nd rfl (Or.inl rfl)) (fun _ _ _ _ _ => pts_x0) (fun _ _ _ _ _ => (de_op ov_add (de_var 3 (pv 3)) (de_tup (da_cons de_int da_nil))))))) (fun _ he => ps_set (i := 1) sc__law_all_bits.nd rfl (by first | exact .inl rfl | exact .inr rfl) he))))
      (dss_one (ds_ret (de_var 1 (pv 1))))))
theorem ok__law_pair (T : Txt K mg A B) : FnOk P w K mg base CX0 3 (A 16) (B 16) ["first", "second"] (spOf K 2 sp__law_pair) := by
  have G_product : FnOk P w K mg base CX0 2 (A 5) (B 5) ["one", "other"] (spOf K 2 sp_product) := ok_product T
  have G__law_all_bits : FnOk P w K mg base CX0 1 (A 15) (B 15) ["n"] (spOf K 1 sp__law_all_bits) := ok__law_all_bits T
  have G__law_masks : FnOk P w K mg base CX0 1 (A 13) (B 13) ["word", "sign"] (spOf K 2 sp__law_masks) := ok__law_masks T
  have G__law_acted : FnOk P w K mg base CX0 1 (A 14) (B 14) ["word", "sign", "bits", "turns"] (spOf K 4 sp__law_acted) := ok__law_acted T
  have G_commutes : FnOk P w K mg base CX0 2 (A 4) (B 4) ["one", "other"] (spOf K 2 sp_commutes) := ok_commutes T
  have G_letter : FnOk P w K mg base CX0 1 (A 2) (B 2) ["pauli", "qubit"] (spOf K 2 sp_letter) := ok_letter T
  refine fn_ok (ws := w__law_pair) T.d__law_pair.fn sc__law_pair rfl (fun cdv A outer s H E hr => ?_) pk__law_pair
  exact (dss_cons (ds_set 2 (de_cb cv_len (by rfl) T.z_len (by decide +kernel) (da_cons (de_ix (de_var 0 (pv 0)) de_int (fun _ _ => rfl)) da_nil)) (fun _ he => ps_set (i := 2) sc__law_pair.nd rfl (by first | exact .inl rfl | exact .inr rfl) he))
      (dss_cons (ds_par 7 8 (da_cons (de_call G__law_masks (hr.mono (by decide)) (by rfl) T.d__law_masks.gl T.d__law_masks.fn.kp T.d__law_masks.bd (da_cons (de_ix (de_var 0 (pv 0)) de_int (fun _ _ => rfl)) (da_cons (de_ix (de_var 0 (pv 0)) de_int (fun _ _ => rfl)) da_nil))) (da_cons (de_call G__law_masks (hr.mono (by decide)) (by rfl) T.d__law_masks.gl T.d__law_masks.fn.kp T.d__law_masks.bd (da_cons (de_ix (de_var 1 (pv 1)) de_int (fun _ _ => rfl)) (da_cons (de_ix (de_var 1 (pv 1)) de_int (fun _ _ => rfl)) da_nil))) da_nil)) (fun _ h => ps_par rfl sc__law_pair.nd rfl rfl (by decide) rfl rfl h (by rfl)))
      (dss_cons (ds_set 3 (de_cb cv_len (by rfl) T.z_len (by decide +kernel) (da_cons (de_new (dn_lc (own := [("k", 11)]) rfl sc__law_pair.nd (di_rng1 (by rfl) T.z_range (da_cons (de_var 2 (pv 2)) da_nil)) (blkOk_by (N := ["first", "second", "n", "unlike", "found", "told", "bits", "one", "other", "middle", "turns", "k"]) (sc := defScope s__law_pair) (by decide +kernel)) (tg_one (by decide)) (fun _ _ _ _ _ => pg_name (i := 11) sc__law_pair.nd rfl (Or.inl rfl)) (fun _ _ _ _ _ => pts_x1 (DW.pt (dw_and (dt_cmp (ov_notInD (Room65 hr)) de_str (de_tup (da_cons (de_ix (de_ix (de_var 0 (pv 0)) de_int (fun _ _ => rfl)) (de_var 11 (pv 11)) (fun _ _ => rfl)) (da_cons (de_ix (de_ix (de_var 1 (pv 1)) de_int (fun _ _ => rfl)) (de_var 11 (pv 11)) (fun _ _ => rfl)) da_nil))) (by rfl)) (dw_and1 (dt_cmp (ov_ne hr.units) (de_ix (de_ix (de_var 0 (pv 0)) de_int (fun _ _ => rfl)) (de_var 11 (pv 11)) (fun _ _ => rfl)) (de_ix (de_ix (de_var 1 (pv 1)) de_int (fun _ _ => rfl)) (de_var 11 (pv 11)) (fun _ _ => rfl)) (nomark _)))))) (fun _ _ _ _ _ => (de_var 11 (pv 11))))) da_nil)) (fun _ he => ps_set (i := 3) sc__law_pair.nd rfl (by first | exact .inl rfl | exact .inr rfl) he))
      (dss_cons (ds_set 4 (de_call G_product (hr.mono (by decide)) (by rfl) T.d_product.gl T.d_product.fn.kp T.d_product.bd (da_cons (de_var 7 (pv 7)) (da_cons (de_var 8 (pv 8)) da_nil))) (fun _ he => ps_set (i := 4) sc__law_pair.nd rfl (by first | exact .inl rfl | exact .inr rfl) he))
      (dss_cons (ds_if (DW.pt (dw_or (dt_cmp (ov_ne hr.units) (de_call G_commutes (hr.mono (by decide)) (by rfl) T.d_commutes.gl T.d_commutes.fn.kp T.d_commutes.bd (da_cons (de_var 7 (pv 7)) (da_cons (de_var 8 (pv 8)) da_nil))) (de_cmp (ov_eq hr.units) (de_op ov_mod (de_var 3 (pv 3)) de_int) de_int (nomark _)) (nomark _)) (dw_or1 (dt_cmp (ov_ne hr.units) (de_call G_commutes (hr.mono (by decide)) (by rfl) T.d_commutes.gl T.d_commutes.fn.kp T.d_commutes.bd (da_cons (de_var 8 (pv 8)) (da_cons (de_var 7 (pv 7)) da_nil))) (de_cmp (ov_eq hr.units) (de_op ov_mod (de_var 3 (pv 3)) de_int) de_int (nomark _)) (nomark _))))) (dss_one (ds_ret de_bl)) dss_nil)
      (dss_cons (ds_set 5 (de_join de_str (de_new (dn_lc (own := [("k", 11)]) rfl sc__law_pair.nd (di_rng1 (by rfl) T.z_range (da_cons (de_var 2 (pv 2)) da_nil)) (blkOk_by (N := ["first", "second", "n", "unlike", "found", "told", "bits", "one", "other", "middle", "turns", "k"]) (sc := defScope s__law_pair) (by decide +kernel)) (tg_one (by decide)) (fun _ _ _ _ _ => pg_name (i := 11) sc__law_pair.nd rfl (Or.inl rfl)) (fun _ _ _ _ _ => pts_x0) (fun _ _ _ _ _ => (de_call G_letter (hr.mono (by decide)) (by rfl) T.d_letter.gl T.d_letter.fn.kp T.d_letter.bd (da_cons (de_var 4 (pv 4)) (da_cons (de_var 11 (pv 11)) da_nil))))))) (fun _ he => ps_set (i := 5) sc__law_pair.nd rfl (by first | exact .inl rfl | exact .inr rfl) he))
      (dss_cons (ds_if (DW.pt (dw_or (dt_cmp (ov_ne hr.units) (de_var 4 (pv 4)) (de_call G__law_masks (hr.mono (by decide)) (by rfl) T.d__law_masks.gl T.d__law_masks.fn.kp T.d__law_masks.bd (da_cons (de_var 5 (pv 5)) (da_cons (de_ix (de_var 4 (pv 4)) de_int (fun _ _ => rfl)) da_nil))) (nomark _)) (dw_or1 (dt_cmp (ov_notInD (Room65 hr)) (de_ix (de_var 4 (pv 4)) de_int (fun _ _ => rfl)) (de_tup (da_cons de_int (da_cons de_int da_nil))) (by rfl))))) (dss_one (ds_ret de_bl)) dss_nil)
      (dss_cons (ds_for PassesOwn.never rfl (di_list (de_call G__law_all_bits (hr.mono (by decide)) (by rfl) T.d__law_all_bits.gl T.d__law_all_bits.fn.kp T.d__law_all_bits.bd (da_cons (de_var 2 (pv 2)) da_nil))) (dg_var 6 (pg_name (i := 6) sc__law_pair.nd rfl (by first | exact .inl rfl | exact .inr rfl))) (dss_cons (ds_asg (de_call G__law_acted (hr.mono (by decide)) (by rfl) T.d__law_acted.gl T.d__law_acted.fn.kp T.d__law_acted.bd (da_cons (de_ix (de_var 1 (pv 1)) de_int (fun _ _ => rfl)) (da_cons (de_ix (de_var 1 (pv 1)) de_int (fun _ _ => rfl)) (da_cons (de_var 6 (pv 6)) (da_cons (de_op ov_mulS (de_op ov_mod (de_var 3 (pv 3)) de_int) de_int) da_nil))))) (dg_tup rfl (dgs_cons (dg_var 9 (pg_name (i := 9) sc__law_pair.nd rfl (by first | exact .inl rfl | exact .inr rfl))) (dgs_cons (dg_var 10 (pg_name (i := 10) sc__law_pair.nd rfl (by first | exact .inl rfl | exact .inr rfl))) dgs_nil))))
      (dss_one (ds_if (dt_cmp (ov_ne hr.units) (de_call G__law_acted (hr.mono (by decide)) (by rfl) T.d__law_acted.gl T.d__law_acted.fn.kp T.d__law_acted.bd (da_cons (de_ix (de_var 0 (pv 0)) de_int (fun _ _ => rfl)) (da_cons (de_ix (de_var 0 (pv 0)) de_int (fun _ _ => rfl)) (da_cons (de_var 9 (pv 9)) (da_cons (de_var 10 (pv 10)) da_nil))))) (de_call G__law_acted (hr.mono (by decide)) (by rfl) T.d__law_acted.gl T.d__law_acted.fn.kp T.d__law_acted.bd (da_cons (de_var 5 (pv 5)) (da_cons (de_ix (de_var 4 (pv 4)) de_int (fun _ _ => rfl)) (da_cons (de_var 6 (pv 6)) (da_cons de_int da_nil))))) (nomark _)) (dss_one (ds_ret de_bl)) dss_nil))))
      (dss_one (ds_ret de_bl))))))))))
theorem ok__law_parts (T : Txt K mg A B) : FnOk P w K mg base CX0 4 (A 17) (B 17) ["word", "sign", "mask", "places"] (spOf K 4 sp__law_parts) := by
  have G__law_masks : FnOk P w K mg base CX0 1 (A 13) (B 13) ["word", "sign"] (spOf K 2 sp__law_masks) := ok__law_masks T
  have G_part : FnOk P w K mg base CX0 1 (A 6) (B 6) ["pauli", "mask"] (spOf K 2 sp_part) := ok_part T
  have G_shifted : FnOk P w K mg base CX0 1 (A 7) (B 7) ["pauli", "places"] (spOf K 2 sp_shifted) := ok_shifted T
  have G_support : FnOk P w K mg base CX0 1 (A 3) (B 3) ["pauli"] (spOf K 1 sp_support) := ok_support T
  have G_weight : FnOk P w K mg base CX0 2 (A 1) (B 1) ["pauli"] (spOf K 1 sp_weight) := ok_weight T
  have G_rank : FnOk P w K mg base CX0 3 (A 9) (B 9) ["pauli"] (spOf K 1 sp_rank) := ok_rank T
  have G_single : FnOk P w K mg base CX0 1 (A 8) (B 8) ["name", "qubit"] (spOf K 2 sp_single) := ok_single T
  have G_letter : FnOk P w K mg base CX0 1 (A 2) (B 2) ["pauli", "qubit"] (spOf K 2 sp_letter) := ok_letter T
  refine fn_ok (ws := w__law_parts) T.d__law_parts.fn sc__law_parts rfl (fun cdv A outer s H E hr => ?_) pk__law_parts
  exact (dss_cons (ds_set 4 (de_call G__law_masks (hr.mono (by decide)) (by rfl) T.d__law_masks.gl T.d__law_masks.fn.kp T.d__law_masks.bd (da_cons (de_var 0 (pv 0)) (da_cons (de_var 1 (pv 1)) da_nil))) (fun _ he => ps_set (i := 4) sc__law_parts.nd rfl (by first | exact .inl rfl | exact .inr rfl) he))
      (dss_cons (ds_set 5 (de_join de_str (de_new (dn_lc (own := [("k", 7)]) rfl sc__law_parts.nd (di_rng1 (by rfl) T.z_range (da_cons (de_cb cv_len (by rfl) T.z_len (by decide +kernel) (da_cons (de_var 0 (pv 0)) da_nil)) da_nil)) (blkOk_by (N := ["word", "sign", "mask", "places", "pauli", "kept", "lit", "k"]) (sc := defScope s__law_parts) (by decide +kernel)) (tg_one (by decide)) (fun _ _ _ _ _ => pg_name (i := 7) sc__law_parts.nd rfl (Or.inl rfl)) (fun _ _ _ _ _ => pts_x0) (fun _ _ _ _ _ => (de_if (dt_cmp (ov_eq hr.units) (de_op ov_mod (de_op ov_div (de_var 2 (pv 2)) (de_op ov_shl de_int (de_var 7 (pv 7)))) de_int) de_int (nomark _)) (de_ix (de_var 0 (pv 0)) (de_var 7 (pv 7)) (fun _ _ => rfl)) de_str))))) (fun _ he => ps_set (i := 5) sc__law_parts.nd rfl (by first | exact .inl rfl | exact .inr rfl) he))
      (dss_cons (ds_setLcF (own := [("k", 7)]) (i := 6) rfl sc__law_parts.nd rfl rfl (sw_true rfl rfl rfl (by decide +kernel)) (di_rng1 (by rfl) T.z_range (da_cons (de_cb cv_len (by rfl) T.z_len (by decide +kernel) (da_cons (de_var 0 (pv 0)) da_nil)) da_nil)) (blkOk_by (N := ["word", "sign", "mask", "places", "pauli", "kept", "lit", "k"]) (sc := defScope s__law_parts) (by decide +kernel)) (tg_one (by decide)) (fun _ _ _ _ _ => pg_name (i := 7) sc__law_parts.nd rfl (Or.inl rfl)) (fun _ _ _ _ _ => pts_x1 (dt_cmp (ov_ne hr.units) (de_ix (de_var 0 (pv 0)) (de_var 7 (pv 7)) (fun _ _ => rfl)) de_str (nomark _))) (fun _ _ _ _ _ => (de_var 7 (pv 7))))
      (dss_cons (ds_if (DW.pt (dw_or (dt_cmp (ov_ne hr.units) (de_call G_part (hr.mono (by decide)) (by rfl) T.d_part.gl T.d_part.fn.kp T.d_part.bd (da_cons (de_var 4 (pv 4)) (da_cons (de_var 2 (pv 2)) da_nil))) (de_call G__law_masks (hr.mono (by decide)) (by rfl) T.d__law_masks.gl T.d__law_masks.fn.kp T.d__law_masks.bd (da_cons (de_var 5 (pv 5)) (da_cons de_int da_nil))) (nomark _)) (dw_or1 (dt_cmp (ov_ne hr.units) (de_call G_shifted (hr.mono (by decide)) (by rfl) T.d_shifted.gl T.d_shifted.fn.kp T.d_shifted.bd (da_cons (de_var 4 (pv 4)) (da_cons (de_var 3 (pv 3)) da_nil))) (de_call G__law_masks (hr.mono (by decide)) (by rfl) T.d__law_masks.gl T.d__law_masks.fn.kp T.d__law_masks.bd (da_cons (de_op ov_add (de_op ov_mulS de_str (de_var 3 (pv 3))) (de_var 0 (pv 0))) (da_cons (de_var 1 (pv 1)) da_nil))) (nomark _))))) (dss_one (ds_ret de_bl)) dss_nil)
      (dss_cons (ds_if (DW.pt (dw_or (dt_cmp (ov_ne hr.units) (de_call G_support (hr.mono (by decide)) (by rfl) T.d_support.gl T.d_support.fn.kp T.d_support.bd (da_cons (de_var 4 (pv 4)) da_nil)) (de_var 6 (pv 6)) (nomark _)) (dw_or (dt_cmp (ov_ne hr.units) (de_call G_weight (hr.mono (by decide)) (by rfl) T.d_weight.gl T.d_weight.fn.kp T.d_weight.bd (da_cons (de_var 4 (pv 4)) da_nil)) (de_cb cv_len (by rfl) T.z_len (by decide +kernel) (da_cons (de_var 6 (pv 6)) da_nil)) (nomark _)) (dw_or1 (dt_cmp (ov_ne hr.units) (de_call G_rank (hr.mono (by decide)) (by rfl) T.d_rank.gl T.d_rank.fn.kp T.d_rank.bd (da_cons (de_var 4 (pv 4)) da_nil)) (de_tup (da_cons (de_cb cv_len (by rfl) T.z_len (by decide +kernel) (da_cons (de_var 6 (pv 6)) da_nil)) (da_cons (de_ix (de_var 4 (pv 4)) de_int (fun _ _ => rfl)) (da_cons (de_ix (de_var 4 (pv 4)) de_int (fun _ _ => rfl)) da_nil)))) (nomark _)))))) (dss_one (ds_ret de_bl)) dss_nil)
      (dss_cons (ds_for PassesOwn.never rfl (di_list (de_var 6 (pv 6))) (dg_var 7 (pg_name (i := 7) sc__law_parts.nd rfl (by first | exact .inl rfl | exact .inr rfl))) (dss_one (ds_if (dt_cmp (ov_ne hr.units) (de_call G_single (hr.mono (by decide)) (by rfl) T.d_single.gl T.d_single.fn.kp T.d_single.bd (da_cons (de_ix (de_var 0 (pv 0)) (de_var 7 (pv 7)) (fun _ _ => rfl)) (da_cons (de_var 7 (pv 7)) da_nil))) (de_call G__law_masks (hr.mono (by decide)) (by rfl) T.d__law_masks.gl T.d__law_masks.fn.kp T.d__law_masks.bd (da_cons (de_op ov_add (de_op ov_mulS de_str (de_var 7 (pv 7))) (de_ix (de_var 0 (pv 0)) (de_var 7 (pv 7)) (fun _ _ => rfl))) (da_cons de_int da_nil))) (nomark _)) (dss_one (ds_ret de_bl)) dss_nil)))
      (dss_one (ds_ret (de_cmp (ov_eq hr.units) (de_new (dn_lc (own := [("k", 7)]) rfl sc__law_parts.nd (di_rng1 (by rfl) T.z_range (da_cons (de_op ov_add (de_cb cv_len (by rfl) T.z_len (by decide +kernel) (da_cons (de_var 0 (pv 0)) da_nil)) de_int) da_nil)) (blkOk_by (N := ["word", "sign", "mask", "places", "pauli", "kept", "lit", "k"]) (sc := defScope s__law_parts) (by decide +kernel)) (tg_one (by decide)) (fun _ _ _ _ _ => pg_name (i := 7) sc__law_parts.nd rfl (Or.inl rfl)) (fun _ _ _ _ _ => pts_x0) (fun _ _ _ _ _ => (de_call G_letter (hr.mono (by decide)) (by rfl) T.d_letter.gl T.d_letter.fn.kp T.d_letter.bd (da_cons (de_var 4 (pv 4)) (da_cons (de_var 7 (pv 7)) da_nil)))))) (de_op ov_add (de_cty (cv_lstS rfl) (by rfl) T.z_list (by decide +kernel) (da_cons (de_var 0 (pv 0)) da_nil)) (de_new (dn_lst (da_cons de_str (da_cons de_str da_nil))))) (nomark _))))))))))
theorem ok__law_weights (T : Txt K mg A B) : FnOk P w K mg base CX0 5 (A 18) (B 18) ["n", "many"] (spOf K 2 sp__law_weights) := by
  have G__law_masks : FnOk P w K mg base CX0 1 (A 13) (B 13) ["word", "sign"] (spOf K 2 sp__law_masks) := ok__law_masks T
  have G_rank : FnOk P w K mg base CX0 3 (A 9) (B 9) ["pauli"] (spOf K 1 sp_rank) := ok_rank T
  refine fn_ok (ws := w__law_weights) T.d__law_weights.fn sc__law_weights rfl (fun cdv A outer s H E hr => ?_) pk__law_weights
  exact (dss_cons (ds_set 2 (de_new (dn_lst (da_cons de_str da_nil))) (fun _ he => ps_set (i := 2) sc__law_weights.nd rfl (by first | exact .inl rfl | exact .inr rfl) he))
      (dss_cons (ds_for PassesOwn.never rfl (di_rng1 (by rfl) T.z_range (da_cons (de_var 0 (pv 0)) da_nil)) (dg_var 3 (pg_name (i := 3) sc__law_weights.nd rfl (by first | exact .inl rfl | exact .inr rfl))) (dss_cons (ds_set 5 (de_new (dn_lst da_nil)) (fun _ he => ps_set (i := 5) sc__law_weights.nd rfl (by first | exact .inl rfl | exact .inr rfl) he))
      (dss_cons (ds_for PassesOwn.never rfl (di_str de_str) (dg_var 6 (pg_name (i := 6) sc__law_weights.nd rfl (by first | exact .inl rfl | exact .inr rfl))) (dss_one (ds_set 5 (de_op ov_add (de_var 5 (pv 5)) (de_new (dn_lc (own := [("row", 7)]) rfl sc__law_weights.nd (di_list (de_var 2 (pv 2))) (blkOk_by (N := ["n", "many", "rows", "k", "found", "longer", "name", "row"]) (sc := defScope s__law_weights) (by decide +kernel)) (tg_one (by decide)) (fun _ _ _ _ _ => pg_name (i := 7) sc__law_weights.nd rfl (Or.inl rfl)) (fun _ _ _ _ _ => pts_x0) (fun _ _ _ _ _ => (de_op ov_add (de_var 7 (pv 7)) (de_var 6 (pv 6))))))) (fun _ he => ps_set (i := 5) sc__law_weights.nd rfl (by first | exact .inl rfl | exact .inr rfl) he))))
      (dss_one (ds_set 2 (de_var 5 (pv 5)) (fun _ he => ps_set (i := 2) sc__law_weights.nd rfl (by first | exact .inl rfl | exact .inr rfl) he))))))
      (dss_cons (ds_setLcF (own := [("row", 7)]) (i := 4) rfl sc__law_weights.nd rfl rfl (sw_true rfl rfl rfl (by decide +kernel)) (di_list (de_var 2 (pv 2))) (blkOk_by (N := ["n", "many", "rows", "k", "found", "longer", "name", "row"]) (sc := defScope s__law_weights) (by decide +kernel)) (tg_one (by decide)) (fun _ _ _ _ _ => pg_name (i := 7) sc__law_weights.nd rfl (Or.inl rfl)) (fun _ _ _ _ _ => pts_x1 (dt_cmp (ov_eq hr.units) (de_cb cv_len (by rfl) T.z_len (by decide +kernel) (da_cons (de_new (dn_lc (own := [("name", 6)]) rfl sc__law_weights.nd (di_str (de_var 7 (pv 7))) (blk_any (blkOk_by (N := ["n", "many", "rows", "k", "found", "longer", "name", "row"]) (sc := defScope s__law_weights) (by decide +kernel)) (by decide +kernel)) (tg_one (by decide)) (fun _ _ _ _ _ => pg_name (i := 6) sc__law_weights.nd rfl (Or.inl rfl)) (fun _ _ _ _ _ => pts_x1 (dt_cmp (ov_ne hr.units) (de_var 6 (pv 6)) de_str (nomark _))) (fun _ _ _ _ _ => (de_var 6 (pv 6))))) da_nil)) (de_var 1 (pv 1)) (nomark _))) (fun _ _ _ _ _ => (de_call G__law_masks (hr.mono (by decide)) (by rfl) T.d__law_masks.gl T.d__law_masks.fn.kp T.d__law_masks.bd (da_cons (de_var 7 (pv 7)) (da_cons de_int da_nil)))))
      (dss_one (ds_ret (de_new (dn_sortF G_rank (hr.mono (by decide)) (by rfl) T.z_sorted (by rfl) T.d_rank.gl T.d_rank.bd (de_var 4 (pv 4)))))))))
theorem ok_law (T : Txt K mg A B) : FnOk P w K mg base CX0 6 (A 19) (B 19) ["script"] (spOf K 1 sp_law) := by
  have G__law_next : FnOk P w K mg base CX0 1 (A 11) (B 11) ["tape", "many"] (spOf K 2 sp__law_next) := ok__law_next T
  have G_of_weight : FnOk P w K mg base CX0 5 (A 10) (B 10) ["n", "many"] (spOf K 2 sp_of_weight) := ok_of_weight T
  have G__law_weights : FnOk P w K mg base CX0 5 (A 18) (B 18) ["n", "many"] (spOf K 2 sp__law_weights) := ok__law_weights T
  have G__law_word : FnOk P w K mg base CX0 2 (A 12) (B 12) ["tape", "n"] (spOf K 2 sp__law_word) := ok__law_word T
  have G__law_parts : FnOk P w K mg base CX0 4 (A 17) (B 17) ["word", "sign", "mask", "places"] (spOf K 4 sp__law_parts) := ok__law_parts T
  have G__law_pair : FnOk P w K mg base CX0 3 (A 16) (B 16) ["first", "second"] (spOf K 2 sp__law_pair) := ok__law_pair T
  refine fn_ok (ws := w_law) T.d_law.fn sc_law rfl (fun cdv A outer s H E hr => ?_) pk_law
  exact (dss_cons (ds_setM 1 (dn_lst (da_cons (de_cty (cv_lstS rfl) (by rfl) T.z_list (by decide +kernel) (da_cons (de_var 0 (pv 0)) da_nil)) (da_cons de_int (da_cons de_int (da_cons de_int da_nil))))) (fun _ he => ps_set (i := 1) sc_law.nd rfl (by first | exact .inl rfl | exact .inr rfl) he))
      (dss_cons (ds_set 2 (de_op ov_add de_int (de_call G__law_next (hr.mono (by decide)) (by rfl) T.d__law_next.gl T.d__law_next.fn.kp T.d__law_next.bd (da_cons (de_var 1 (pv 1)) (da_cons de_int da_nil)))) (fun _ he => ps_set (i := 2) sc_law.nd rfl (by first | exact .inl rfl | exact .inr rfl) he))
      (dss_cons (ds_for PassesOwn.never rfl (di_rng1 (by rfl) T.z_range (da_cons (de_op ov_add de_int (de_call G__law_next (hr.mono (by decide)) (by rfl) T.d__law_next.gl T.d__law_next.fn.kp T.d__law_next.bd (da_cons (de_var 1 (pv 1)) (da_cons de_int da_nil)))) da_nil)) (dg_var 3 (pg_name (i := 3) sc_law.nd rfl (by first | exact .inl rfl | exact .inr rfl))) (dss_cons (ds_set 6 (de_tup (da_cons (de_call G__law_word (hr.mono (by decide)) (by rfl) T.d__law_word.gl T.d__law_word.fn.kp T.d__law_word.bd (da_cons (de_var 1 (pv 1)) (da_cons (de_var 2 (pv 2)) da_nil))) (da_cons (de_call G__law_next (hr.mono (by decide)) (by rfl) T.d__law_next.gl T.d__law_next.fn.kp T.d__law_next.bd (da_cons (de_var 1 (pv 1)) (da_cons de_int da_nil))) da_nil))) (fun _ he => ps_set (i := 6) sc_law.nd rfl (by first | exact .inl rfl | exact .inr rfl) he))
      (dss_cons (ds_set 7 (de_tup (da_cons (de_call G__law_word (hr.mono (by decide)) (by rfl) T.d__law_word.gl T.d__law_word.fn.kp T.d__law_word.bd (da_cons (de_var 1 (pv 1)) (da_cons (de_var 2 (pv 2)) da_nil))) (da_cons (de_call G__law_next (hr.mono (by decide)) (by rfl) T.d__law_next.gl T.d__law_next.fn.kp T.d__law_next.bd (da_cons (de_var 1 (pv 1)) (da_cons de_int da_nil))) da_nil))) (fun _ he => ps_set (i := 7) sc_law.nd rfl (by first | exact .inl rfl | exact .inr rfl) he))
      (dss_cons (ds_if (DW.pt (dw_or (dt_not (dt_tru (de_call G__law_pair (hr.mono (by decide)) (by rfl) T.d__law_pair.gl T.d__law_pair.fn.kp T.d__law_pair.bd (da_cons (de_var 6 (pv 6)) (da_cons (de_var 7 (pv 7)) da_nil))))) (dw_or1 (dt_not (dt_tru (de_call G__law_pair (hr.mono (by decide)) (by rfl) T.d__law_pair.gl T.d__law_pair.fn.kp T.d__law_pair.bd (da_cons (de_var 6 (pv 6)) (da_cons (de_var 6 (pv 6)) da_nil)))))))) (dss_one (ds_ret de_bl)) dss_nil)
      (dss_one (ds_if (dt_not (dt_tru (de_call G__law_parts (hr.mono (by decide)) (by rfl) T.d__law_parts.gl T.d__law_parts.fn.kp T.d__law_parts.bd (da_cons (de_ix (de_var 6 (pv 6)) de_int (fun _ _ => rfl)) (da_cons (de_ix (de_var 6 (pv 6)) de_int (fun _ _ => rfl)) (da_cons (de_call G__law_next (hr.mono (by decide)) (by rfl) T.d__law_next.gl T.d__law_next.fn.kp T.d__law_next.bd (da_cons (de_var 1 (pv 1)) (da_cons de_int da_nil))) (da_cons (de_call G__law_next (hr.mono (by decide)) (by rfl) T.d__law_next.gl T.d__law_next.fn.kp T.d__law_next.bd (da_cons (de_var 1 (pv 1)) (da_cons de_int da_nil))) da_nil))))))) (dss_one (ds_ret de_bl)) dss_nil))))))
      (dss_cons (ds_set 4 (de_op ov_add de_int (de_op ov_mod (de_var 2 (pv 2)) de_int)) (fun _ he => ps_set (i := 4) sc_law.nd rfl (by first | exact .inl rfl | exact .inr rfl) he))
      (dss_cons (ds_set 5 (de_call G__law_next (hr.mono (by decide)) (by rfl) T.d__law_next.gl T.d__law_next.fn.kp T.d__law_next.bd (da_cons (de_var 1 (pv 1)) (da_cons (de_op ov_add (de_var 4 (pv 4)) de_int) da_nil))) (fun _ he => ps_set (i := 5) sc_law.nd rfl (by first | exact .inl rfl | exact .inr rfl) he))
      (dss_one (ds_ret (de_cmp (ov_eq hr.units) (de_call G_of_weight (hr.mono (by decide)) (by rfl) T.d_of_weight.gl T.d_of_weight.fn.kp T.d_of_weight.bd (da_cons (de_var 4 (pv 4)) (da_cons (de_var 5 (pv 5)) da_nil))) (de_call G__law_weights (hr.mono (by decide)) (by rfl) T.d__law_weights.gl T.d__law_weights.fn.kp T.d__law_weights.bd (da_cons (de_var 4 (pv 4)) (da_cons (de_var 5 (pv 5)) da_nil))) (nomark _)))))))))
end
end K01

set_option Elab.async false
set_option linter.all false
set_option maxRecDepth 100000
set_option maxHeartbeats 4000000
namespace K01
open PySem PySem.Spec L2 VL
theorem all_mk {l : PySem.W.OpenLaw} {w : World} {K : PySem.W.Frag} {h : Heap} {mg : Str → Option Value} {fa : Addr} (X : K.In h) (G : h.Ns mainGlobals mg) (hfa : mg "law" = some (.ref fa))
    {f0 f1 f2 f3 f4 f5 f6 f7 f8 f9 f10 f11 f12 f13 f14 f15 f16 f17 f18 f19 : Addr} {od0 an0 od1 an1 od2 an2 od3 an3 od4 an4 od5 an5 od6 an6 od7 an7 od8 an8 od9 an9 od10 an10 od11 an11 od12 an12 od13 an13 od14 an14 od15 an15 od16 an16 od17 an17 od18 an18 od19 an19 : Option Addr} {sl0 sl1 sl2 sl3 sl4 sl5 sl6 sl7 sl8 sl9 sl10 sl11 sl12 sl13 sl14 sl15 sl16 sl17 sl18 sl19 : Array (Option Value)} {oc0 kV0 dc0 pm0 cd0 ct0 oc1 kV1 dc1 pm1 cd1 ct1 oc2 kV2 dc2 pm2 cd2 ct2 oc3 kV3 dc3 pm3 cd3 ct3 oc4 kV4 dc4 pm4 cd4 ct4 oc5 kV5 dc5 pm5 cd5 ct5 oc6 kV6 dc6 pm6 cd6 ct6 oc7 kV7 dc7 pm7 cd7 ct7 oc8 kV8 dc8 pm8 cd8 ct8 oc9 kV9 dc9 pm9 cd9 ct9 oc10 kV10 dc10 pm10 cd10 ct10 oc11 kV11 dc11 pm11 cd11 ct11 oc12 kV12 dc12 pm12 cd12 ct12 oc13 kV13 dc13 pm13 cd13 ct13 oc14 kV14 dc14 pm14 cd14 ct14 oc15 kV15 dc15 pm15 cd15 ct15 oc16 kV16 dc16 pm16 cd16 ct16 oc17 kV17 dc17 pm17 cd17 ct17 oc18 kV18 dc18 pm18 cd18 ct18 oc19 kV19 dc19 pm19 cd19 ct19 : Value} {tNAMES : Tok}
    (a0 : PySem.W.nsIn K mainGlobals "ones" = some (some (.ref f0))) (l0 : K.lookup f0 = some ⟨oc0, od0, .func (PySem.W.fnOf "ones" "ones" (defArgs s_ones) (defBody s_ones) (defScope s_ones) .none kV0 dc0 pm0 an0 cd0 ct0), sl0⟩) (c0 : PySem.W.codeIn K cd0 "ones" = true) (k0 : PySem.W.keepIn K (.ref f0) = true)
    (a1 : PySem.W.nsIn K mainGlobals "weight" = some (some (.ref f1))) (l1 : K.lookup f1 = some ⟨oc1, od1, .func (PySem.W.fnOf "weight" "weight" (defArgs s_weight) (defBody s_weight) (defScope s_weight) .none kV1 dc1 pm1 an1 cd1 ct1), sl1⟩) (c1 : PySem.W.codeIn K cd1 "weight" = true) (k1 : PySem.W.keepIn K (.ref f1) = true)
    (a2 : PySem.W.nsIn K mainGlobals "letter" = some (some (.ref f2))) (l2 : K.lookup f2 = some ⟨oc2, od2, .func (PySem.W.fnOf "letter" "letter" (defArgs s_letter) (defBody s_letter) (defScope s_letter) .none kV2 dc2 pm2 an2 cd2 ct2), sl2⟩) (c2 : PySem.W.codeIn K cd2 "letter" = true) (k2 : PySem.W.keepIn K (.ref f2) = true)
    (a3 : PySem.W.nsIn K mainGlobals "support" = some (some (.ref f3))) (l3 : K.lookup f3 = some ⟨oc3, od3, .func (PySem.W.fnOf "support" "support" (defArgs s_support) (defBody s_support) (defScope s_support) .none kV3 dc3 pm3 an3 cd3 ct3), sl3⟩) (c3 : PySem.W.codeIn K cd3 "support" = true) (k3 : PySem.W.keepIn K (.ref f3) = true)
    (a4 : PySem.W.nsIn K mainGlobals "commutes" = some (some (.ref f4))) (l4 : K.lookup f4 = some ⟨oc4, od4, .func (PySem.W.fnOf "commutes" "commutes" (defArgs s_commutes) (defBody s_commutes) (defScope s_commutes) .none kV4 dc4 pm4 an4 cd4 ct4), sl4⟩) (c4 : PySem.W.codeIn K cd4 "commutes" = true) (k4 : PySem.W.keepIn K (.ref f4) = true)
    (a5 : PySem.W.nsIn K mainGlobals "product" = some (some (.ref f5))) (l5 : K.lookup f5 = some ⟨oc5, od5, .func (PySem.W.fnOf "product" "product" (defArgs s_product) (defBody s_product) (defScope s_product) .none kV5 dc5 pm5 an5 cd5 ct5), sl5⟩) (c5 : PySem.W.codeIn K cd5 "product" = true) (k5 : PySem.W.keepIn K (.ref f5) = true)
    (a6 : PySem.W.nsIn K mainGlobals "part" = some (some (.ref f6))) (l6 : K.lookup f6 = some ⟨oc6, od6, .func (PySem.W.fnOf "part" "part" (defArgs s_part) (defBody s_part) (defScope s_part) .none kV6 dc6 pm6 an6 cd6 ct6), sl6⟩) (c6 : PySem.W.codeIn K cd6 "part" = true) (k6 : PySem.W.keepIn K (.ref f6) = true)
    (a7 : PySem.W.nsIn K mainGlobals "shifted" = some (some (.ref f7))) (l7 : K.lookup f7 = some ⟨oc7, od7, .func (PySem.W.fnOf "shifted" "shifted" (defArgs s_shifted) (defBody s_shifted) (defScope s_shifted) .none kV7 dc7 pm7 an7 cd7 ct7), sl7⟩) (c7 : PySem.W.codeIn K cd7 "shifted" = true) (k7 : PySem.W.keepIn K (.ref f7) = true)
    (a8 : PySem.W.nsIn K mainGlobals "single" = some (some (.ref f8))) (l8 : K.lookup f8 = some ⟨oc8, od8, .func (PySem.W.fnOf "single" "single" (defArgs s_single) (defBody s_single) (defScope s_single) .none kV8 dc8 pm8 an8 cd8 ct8), sl8⟩) (c8 : PySem.W.codeIn K cd8 "single" = true) (k8 : PySem.W.keepIn K (.ref f8) = true)
    (a9 : PySem.W.nsIn K mainGlobals "rank" = some (some (.ref f9))) (l9 : K.lookup f9 = some ⟨oc9, od9, .func (PySem.W.fnOf "rank" "rank" (defArgs s_rank) (defBody s_rank) (defScope s_rank) .none kV9 dc9 pm9 an9 cd9 ct9), sl9⟩) (c9 : PySem.W.codeIn K cd9 "rank" = true) (k9 : PySem.W.keepIn K (.ref f9) = true)
    (a10 : PySem.W.nsIn K mainGlobals "of_weight" = some (some (.ref f10))) (l10 : K.lookup f10 = some ⟨oc10, od10, .func (PySem.W.fnOf "of_weight" "of_weight" (defArgs s_of_weight) (defBody s_of_weight) (defScope s_of_weight) .none kV10 dc10 pm10 an10 cd10 ct10), sl10⟩) (c10 : PySem.W.codeIn K cd10 "of_weight" = true) (k10 : PySem.W.keepIn K (.ref f10) = true)
    (a11 : PySem.W.nsIn K mainGlobals "_law_next" = some (some (.ref f11))) (l11 : K.lookup f11 = some ⟨oc11, od11, .func (PySem.W.fnOf "_law_next" "_law_next" (defArgs s__law_next) (defBody s__law_next) (defScope s__law_next) .none kV11 dc11 pm11 an11 cd11 ct11), sl11⟩) (c11 : PySem.W.codeIn K cd11 "_law_next" = true) (k11 : PySem.W.keepIn K (.ref f11) = true)
    (a12 : PySem.W.nsIn K mainGlobals "_law_word" = some (some (.ref f12))) (l12 : K.lookup f12 = some ⟨oc12, od12, .func (PySem.W.fnOf "_law_word" "_law_word" (defArgs s__law_word) (defBody s__law_word) (defScope s__law_word) .none kV12 dc12 pm12 an12 cd12 ct12), sl12⟩) (c12 : PySem.W.codeIn K cd12 "_law_word" = true) (k12 : PySem.W.keepIn K (.ref f12) = true)
    (a13 : PySem.W.nsIn K mainGlobals "_law_masks" = some (some (.ref f13))) (l13 : K.lookup f13 = some ⟨oc13, od13, .func (PySem.W.fnOf "_law_masks" "_law_masks" (defArgs s__law_masks) (defBody s__law_masks) (defScope s__law_masks) .none kV13 dc13 pm13 an13 cd13 ct13), sl13⟩) (c13 : PySem.W.codeIn K cd13 "_law_masks" = true) (k13 : PySem.W.keepIn K (.ref f13) = true)
    (a14 : PySem.W.nsIn K mainGlobals "_law_acted" = some (some (.ref f14))) (l14 : K.lookup f14 = some ⟨oc14, od14, .func (PySem.W.fnOf "_law_acted" "_law_acted" (defArgs s__law_acted) (defBody s__law_acted) (defScope s__law_acted) .none kV14 dc14 pm14 an14 cd14 ct14), sl14⟩) (c14 : PySem.W.codeIn K cd14 "_law_acted" = true) (k14 : PySem.W.keepIn K (.ref f14) = true)
    (a15 : PySem.W.nsIn K mainGlobals "_law_all_bits" = some (some (.ref f15))) (l15 : K.lookup f15 = some ⟨oc15, od15, .func (PySem.W.fnOf "_law_all_bits" "_law_all_bits" (defArgs s__law_all_bits) (defBody s__law_all_bits) (defScope s__law_all_bits) .none kV15 dc15 pm15 an15 cd15 ct15), sl15⟩) (c15 : PySem.W.codeIn K cd15 "_law_all_bits" = true) (k15 : PySem.W.keepIn K (.ref f15) = true)
    (a16 : PySem.W.nsIn K mainGlobals "_law_pair" = some (some (.ref f16))) (l16 : K.lookup f16 = some ⟨oc16, od16, .func (PySem.W.fnOf "_law_pair" "_law_pair" (defArgs s__law_pair) (defBody s__law_pair) (defScope s__law_pair) .none kV16 dc16 pm16 an16 cd16 ct16), sl16⟩) (c16 : PySem.W.codeIn K cd16 "_law_pair" = true) (k16 : PySem.W.keepIn K (.ref f16) = true)
    (a17 : PySem.W.nsIn K mainGlobals "_law_parts" = some (some (.ref f17))) (l17 : K.lookup f17 = some ⟨oc17, od17, .func (PySem.W.fnOf "_law_parts" "_law_parts" (defArgs s__law_parts) (defBody s__law_parts) (defScope s__law_parts) .none kV17 dc17 pm17 an17 cd17 ct17), sl17⟩) (c17 : PySem.W.codeIn K cd17 "_law_parts" = true) (k17 : PySem.W.keepIn K (.ref f17) = true)
    (a18 : PySem.W.nsIn K mainGlobals "_law_weights" = some (some (.ref f18))) (l18 : K.lookup f18 = some ⟨oc18, od18, .func (PySem.W.fnOf "_law_weights" "_law_weights" (defArgs s__law_weights) (defBody s__law_weights) (defScope s__law_weights) .none kV18 dc18 pm18 an18 cd18 ct18), sl18⟩) (c18 : PySem.W.codeIn K cd18 "_law_weights" = true) (k18 : PySem.W.keepIn K (.ref f18) = true)
    (a19 : PySem.W.nsIn K mainGlobals "law" = some (some (.ref f19))) (l19 : K.lookup f19 = some ⟨oc19, od19, .func (PySem.W.fnOf "law" "law" (defArgs s_law) (defBody s_law) (defScope s_law) .none kV19 dc19 pm19 an19 cd19 ct19), sl19⟩) (c19 : PySem.W.codeIn K cd19 "law" = true) (k19 : PySem.W.keepIn K (.ref f19) = true)
    (z_len : PySem.W.nsIn K mainGlobals "len" = some none) (z_abs : PySem.W.nsIn K mainGlobals "abs" = some none) (z_int : PySem.W.nsIn K mainGlobals "int" = some none) (z_sum : PySem.W.nsIn K mainGlobals "sum" = some none) (z_tuple : PySem.W.nsIn K mainGlobals "tuple" = some none) (z_list : PySem.W.nsIn K mainGlobals "list" = some none) (z_range : PySem.W.nsIn K mainGlobals "range" = some none) (z_sorted : PySem.W.nsIn K mainGlobals "sorted" = some none) (aNAMES : PySem.W.nsIn K mainGlobals "NAMES" = some (some (.str "IXZY" tNAMES))) :
    ∃ fd : FuncData, (∀ (s : Shared) (v : Value), BindsTo s fd ⟨[v], []⟩ [("script", v)]) ∧ ∀ base : Heap, K.In base → base.Ns mainGlobals mg → FnOk l.prog w K mg base CX0 6 fa fd ["script"] (spOf K 1 sp_law) := by
  have e := hfa.symm.trans (PySem.W.mg_of X G a19)
  cases e
  have F0 := fun_mk (st := s_ones) l0 c0 k0
  have D0 : DefAt K mg "ones" s_ones ["mask"] f0 _ := ⟨F0, F0.binds fun _ _ _ _ _ _ us hl => match us, hl with | [_], _ => rfl, PySem.W.mg_of X G a0⟩
  have F1 := fun_mk (st := s_weight) l1 c1 k1
  have D1 : DefAt K mg "weight" s_weight ["pauli"] f1 _ := ⟨F1, F1.binds fun _ _ _ _ _ _ us hl => match us, hl with | [_], _ => rfl, PySem.W.mg_of X G a1⟩
  have F2 := fun_mk (st := s_letter) l2 c2 k2
  have D2 : DefAt K mg "letter" s_letter ["pauli", "qubit"] f2 _ := ⟨F2, F2.binds fun _ _ _ _ _ _ us hl => match us, hl with | [_, _], _ => rfl, PySem.W.mg_of X G a2⟩
  have F3 := fun_mk (st := s_support) l3 c3 k3
  have D3 : DefAt K mg "support" s_support ["pauli"] f3 _ := ⟨F3, F3.binds fun _ _ _ _ _ _ us hl => match us, hl with | [_], _ => rfl, PySem.W.mg_of X G a3⟩
  have F4 := fun_mk (st := s_commutes) l4 c4 k4
  have D4 : DefAt K mg "commutes" s_commutes ["one", "other"] f4 _ := ⟨F4, F4.binds fun _ _ _ _ _ _ us hl => match us, hl with | [_, _], _ => rfl, PySem.W.mg_of X G a4⟩
  have F5 := fun_mk (st := s_product) l5 c5 k5
  have D5 : DefAt K mg "product" s_product ["one", "other"] f5 _ := ⟨F5, F5.binds fun _ _ _ _ _ _ us hl => match us, hl with | [_, _], _ => rfl, PySem.W.mg_of X G a5⟩
  have F6 := fun_mk (st := s_part) l6 c6 k6
  have D6 : DefAt K mg "part" s_part ["pauli", "mask"] f6 _ := ⟨F6, F6.binds fun _ _ _ _ _ _ us hl => match us, hl with | [_, _], _ => rfl, PySem.W.mg_of X G a6⟩
  have F7 := fun_mk (st := s_shifted) l7 c7 k7
  have D7 : DefAt K mg "shifted" s_shifted ["pauli", "places"] f7 _ := ⟨F7, F7.binds fun _ _ _ _ _ _ us hl => match us, hl with | [_, _], _ => rfl, PySem.W.mg_of X G a7⟩
  have F8 := fun_mk (st := s_single) l8 c8 k8
  have D8 : DefAt K mg "single" s_single ["name", "qubit"] f8 _ := ⟨F8, F8.binds fun _ _ _ _ _ _ us hl => match us, hl with | [_, _], _ => rfl, PySem.W.mg_of X G a8⟩
  have F9 := fun_mk (st := s_rank) l9 c9 k9
  have D9 : DefAt K mg "rank" s_rank ["pauli"] f9 _ := ⟨F9, F9.binds fun _ _ _ _ _ _ us hl => match us, hl with | [_], _ => rfl, PySem.W.mg_of X G a9⟩
  have F10 := fun_mk (st := s_of_weight) l10 c10 k10
  have D10 : DefAt K mg "of_weight" s_of_weight ["n", "many"] f10 _ := ⟨F10, F10.binds fun _ _ _ _ _ _ us hl => match us, hl with | [_, _], _ => rfl, PySem.W.mg_of X G a10⟩
  have F11 := fun_mk (st := s__law_next) l11 c11 k11
  have D11 : DefAt K mg "_law_next" s__law_next ["tape", "many"] f11 _ := ⟨F11, F11.binds fun _ _ _ _ _ _ us hl => match us, hl with | [_, _], _ => rfl, PySem.W.mg_of X G a11⟩
  have F12 := fun_mk (st := s__law_word) l12 c12 k12
  have D12 : DefAt K mg "_law_word" s__law_word ["tape", "n"] f12 _ := ⟨F12, F12.binds fun _ _ _ _ _ _ us hl => match us, hl with | [_, _], _ => rfl, PySem.W.mg_of X G a12⟩
  have F13 := fun_mk (st := s__law_masks) l13 c13 k13
  have D13 : DefAt K mg "_law_masks" s__law_masks ["word", "sign"] f13 _ := ⟨F13, F13.binds fun _ _ _ _ _ _ us hl => match us, hl with | [_, _], _ => rfl, PySem.W.mg_of X G a13⟩
  have F14 := fun_mk (st := s__law_acted) l14 c14 k14
  have D14 : DefAt K mg "_law_acted" s__law_acted ["word", "sign", "bits", "turns"] f14 _ := ⟨F14, F14.binds fun _ _ _ _ _ _ us hl => match us, hl with | [_, _, _, _], _ => rfl, PySem.W.mg_of X G a14⟩
  have F15 := fun_mk (st := s__law_all_bits) l15 c15 k15
  have D15 : DefAt K mg "_law_all_bits" s__law_all_bits ["n"] f15 _ := ⟨F15, F15.binds fun _ _ _ _ _ _ us hl => match us, hl with | [_], _ => rfl, PySem.W.mg_of X G a15⟩
  have F16 := fun_mk (st := s__law_pair) l16 c16 k16
  have D16 : DefAt K mg "_law_pair" s__law_pair ["first", "second"] f16 _ := ⟨F16, F16.binds fun _ _ _ _ _ _ us hl => match us, hl with | [_, _], _ => rfl, PySem.W.mg_of X G a16⟩
  have F17 := fun_mk (st := s__law_parts) l17 c17 k17
  have D17 : DefAt K mg "_law_parts" s__law_parts ["word", "sign", "mask", "places"] f17 _ := ⟨F17, F17.binds fun _ _ _ _ _ _ us hl => match us, hl with | [_, _, _, _], _ => rfl, PySem.W.mg_of X G a17⟩
  have F18 := fun_mk (st := s__law_weights) l18 c18 k18
  have D18 : DefAt K mg "_law_weights" s__law_weights ["n", "many"] f18 _ := ⟨F18, F18.binds fun _ _ _ _ _ _ us hl => match us, hl with | [_, _], _ => rfl, PySem.W.mg_of X G a18⟩
  have F19 := fun_mk (st := s_law) l19 c19 k19
  have D19 : DefAt K mg "law" s_law ["script"] fa _ := ⟨F19, F19.binds fun _ _ _ _ _ _ us hl => match us, hl with | [_], _ => rfl, PySem.W.mg_of X G a19⟩
  have T : Txt K mg (fun i => ([f0, f1, f2, f3, f4, f5, f6, f7, f8, f9, f10, f11, f12, f13, f14, f15, f16, f17, f18, fa] : List Addr).getD i 0) (fun i => ([PySem.W.fnOf "ones" "ones" (defArgs s_ones) (defBody s_ones) (defScope s_ones) .none kV0 dc0 pm0 an0 cd0 ct0, PySem.W.fnOf "weight" "weight" (defArgs s_weight) (defBody s_weight) (defScope s_weight) .none kV1 dc1 pm1 an1 cd1 ct1, PySem.W.fnOf "letter" "letter" (defArgs s_letter) (defBody s_letter) (defScope s_letter) .none kV2 dc2 pm2 an2 cd2 ct2, PySem.W.fnOf "support" "support" (defArgs s_support) (defBody s_support) (defScope s_support) .none kV3 dc3 pm3 an3 cd3 ct3, PySem.W.fnOf "commutes" "commutes" (defArgs s_commutes) (defBody s_commutes) (defScope s_commutes) .none kV4 dc4 pm4 an4 cd4 ct4, PySem.W.fnOf "product" "product" (defArgs s_product) (defBody s_product) (defScope s_product) .none kV5 dc5 pm5 an5 cd5 ct5, PySem.W.fnOf "part" "part" (defArgs s_part) (defBody s_part) (defScope s_part) .none kV6 dc6 pm6 an6 cd6 ct6, PySem.W.fnOf "shifted" "shifted" (defArgs s_shifted) (defBody s_shifted) (defScope s_shifted) .none kV7 dc7 pm7 an7 cd7 ct7, PySem.W.fnOf "single" "single" (defArgs s_single) (defBody s_single) (defScope s_single) .none kV8 dc8 pm8 an8 cd8 ct8, PySem.W.fnOf "rank" "rank" (defArgs s_rank) (defBody s_rank) (defScope s_rank) .none kV9 dc9 pm9 an9 cd9 ct9, PySem.W.fnOf "of_weight" "of_weight" (defArgs s_of_weight) (defBody s_of_weight) (defScope s_of_weight) .none kV10 dc10 pm10 an10 cd10 ct10, PySem.W.fnOf "_law_next" "_law_next" (defArgs s__law_next) (defBody s__law_next) (defScope s__law_next) .none kV11 dc11 pm11 an11 cd11 ct11, PySem.W.fnOf "_law_word" "_law_word" (defArgs s__law_word) (defBody s__law_word) (defScope s__law_word) .none kV12 dc12 pm12 an12 cd12 ct12, PySem.W.fnOf "_law_masks" "_law_masks" (defArgs s__law_masks) (defBody s__law_masks) (defScope s__law_masks) .none kV13 dc13 pm13 an13 cd13 ct13, PySem.W.fnOf "_law_acted" "_law_acted" (defArgs s__law_acted) (defBody s__law_acted) (defScope s__law_acted) .none kV14 dc14 pm14 an14 cd14 ct14, PySem.W.fnOf "_law_all_bits" "_law_all_bits" (defArgs s__law_all_bits) (defBody s__law_all_bits) (defScope s__law_all_bits) .none kV15 dc15 pm15 an15 cd15 ct15, PySem.W.fnOf "_law_pair" "_law_pair" (defArgs s__law_pair) (defBody s__law_pair) (defScope s__law_pair) .none kV16 dc16 pm16 an16 cd16 ct16, PySem.W.fnOf "_law_parts" "_law_parts" (defArgs s__law_parts) (defBody s__law_parts) (defScope s__law_parts) .none kV17 dc17 pm17 an17 cd17 ct17, PySem.W.fnOf "_law_weights" "_law_weights" (defArgs s__law_weights) (defBody s__law_weights) (defScope s__law_weights) .none kV18 dc18 pm18 an18 cd18 ct18, PySem.W.fnOf "law" "law" (defArgs s_law) (defBody s_law) (defScope s_law) .none kV19 dc19 pm19 an19 cd19 ct19] : List FuncData).getD i (PySem.W.fnOf "law" "law" (defArgs s_law) (defBody s_law) (defScope s_law) .none kV19 dc19 pm19 an19 cd19 ct19)) := ⟨PySem.W.mg_none_of X G z_len, PySem.W.mg_none_of X G z_abs, PySem.W.mg_none_of X G z_int, PySem.W.mg_none_of X G z_sum, PySem.W.mg_none_of X G z_tuple, PySem.W.mg_none_of X G z_list, PySem.W.mg_none_of X G z_range, PySem.W.mg_none_of X G z_sorted, ⟨.str "IXZY", _, PySem.W.mg_of X G aNAMES, ⟨_, rfl⟩, fun F => .str _⟩, D0, D1, D2, D3, D4, D5, D6, D7, D8, D9, D10, D11, D12, D13, D14, D15, D16, D17, D18, D19⟩
  exact ⟨PySem.W.fnOf "law" "law" (defArgs s_law) (defBody s_law) (defScope s_law) .none kV19 dc19 pm19 an19 cd19 ct19, fun s v => .of_eq rfl, fun base _ _ => ok_law T⟩
end K01
open PySem PySem.W PyProof.Rows
set_option maxHeartbeats 0 in
theorem PySem.Challenge.cw_mendedgates_k01_paulis_are_matrices_holds : PySem.Challenge.rw_mendedgates_k01_paulis_are_matrices.Holds := by
  w_on; o_law; k_head; (case hw => w_witness2)
  k_fill
  refine L2.walk_of (l := PySem.Challenge.rw_mendedgates_k01_paulis_are_matrices) (n := 63) (k := 6) (x := "script") (CX := fun _ => L2.CX0) (sp := fun w => VL.spOf _ 1 K01.sp_law) rfl (by decide) rfl ⟨rfl, by decide, by decide⟩ (fun w h Y => PySem.W.kIn_of Y) ?F (fun _ H a ns hl _ hS => VL.law_in hS ⟨ns, rfl, hl, fun _ => rfl⟩) (fun _ _ _ _ _ h => h)
  case F =>
    intro w mg fa h KX G hmg
    refine' K01.all_mk KX G hmg ?a0 ?l0 ?c0 ?k0 ?a1 ?l1 ?c1 ?k1 ?a2 ?l2 ?c2 ?k2 ?a3 ?l3 ?c3 ?k3 ?a4 ?l4 ?c4 ?k4 ?a5 ?l5 ?c5 ?k5 ?a6 ?l6 ?c6 ?k6 ?a7 ?l7 ?c7 ?k7 ?a8 ?l8 ?c8 ?k8 ?a9 ?l9 ?c9 ?k9 ?a10 ?l10 ?c10 ?k10 ?a11 ?l11 ?c11 ?k11 ?a12 ?l12 ?c12 ?k12 ?a13 ?l13 ?c13 ?k13 ?a14 ?l14 ?c14 ?k14 ?a15 ?l15 ?c15 ?k15 ?a16 ?l16 ?c16 ?k16 ?a17 ?l17 ?c17 ?k17 ?a18 ?l18 ?c18 ?k18 ?a19 ?l19 ?c19 ?k19 ?z_len ?z_abs ?z_int ?z_sum ?z_tuple ?z_list ?z_range ?z_sorted ?aNAMES
    (case a0 => k_is); (case l0 => k_is); (case c0 => k_is); (case k0 => k_is); (case a1 => k_is); (case l1 => k_is)
    (case c1 => k_is); (case k1 => k_is); (case a2 => k_is); (case l2 => k_is); (case c2 => k_is); (case k2 => k_is)
    (case a3 => k_is); (case l3 => k_is); (case c3 => k_is); (case k3 => k_is); (case a4 => k_is); (case l4 => k_is)
    (case c4 => k_is); (case k4 => k_is); (case a5 => k_is); (case l5 => k_is); (case c5 => k_is); (case k5 => k_is)
    (case a6 => k_is); (case l6 => k_is); (case c6 => k_is); (case k6 => k_is); (case a7 => k_is); (case l7 => k_is)
    (case c7 => k_is); (case k7 => k_is); (case a8 => k_is); (case l8 => k_is); (case c8 => k_is); (case k8 => k_is)
    (case a9 => k_is); (case l9 => k_is); (case c9 => k_is); (case k9 => k_is); (case a10 => k_is); (case l10 => k_is)
    (case c10 => k_is); (case k10 => k_is); (case a11 => k_is); (case l11 => k_is); (case c11 => k_is); (case k11 => k_is)
    (case a12 => k_is); (case l12 => k_is); (case c12 => k_is); (case k12 => k_is); (case a13 => k_is); (case l13 => k_is)
    (case c13 => k_is); (case k13 => k_is); (case a14 => k_is); (case l14 => k_is); (case c14 => k_is); (case k14 => k_is)
    (case a15 => k_is); (case l15 => k_is); (case c15 => k_is); (case k15 => k_is); (case a16 => k_is); (case l16 => k_is)
    (case c16 => k_is); (case k16 => k_is); (case a17 => k_is); (case l17 => k_is); (case c17 => k_is); (case k17 => k_is)
    (case a18 => k_is); (case l18 => k_is); (case c18 => k_is); (case k18 => k_is); (case a19 => k_is); (case l19 => k_is)
    (case c19 => k_is); (case k19 => k_is); (case z_len => k_is); (case z_abs => k_is); (case z_int => k_is); (case z_sum => k_is)
    (case z_tuple => k_is); (case z_list => k_is); (case z_range => k_is); (case z_sorted => k_is); (case aNAMES => k_is)

