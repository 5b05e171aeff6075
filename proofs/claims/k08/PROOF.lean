import PyProof.Rows.All
import Wide.All
import OpenK.AllK
import Wide.FinOn
import HandS.ForMost
import HandS.Wide
import HandS.WideBits
import HandS.Style
import HandS.TupAny
import HandS.IsInst
import HandS.Deep
import HandS.Zip
import KE.GoesMore
import KE.BitLaws
import KE.KBits
import PySem.Challenge.RW_mendedgates_k08_operations_and_faults
set_option Elab.async false
set_option linter.all false
set_option maxRecDepth 100000
set_option maxHeartbeats 4000000
/-! VL: a layer of plain data over HandS. Values are trees; frozen objects stand in F; what a name of the def owns is mutable. -/
namespace VL
open PySem PySem.Spec L2

/-- built-in classes as values -/
inductive Ty where
  | tint | tbool | tstr | ttup | tlst | tdct
def Ty.name : Ty → String
  | .tint => "int"
  | .tbool => "bool"
  | .tstr => "str"
  | .ttup => "tuple"
  | .tlst => "list"
  | .tdct => "dict"
inductive D where
  | non | bl (b : Bool) | int (i : Int) | str (x : Str)
  | tup (ds : List D) | lst (ds : List D) | dct (ks : List Key) (ds : List D) | obj (a : Addr) | scr (ns : List Int) | ty (t : Ty)

mutual
def D.pd : D → PyData
  | .non => .none
  | .bl b => .bool b
  | .int i => .int i
  | .str x => .str x
  | .tup ds => .tuple (D.pds ds)
  | .lst ds => .list (D.pds ds)
  | .dct _ _ => .none
  | .obj _ => .none
  | .scr _ => .none
  | .ty _ => .none
def D.pds : List D → List PyData
  | [] => []
  | d :: ds => D.pd d :: D.pds ds
end

/-- plain data of at most that depth -/
def shD : Nat → D → Bool
  | _, .non => true
  | _, .bl _ => true
  | _, .int _ => true
  | _, .str x => PyData.strOk x
  | n + 1, .tup ds => ds.all (shD n)
  | n + 1, .lst ds => ds.all (shD n)
  | _, _ => false

mutual
def eqD : D → D → Bool
  | .non, .non => true
  | .bl a, .bl b => a == b
  | .bl a, .int j => (if a then 1 else 0) == j
  | .int i, .bl b => i == (if b then 1 else 0)
  | .int i, .int j => i == j
  | .str x, .str y => x == y
  | .tup xs, .tup ys => eqDs xs ys
  | .lst xs, .lst ys => eqDs xs ys
  | _, _ => false
def eqDs : List D → List D → Bool
  | [], [] => true
  | x :: xs, y :: ys => eqD x y && eqDs xs ys
  | _, _ => false
end

/-- a value whose tree holds no list, no dict -/
def flD : Nat → D → Bool
  | _, .non => true
  | _, .bl _ => true
  | _, .int _ => true
  | _, .str _ => true
  | _, .obj _ => true
  | n + 1, .tup ds => ds.all (flD n)
  | _, _ => false

/-- a mutable object that has a name of its own -/
inductive Ob where
  | ml (ds : List D)
  | md (ks : List Key) (ds : List D)
  | ins (C : Addr) (fs : List (Str × D))

abbrev Oh := Addr → Option Ob
def Oh.put (h : Oh) (a : Addr) (o : Ob) : Oh := fun b => if b = a then some o else h b
theorem Oh.put_same {h : Oh} {a : Addr} {o : Ob} : h.put a o a = some o := by unfold Oh.put; rw [if_pos rfl]
theorem Oh.put_ne {h : Oh} {a b : Addr} {o : Ob} (n : b ≠ a) : h.put a o b = h b := by unfold Oh.put; rw [if_neg n]
theorem Oh.put_put {h : Oh} {a : Addr} {o u : Ob} : (h.put a o).put a u = h.put a u := by
  funext b; unfold Oh.put; split <;> rfl

/-- a slot: unset, a frozen value, a container that the name owns -/
inductive Sl where
  | u | f (d : D) | o (d : D)

structure Sg where
  s : List Sl
  h : Oh

/-! ### what a value is in the frozen part -/
mutual
inductive Rep (K : PySem.W.Frag) (F : Hp) : V → D → Prop
  | non : Rep K F .non .non
  | bl (b : Bool) : Rep K F (.bl b) (.bl b)
  | int (i : Int) : Rep K F (.int i) (.int i)
  | str (x : Str) : Rep K F (.str x) (.str x)
  | tup {a : Addr} {vs : List V} {ds : List D} : SqT K F a vs → Reps K F vs ds → Rep K F (.ref a) (.tup ds)
  | lst {a : Addr} {vs : List V} {ds : List D} : F a = some (.lst vs) → Reps K F vs ds → Rep K F (.ref a) (.lst ds)
  | dct {a : Addr} {kvs : List (Key × V)} {ks : List Key} {ds : List D} : F a = some (.dK kvs) → kvs.map (·.1) = ks → Reps K F (kvs.map (·.2)) ds → Rep K F (.ref a) (.dct ks ds)
  | obj (a : Addr) : Rep K F (.ref a) (.obj a)
  | scr {a : Addr} {ns : List Int} : SqL K F a (ns.map V.int) → Rep K F (.ref a) (.scr ns)
  | ty (t : Ty) : Rep K F (.ty t.name) (.ty t)
inductive Reps (K : PySem.W.Frag) (F : Hp) : List V → List D → Prop
  | nil : Reps K F [] []
  | cons {v : V} {vs : List V} {d : D} {ds : List D} : Rep K F v d → Reps K F vs ds → Reps K F (v :: vs) (d :: ds)
end

def Ext (F F' : Hp) : Prop := ∀ a o, F a = some o → F' a = some o
theorem Ext.refl (F : Hp) : Ext F F := fun _ _ h => h
theorem Ext.trans {F G H : Hp} (a : Ext F G) (b : Ext G H) : Ext F H := fun x o h => b x o (a x o h)
theorem Ext.new {F : Hp} {p : Addr} {o : HO} (h : F p = none) : Ext F (upd F p o) := fun a u e => by
  rw [upd_ne (ne_of_none e h)]
  exact e
theorem Ext.rd {F G : Hp} (e : Ext F G) {a : Addr} {u : HO} (h : Rd F a u) : Rd G a u := by
  rcases h with h | ⟨o, h⟩
  · exact .inl (e _ _ h)
  · exact .inr ⟨o, e _ _ h⟩
theorem Ext.sqL {K : PySem.W.Frag} {F G : Hp} (e : Ext F G) {a : Addr} {xs : List V} (h : SqL K F a xs) : SqL K G a xs := h.elim (fun z => .inl (e.rd z)) .inr
theorem Ext.sqT {K : PySem.W.Frag} {F G : Hp} (e : Ext F G) {a : Addr} {xs : List V} (h : SqT K F a xs) : SqT K G a xs := h.elim (fun z => .inl (e.rd z)) .inr

mutual
theorem Rep.mono {K : PySem.W.Frag} {F G : Hp} (e : Ext F G) : ∀ {v : V} {d : D}, Rep K F v d → Rep K G v d
  | _, _, .non => .non
  | _, _, .bl b => .bl b
  | _, _, .int i => .int i
  | _, _, .str x => .str x
  | _, _, .tup h r => .tup (e.sqT h) (Reps.mono e r)
  | _, _, .lst h r => .lst (e _ _ h) (Reps.mono e r)
  | _, _, .dct h k r => .dct (e _ _ h) k (Reps.mono e r)
  | _, _, .obj a => .obj a
  | _, _, .scr h => .scr (e.sqL h)
  | _, _, .ty t => .ty t
theorem Reps.mono {K : PySem.W.Frag} {F G : Hp} (e : Ext F G) : ∀ {vs : List V} {ds : List D}, Reps K F vs ds → Reps K G vs ds
  | _, _, .nil => .nil
  | _, _, .cons h r => .cons (Rep.mono e h) (Reps.mono e r)
end
section
variable {K : PySem.W.Frag} {F G H : Hp}
theorem Reps.length : ∀ {vs : List V} {ds : List D}, Reps K F vs ds → vs.length = ds.length
  | _, _, .nil => rfl
  | _, _, .cons _ r => congrArg (· + 1) (Reps.length r)
theorem Reps.get : ∀ {vs : List V} {ds : List D} {i : Nat} {d : D}, Reps K F vs ds → ds[i]? = some d → ∃ v, vs[i]? = some v ∧ Rep K F v d
  | _, _, _, _, .nil, h => by simp at h
  | _, _, 0, _, .cons r _, h => by
    have e := Option.some.inj h
    subst e
    exact ⟨_, rfl, r⟩
  | _, _, i + 1, _, .cons _ t, h => Reps.get (i := i) t h
theorem Reps.append : ∀ {vs ws : List V} {ds es : List D}, Reps K F vs ds → Reps K F ws es → Reps K F (vs ++ ws) (ds ++ es)
  | _, _, _, _, .nil, s => s
  | _, _, _, _, .cons r t, s => .cons r (Reps.append t s)
theorem Reps.one {v : V} {d : D} (h : Rep K F v d) : Reps K F [v] [d] := .cons h .nil
theorem Reps.set : ∀ {vs : List V} {ds : List D} {v : V} {d : D} (i : Nat), Reps K F vs ds → Rep K F v d → Reps K F (vs.set i v) (ds.set i d)
  | _, _, _, _, _, .nil, _ => .nil
  | _, _, _, _, 0, .cons _ t, r => .cons r t
  | _, _, _, _, i + 1, .cons q t, r => .cons q (Reps.set i t r)
theorem Reps.take : ∀ {vs : List V} {ds : List D} (n : Nat), Reps K F vs ds → Reps K F (vs.take n) (ds.take n)
  | _, _, 0, _ => .nil
  | _, _, _ + 1, .nil => .nil
  | _, _, n + 1, .cons r t => .cons r (Reps.take n t)
theorem Reps.drop : ∀ {vs : List V} {ds : List D} (n : Nat), Reps K F vs ds → Reps K F (vs.drop n) (ds.drop n)
  | _, _, 0, r => r
  | _, _, _ + 1, .nil => .nil
  | _, _, n + 1, .cons _ t => Reps.drop n t
theorem Reps.dropLast {vs : List V} {ds : List D} (h : Reps K F vs ds) : Reps K F vs.dropLast ds.dropLast := by
  rw [List.dropLast_eq_take, List.dropLast_eq_take, h.length]
  exact h.take _
theorem Reps.rep {vs : List V} {ds : List D} (h : Reps K F vs ds) : ∀ k : Nat, Reps K F (List.replicate k vs).flatten (List.replicate k ds).flatten
  | 0 => .nil
  | k + 1 => by
    rw [List.replicate_succ, List.replicate_succ, List.flatten_cons, List.flatten_cons]
    exact h.append (Reps.rep h k)
theorem Reps.rev {vs : List V} {ds : List D} (h : Reps K F vs ds) : Reps K F vs.reverse ds.reverse := by
  induction h using Reps.rec (motive_1 := fun _ _ _ => True) with
  | nil => exact .nil
  | cons a b _ ih =>
    rw [List.reverse_cons, List.reverse_cons]
    exact ih.append (.one a)
  | _ => trivial
theorem Reps.ints : ∀ {vs : List V} {ns : List Int}, Reps K F vs (ns.map D.int) → vs = ns.map V.int
  | _, [], .nil => rfl
  | _, n :: ns, .cons r t => by
    cases r
    rw [List.map_cons, Reps.ints t]
theorem Reps.ofInts : ∀ (ns : List Int), Reps K F (ns.map V.int) (ns.map D.int)
  | [] => .nil
  | n :: ns => .cons (.int n) (Reps.ofInts ns)
theorem Reps.bools : ∀ {vs : List V} {ns : List Bool}, Reps K F vs (ns.map D.bl) → vs = ns.map V.bl
  | _, [], .nil => rfl
  | _, n :: ns, .cons r t => by
    cases r
    rw [List.map_cons, Reps.bools t]
theorem Reps.strs : ∀ {vs : List V} {ns : List Str}, Reps K F vs (ns.map D.str) → vs = ns.map V.str
  | _, [], .nil => rfl
  | _, n :: ns, .cons r t => by
    cases r
    rw [List.map_cons, Reps.strs t]
end

/-! ### plain data as the library's data -/
mutual
theorem Rep.dp {K : PySem.W.Frag} {F H : Hp} (e : Ext F H) : ∀ {n : Nat} {v : V} {d : D}, Rep K F v d → shD n d = true → Dp K H v d.pd
  | _, _, _, .non, _ => .non
  | _, _, _, .bl b, _ => .bl b
  | _, _, _, .int i, _ => .int i
  | _, _, _, .str x, _ => .str x
  | 0, _, _, .tup _ _, s => by simp [shD] at s
  | n + 1, _, _, .tup h r, s => .tup (e.sqT h) (Reps.dp (n := n) e r s)
  | 0, _, _, .lst _ _, s => by simp [shD] at s
  | n + 1, _, _, .lst h r, s => .lst (.of (e _ _ h)) (Reps.dp (n := n) e r s)
  | 0, _, _, .dct _ _ _, s => by simp [shD] at s
  | n + 1, _, _, .dct _ _ _, s => by simp [shD] at s
  | 0, _, _, .obj _, s => by simp [shD] at s
  | n + 1, _, _, .obj _, s => by simp [shD] at s
  | 0, _, _, .scr _, s => by simp [shD] at s
  | n + 1, _, _, .scr _, s => by simp [shD] at s
  | 0, _, _, .ty _, s => by simp [shD] at s
  | n + 1, _, _, .ty _, s => by simp [shD] at s
theorem Reps.dp {K : PySem.W.Frag} {F H : Hp} (e : Ext F H) : ∀ {n : Nat} {vs : List V} {ds : List D}, Reps K F vs ds → ds.all (shD n) = true → DpAll K H vs (D.pds ds)
  | _, _, _, .nil, _ => .nil
  | n, _, _, .cons r t, s => by
    rw [List.all_cons, Bool.and_eq_true] at s
    exact .cons (Rep.dp e r s.1) (Reps.dp e t s.2)
end
mutual
theorem can_sh : ∀ (n : Nat) (d : D), shD n d = true → d.pd.canLay0 = true
  | _, .non, _ => rfl
  | _, .bl _, _ => rfl
  | _, .int _, _ => rfl
  | 0, .str x, h => h
  | n + 1, .str x, h => h
  | n + 1, .tup ds, h => can_shs n ds h
  | n + 1, .lst ds, h => can_shs n ds h
  | 0, .tup ds, h => by simp [shD] at h
  | 0, .lst ds, h => by simp [shD] at h
  | 0, .dct _ _, h => by simp [shD] at h
  | n + 1, .dct _ _, h => by simp [shD] at h
  | 0, .obj _, h => by simp [shD] at h
  | n + 1, .obj _, h => by simp [shD] at h
  | 0, .scr _, h => by simp [shD] at h
  | n + 1, .scr _, h => by simp [shD] at h
  | 0, .ty _, h => by simp [shD] at h
  | n + 1, .ty _, h => by simp [shD] at h
theorem can_shs : ∀ (n : Nat) (ds : List D), ds.all (shD n) = true → PyData.canLayAll0 (D.pds ds) = true
  | _, [], _ => rfl
  | n, d :: ds, h => by
    rw [List.all_cons, Bool.and_eq_true] at h
    show (PyData.canLay0 d.pd && PyData.canLayAll0 (D.pds ds)) = true
    rw [can_sh n d h.1, can_shs n ds h.2]
    rfl
end
mutual
theorem depth_sh : ∀ (n : Nat) (d : D), shD n d = true → d.pd.depth ≤ n
  | _, .non, _ => Nat.zero_le _
  | _, .bl _, _ => Nat.zero_le _
  | _, .int _, _ => Nat.zero_le _
  | _, .str x, _ => Nat.zero_le _
  | n + 1, .tup ds, h => Nat.succ_le_succ (depth_shs n ds h)
  | n + 1, .lst ds, h => Nat.succ_le_succ (depth_shs n ds h)
  | 0, .tup ds, h => by simp [shD] at h
  | 0, .lst ds, h => by simp [shD] at h
  | 0, .dct _ _, h => by simp [shD] at h
  | n + 1, .dct _ _, h => by simp [shD] at h
  | 0, .obj _, h => by simp [shD] at h
  | n + 1, .obj _, h => by simp [shD] at h
  | 0, .scr _, h => by simp [shD] at h
  | n + 1, .scr _, h => by simp [shD] at h
  | 0, .ty _, h => by simp [shD] at h
  | n + 1, .ty _, h => by simp [shD] at h
theorem depth_shs : ∀ (n : Nat) (ds : List D), ds.all (shD n) = true → PyData.depthAll (D.pds ds) ≤ n
  | _, [], _ => Nat.zero_le _
  | n, d :: ds, h => by
    rw [List.all_cons, Bool.and_eq_true] at h
    exact Nat.max_le.mpr ⟨depth_sh n d h.1, depth_shs n ds h.2⟩
end
theorem shaped_sh {n : Nat} {d : D} (h : shD n d = true) (hn : n ≤ 64) : SeqAt.shaped d.pd = true := by
  show (PyData.canLay0 d.pd && decide (PyData.depth d.pd ≤ 64)) = true
  rw [can_sh n d h, decide_eq_true (Nat.le_trans (depth_sh n d h) hn)]
  rfl
mutual
theorem eqD_pd : ∀ (n : Nat) (d e : D), shD n d = true → shD n e = true → PyData.eqv d.pd e.pd = eqD d e
  | _, .non, .non, _, _ => rfl
  | _, .non, .bl _, _, _ => rfl
  | _, .non, .int _, _, _ => rfl
  | _, .non, .str _, _, _ => rfl
  | _, .non, .tup _, _, _ => rfl
  | _, .non, .lst _, _, _ => rfl
  | _, .bl _, .non, _, _ => rfl
  | _, .bl _, .bl _, _, _ => rfl
  | _, .bl _, .int _, _, _ => rfl
  | _, .bl _, .str _, _, _ => rfl
  | _, .bl _, .tup _, _, _ => rfl
  | _, .bl _, .lst _, _, _ => rfl
  | _, .int _, .non, _, _ => rfl
  | _, .int _, .bl _, _, _ => rfl
  | _, .int _, .int _, _, _ => rfl
  | _, .int _, .str _, _, _ => rfl
  | _, .int _, .tup _, _, _ => rfl
  | _, .int _, .lst _, _, _ => rfl
  | _, .str _, .non, _, _ => rfl
  | _, .str _, .bl _, _, _ => rfl
  | _, .str _, .int _, _, _ => rfl
  | _, .str _, .str _, _, _ => rfl
  | _, .str _, .tup _, _, _ => rfl
  | _, .str _, .lst _, _, _ => rfl
  | _, .tup _, .non, _, _ => rfl
  | _, .tup _, .bl _, _, _ => rfl
  | _, .tup _, .int _, _, _ => rfl
  | _, .tup _, .str _, _, _ => rfl
  | n + 1, .tup xs, .tup ys, h, k => by
    show PyData.eqvAll (D.pds xs) (D.pds ys) = eqDs xs ys
    exact eqDs_pd n xs ys h k
  | _, .tup _, .lst _, _, _ => rfl
  | _, .lst _, .non, _, _ => rfl
  | _, .lst _, .bl _, _, _ => rfl
  | _, .lst _, .int _, _, _ => rfl
  | _, .lst _, .str _, _, _ => rfl
  | _, .lst _, .tup _, _, _ => rfl
  | n + 1, .lst xs, .lst ys, h, k => by
    show PyData.eqvAll (D.pds xs) (D.pds ys) = eqDs xs ys
    exact eqDs_pd n xs ys h k
  | 0, .tup _, _, h, _ => by simp [shD] at h
  | 0, .lst _, _, h, _ => by simp [shD] at h
  | n, .dct _ _, _, h, _ => by cases n <;> simp [shD] at h
  | n, .obj _, _, h, _ => by cases n <;> simp [shD] at h
  | n, .scr _, _, h, _ => by cases n <;> simp [shD] at h
  | n, .ty _, _, h, _ => by cases n <;> simp [shD] at h
  | n, _, .dct _ _, _, h => by cases n <;> simp [shD] at h
  | n, _, .obj _, _, h => by cases n <;> simp [shD] at h
  | n, _, .scr _, _, h => by cases n <;> simp [shD] at h
  | n, _, .ty _, _, h => by cases n <;> simp [shD] at h
theorem eqDs_pd : ∀ (n : Nat) (ds es : List D), ds.all (shD n) = true → es.all (shD n) = true → PyData.eqvAll (D.pds ds) (D.pds es) = eqDs ds es
  | _, [], [], _, _ => rfl
  | _, [], _ :: _, _, _ => rfl
  | _, _ :: _, [], _, _ => rfl
  | n, d :: ds, e :: es, h, k => by
    rw [List.all_cons, Bool.and_eq_true] at h k
    show (PyData.eqv d.pd e.pd && PyData.eqvAll (D.pds ds) (D.pds es)) = (eqD d e && eqDs ds es)
    rw [eqD_pd n d e h.1 k.1, eqDs_pd n ds es h.2 k.2]
end

/-! ### the state: slots, frozen part, objects -/
/-- the entry of a def (or of a comprehension's turn): frozen part, heap, objects, what its names own -/
structure En where
  F : Hp
  H : Hp
  h : Oh
  ow : Addr → Prop

def ObAt (K : PySem.W.Frag) (F H : Hp) (a : Addr) : Ob → Prop
  | .ml ds => ∃ vs, H a = some (.lst vs) ∧ Reps K F vs ds
  | .md ks ds => ∃ kvs, H a = some (.dK kvs) ∧ kvs.map (·.1) = ks ∧ Reps K F (kvs.map (·.2)) ds
  | .ins C fs => ∃ dx vfs, H a = some (.ins C dx vfs) ∧ vfs.map (·.1) = fs.map (·.1) ∧ Reps K F (vfs.map (·.2)) (fs.map (·.2))
/-- what stands at an owned address -/
def OwAt (K : PySem.W.Frag) (F H : Hp) (a : Addr) : D → Prop
  | .lst ds => ∃ vs, H a = some (.lst vs) ∧ Reps K F vs ds
  | .dct ks ds => ∃ kvs, H a = some (.dK kvs) ∧ kvs.map (·.1) = ks ∧ Reps K F (kvs.map (·.2)) ds
  | _ => False
section
variable {K : PySem.W.Frag} {F F' H H' : Hp} {a : Addr}
theorem ObAt.there {o : Ob} (h : ObAt K F H a o) : H a ≠ none := by
  cases o with
  | ml ds => obtain ⟨vs, e, _⟩ := h; rw [e]; simp
  | md ks ds => obtain ⟨vs, e, _⟩ := h; rw [e]; simp
  | ins C fs => obtain ⟨dx, vs, e, _⟩ := h; rw [e]; simp
theorem ObAt.mono {o : Ob} (h : ObAt K F H a o) (e : Ext F F') (k : H' a = H a) : ObAt K F' H' a o := by
  cases o with
  | ml ds => obtain ⟨vs, q, r⟩ := h; exact ⟨vs, k.trans q, r.mono e⟩
  | md ks ds => obtain ⟨vs, q, z, r⟩ := h; exact ⟨vs, k.trans q, z, r.mono e⟩
  | ins C fs => obtain ⟨dx, vs, q, z, r⟩ := h; exact ⟨dx, vs, k.trans q, z, r.mono e⟩
theorem OwAt.there {d : D} (h : OwAt K F H a d) : H a ≠ none := by
  cases d with
  | lst ds => obtain ⟨vs, e, _⟩ := h; rw [e]; simp
  | dct ks ds => obtain ⟨vs, e, _⟩ := h; rw [e]; simp
  | _ => exact h.elim
theorem OwAt.mono {d : D} (h : OwAt K F H a d) (e : Ext F F') (k : H' a = H a) : OwAt K F' H' a d := by
  cases d with
  | lst ds => obtain ⟨vs, q, r⟩ := h; exact ⟨vs, k.trans q, r.mono e⟩
  | dct ks ds => obtain ⟨vs, q, z, r⟩ := h; exact ⟨vs, k.trans q, z, r.mono e⟩
  | _ => exact h.elim
/-- an owned container, frozen -/
theorem OwAt.rep {d : D} {o : HO} (h : OwAt K F H a d) (ho : H a = some o) (hn : F a = none) : Rep K (upd F a o) (.ref a) d := by
  cases d with
  | lst ds =>
    obtain ⟨vs, q, r⟩ := h
    rw [ho] at q; cases q
    exact .lst upd_same (r.mono (.new hn))
  | dct ks ds =>
    obtain ⟨vs, q, z, r⟩ := h
    rw [ho] at q; cases q
    exact .dct upd_same z (r.mono (.new hn))
  | _ => exact h.elim
end

/-- what has grown since the entry -/
structure Gr (K : PySem.W.Frag) (E : En) (F H : Hp) (h : Oh) : Prop where
  ext : Ext F H
  gF : Ext E.F F
  gN : ∀ b, E.F b = none → E.H b ≠ none → ¬ E.ow b → F b = none
  gH : ∀ b o, E.H b = some o → E.h b = none → ¬ E.ow b → H b = some o
  gP : ∀ b, E.H b ≠ none → H b ≠ none
  gO : ∀ a, h a ≠ none → E.h a ≠ none ∨ E.H a = none
  obs : ∀ a ob, h a = some ob → ObAt K F H a ob ∧ F a = none

structure Rel (K : PySem.W.Frag) (E : En) (F H : Hp) (σ : L2.St) (S : Sg) : Prop where
  g : Gr K E F H S.h
  len : S.s.length = σ.length
  frz : ∀ (i : Nat) (d : D), S.s[i]? = some (.f d) → ∃ v, σ[i]? = some (some v) ∧ Rep K F v d
  own : ∀ (i : Nat) (d : D), S.s[i]? = some (.o d) → ∃ p, σ[i]? = some (some (.ref p)) ∧ OwAt K F H p d ∧ F p = none ∧ S.h p = none ∧ (E.H p = none ∨ E.ow p)
  inj : ∀ (i j : Nat) (d e : D) (p : Addr), S.s[i]? = some (.o d) → S.s[j]? = some (.o e) → σ[i]? = some (some (.ref p)) → σ[j]? = some (some (.ref p)) → i = j

/-- a fresh container that no name owns -/
structure Fresh (K : PySem.W.Frag) (E : En) (F H : Hp) (σ : L2.St) (S : Sg) (p : Addr) (d : D) : Prop where
  at_ : OwAt K F H p d
  nF : F p = none
  nh : S.h p = none
  nE : E.H p = none
  no : ∀ (i : Nat) (e : D), S.s[i]? = some (.o e) → σ[i]? ≠ some (some (.ref p))

section
variable {K : PySem.W.Frag} {E : En} {F F' H H' : Hp} {σ : L2.St} {S : Sg} {p : Addr} {o : HO}
theorem Gr.noF (g : Gr K E F H S.h) (hp : H p = none) : F p = none := by
  cases e : F p with
  | none => rfl
  | some x => rw [g.ext _ _ e] at hp; cases hp
theorem Gr.free (g : Gr K E F H S.h) (hp : H p = none) : E.H p = none := by
  cases e : E.H p with
  | none => rfl
  | some x => exact absurd hp (g.gP p (by rw [e]; simp))
theorem Gr.noob (g : Gr K E F H S.h) (hp : H p = none) : S.h p = none := by
  cases e : S.h p with
  | none => rfl
  | some x => exact absurd hp (g.obs _ _ e).1.there
/-- a new frozen object -/
theorem Rel.fz (R : Rel K E F H σ S) (hp : H p = none) : Rel K E (upd F p o) (upd H p o) σ S := by
  have nF : F p = none := R.g.noF hp
  have nE : E.H p = none := R.g.free hp
  have x : Ext F (upd F p o) := .new nF
  have ne : ∀ b, H b ≠ none → b ≠ p := fun b hb z => hb (z ▸ hp)
  refine ⟨⟨fun b u e => ?_, R.g.gF.trans x, fun b h1 h2 h3 => ?_, fun b u h1 h2 h3 => ?_, fun b h1 => ?_, R.g.gO, fun a ob e => ?_⟩, R.len, fun i d e => ?_, fun i d e => ?_, R.inj⟩
  · by_cases hb : b = p
    · subst hb; rw [upd_same] at e ⊢; exact e
    · rw [upd_ne hb] at e ⊢; exact R.g.ext _ _ e
  · rw [upd_ne (ne b (R.g.gP b h2))]; exact R.g.gN b h1 h2 h3
  · have := R.g.gH b u h1 h2 h3
    rw [upd_ne (ne b (by rw [this]; simp))]; exact this
  · by_cases hb : b = p
    · subst hb; rw [upd_same]; simp
    · rw [upd_ne hb]; exact R.g.gP b h1
  · obtain ⟨h1, h2⟩ := R.g.obs a ob e
    have na := ne a h1.there
    exact ⟨h1.mono x (upd_ne na), by rw [upd_ne na]; exact h2⟩
  · obtain ⟨v, h1, h2⟩ := R.frz i d e
    exact ⟨v, h1, h2.mono x⟩
  · obtain ⟨q, h1, h2, h3, h4, h5⟩ := R.own i d e
    have nq := ne q h2.there
    exact ⟨q, h1, h2.mono x (upd_ne nq), by rw [upd_ne nq]; exact h3, h4, h5⟩
/-- a new container that nobody owns -/
theorem Rel.fresh (R : Rel K E F H σ S) (hp : H p = none) : Rel K E F (upd H p o) σ S ∧ F p = none ∧ S.h p = none ∧ E.H p = none ∧ ∀ (i : Nat) (e : D), S.s[i]? = some (.o e) → σ[i]? ≠ some (some (.ref p)) := by
  have nF : F p = none := R.g.noF hp
  have nE : E.H p = none := R.g.free hp
  have ne : ∀ b, H b ≠ none → b ≠ p := fun b hb z => hb (z ▸ hp)
  refine ⟨⟨⟨fun b u e => ?_, R.g.gF, R.g.gN, fun b u h1 h2 h3 => ?_, fun b h1 => ?_, R.g.gO, fun a ob e => ?_⟩, R.len, R.frz, fun i d e => ?_, R.inj⟩, nF, R.g.noob hp, nE, fun i e h1 h2 => ?_⟩
  · have := R.g.ext _ _ e
    rw [upd_ne (ne b (by rw [this]; simp))]; exact this
  · have := R.g.gH b u h1 h2 h3
    rw [upd_ne (ne b (by rw [this]; simp))]; exact this
  · by_cases hb : b = p
    · subst hb; rw [upd_same]; simp
    · rw [upd_ne hb]; exact R.g.gP b h1
  · obtain ⟨h1, h2⟩ := R.g.obs a ob e
    have na := ne a h1.there
    exact ⟨h1.mono (.refl _) (upd_ne na), h2⟩
  · obtain ⟨q, h1, h2, h3, h4, h5⟩ := R.own i d e
    have nq := ne q h2.there
    exact ⟨q, h1, h2.mono (.refl _) (upd_ne nq), h3, h4, h5⟩
  · obtain ⟨q, h3, h4, _⟩ := R.own i e h1
    rw [h2] at h3
    cases h3
    exact h4.there hp
/-- a fresh container is frozen -/
theorem Rel.freezeN {d : D} (R : Rel K E F H σ S) (f : Fresh K E F H σ S p d) (ho : H p = some o) : Rel K E (upd F p o) H σ S := by
  have x : Ext F (upd F p o) := .new f.nF
  refine ⟨⟨fun b u e => ?_, R.g.gF.trans x, fun b h1 h2 h3 => ?_, R.g.gH, R.g.gP, R.g.gO, fun a ob e => ?_⟩, R.len, fun i d e => ?_, fun i d e => ?_, R.inj⟩
  · by_cases hb : b = p
    · subst hb; rw [upd_same] at e; cases e; exact ho
    · rw [upd_ne hb] at e; exact R.g.ext _ _ e
  · have : b ≠ p := fun z => h2 (z ▸ f.nE)
    rw [upd_ne this]; exact R.g.gN b h1 h2 h3
  · obtain ⟨h1, h2⟩ := R.g.obs a ob e
    have na : a ≠ p := fun z => by rw [z, f.nh] at e; cases e
    exact ⟨h1.mono x rfl, by rw [upd_ne na]; exact h2⟩
  · obtain ⟨v, h1, h2⟩ := R.frz i d e
    exact ⟨v, h1, h2.mono x⟩
  · obtain ⟨q, h1, h2, h3, h4, h5⟩ := R.own i d e
    have nq : q ≠ p := fun z => f.no i d e (z ▸ h1)
    exact ⟨q, h1, h2.mono x rfl, by rw [upd_ne nq]; exact h3, h4, h5⟩
end

/-- new frozen objects, nothing else -/
structure Al (F H F' H' : Hp) : Prop where
  xF : Ext F F'
  xH : Ext H H'
  new : ∀ b, F b = none → H b ≠ none → F' b = none
  ext : Ext F' H'
section
variable {K : PySem.W.Frag} {E : En} {F F' F2 H H' H2 : Hp} {σ σ' : L2.St} {S : Sg} {p : Addr} {o : HO} {d : D} {v : V} {i : Nat}
theorem Al.refl (e : Ext F H) : Al F H F H := ⟨.refl _, .refl _, fun _ h _ => h, e⟩
theorem Al.one (e : Ext F H) (hp : H p = none) : Al F H (upd F p o) (upd H p o) := by
  have nF : F p = none := by
    cases q : F p with
    | none => rfl
    | some x => rw [e _ _ q] at hp; cases hp
  refine ⟨.new nF, .new hp, fun b h1 h2 => ?_, fun b u h => ?_⟩
  · rw [upd_ne (fun z => h2 (by rw [z]; exact hp))]; exact h1
  · by_cases hb : b = p
    · subst hb; rw [upd_same] at h ⊢; exact h
    · rw [upd_ne hb] at h ⊢; exact e _ _ h
theorem Ext.ne {F H : Hp} (e : Ext F H) {b : Addr} (h : F b ≠ none) : H b = F b := by
  cases q : F b with
  | none => exact absurd q h
  | some x => exact e _ _ q
theorem Al.trans (a : Al F H F' H') (b : Al F' H' F2 H2) : Al F H F2 H2 :=
  ⟨a.xF.trans b.xF, a.xH.trans b.xH, fun c h1 h2 => b.new c (a.new c h1 h2) (by rw [a.xH.ne h2]; exact h2), b.ext⟩
theorem Rel.al (R : Rel K E F H σ S) (a : Al F H F' H') : Rel K E F' H' σ S := by
  refine ⟨⟨a.ext, R.g.gF.trans a.xF, fun b h1 h2 h3 => a.new b (R.g.gN b h1 h2 h3) (R.g.gP b h2), fun b u h1 h2 h3 => a.xH _ _ (R.g.gH b u h1 h2 h3), fun b h1 => ?_, R.g.gO, fun q ob e => ?_⟩, R.len, fun i d e => ?_, fun i d e => ?_, R.inj⟩
  · have := R.g.gP b h1
    rw [a.xH.ne this]; exact this
  · obtain ⟨h1, h2⟩ := R.g.obs q ob e
    exact ⟨h1.mono a.xF (a.xH.ne h1.there), a.new q h2 h1.there⟩
  · obtain ⟨v, h1, h2⟩ := R.frz i d e
    exact ⟨v, h1, h2.mono a.xF⟩
  · obtain ⟨q, h1, h2, h3, h4, h5⟩ := R.own i d e
    exact ⟨q, h1, h2.mono a.xF (a.xH.ne h2.there), a.new q h3 h2.there, h4, h5⟩
def Sg.st (S : Sg) (i : Nat) (x : Sl) : Sg := ⟨S.s.set i x, S.h⟩
theorem ix_lt {α : Type} {l : List α} {i : Nat} {x : α} (h : l[i]? = some x) : i < l.length := (List.getElem?_eq_some_iff.mp h).1
theorem set_get {α : Type} {l : List α} {i j : Nat} {x y : α} (h : (l.set i x)[j]? = some y) : (j = i ∧ x = y ∧ i < l.length) ∨ (j ≠ i ∧ l[j]? = some y) := by
  by_cases e : j = i
  · subst e
    have hl : j < l.length := by simpa using ix_lt h
    rw [List.getElem?_set_self hl] at h
    exact .inl ⟨rfl, Option.some.inj h, hl⟩
  · rw [List.getElem?_set_ne (Ne.symm e)] at h
    exact .inr ⟨e, h⟩
/-- a name gets a frozen value -/
theorem Rel.set (R : Rel K E F H σ S) (r : Rep K F v d) : Rel K E F H (σ.set i (some v)) (S.st i (.f d)) := by
  refine ⟨R.g, by show (S.s.set i _).length = _; rw [List.length_set, List.length_set]; exact R.len, fun j e h => ?_, fun j e h => ?_, fun j l e e' p h1 h2 h3 h4 => ?_⟩
  · rcases set_get h with ⟨rfl, h, hl⟩ | ⟨n, h⟩
    · cases h
      exact ⟨v, List.getElem?_set_self (R.len ▸ hl), r⟩
    · obtain ⟨u, h1, h2⟩ := R.frz j e h
      exact ⟨u, by rw [List.getElem?_set_ne (Ne.symm n)]; exact h1, h2⟩
  · rcases set_get h with ⟨rfl, h, hl⟩ | ⟨n, h⟩
    · cases h
    · obtain ⟨u, h1, h2⟩ := R.own j e h
      exact ⟨u, by rw [List.getElem?_set_ne (Ne.symm n)]; exact h1, h2⟩
  · rcases set_get h1 with ⟨_, h, _⟩ | ⟨n1, g1⟩
    · cases h
    rcases set_get h2 with ⟨_, h, _⟩ | ⟨n2, g2⟩
    · cases h
    rw [List.getElem?_set_ne (Ne.symm n1)] at h3
    rw [List.getElem?_set_ne (Ne.symm n2)] at h4
    exact R.inj j l e e' p g1 g2 h3 h4
/-- a name gets a fresh container -/
theorem Rel.setO (R : Rel K E F H σ S) (f : Fresh K E F H σ S p d) : Rel K E F H (σ.set i (some (.ref p))) (S.st i (.o d)) := by
  refine ⟨R.g, by show (S.s.set i _).length = _; rw [List.length_set, List.length_set]; exact R.len, fun j e h => ?_, fun j e h => ?_, fun j l e e' q h1 h2 h3 h4 => ?_⟩
  · rcases set_get h with ⟨rfl, h, hl⟩ | ⟨n, h⟩
    · cases h
    · obtain ⟨u, h1, h2⟩ := R.frz j e h
      exact ⟨u, by rw [List.getElem?_set_ne (Ne.symm n)]; exact h1, h2⟩
  · rcases set_get h with ⟨rfl, h, hl⟩ | ⟨n, h⟩
    · cases h
      exact ⟨p, List.getElem?_set_self (R.len ▸ hl), f.at_, f.nF, f.nh, .inl f.nE⟩
    · obtain ⟨u, h1, h2⟩ := R.own j e h
      exact ⟨u, by rw [List.getElem?_set_ne (Ne.symm n)]; exact h1, h2⟩
  · rcases set_get h1 with ⟨e1, h, l1⟩ | ⟨n1, g1⟩
    · rcases set_get h2 with ⟨e2, h', _⟩ | ⟨n2, g2⟩
      · exact e1.trans e2.symm
      · subst e1
        rw [List.getElem?_set_self (R.len ▸ l1)] at h3
        rw [List.getElem?_set_ne (Ne.symm n2)] at h4
        cases h3
        exact absurd h4 (f.no l e' g2)
    · rw [List.getElem?_set_ne (Ne.symm n1)] at h3
      rcases set_get h2 with ⟨e2, h', l2⟩ | ⟨n2, g2⟩
      · subst e2
        rw [List.getElem?_set_self (R.len ▸ l2)] at h4
        cases h4
        exact absurd h3 (f.no j e g1)
      · rw [List.getElem?_set_ne (Ne.symm n2)] at h4
        exact R.inj j l e e' q g1 g2 h3 h4
/-- a name's own container is frozen -/
theorem Rel.freeze (R : Rel K E F H σ S) (hi : S.s[i]? = some (.o d)) : ∃ p F', σ[i]? = some (some (.ref p)) ∧ Rep K F' (.ref p) d ∧ Ext F F' ∧ Rel K E F' H σ (S.st i (.f d)) := by
  obtain ⟨p, h1, h2, h3, h4, h5⟩ := R.own i d hi
  obtain ⟨o, ho⟩ := Option.ne_none_iff_exists'.mp h2.there
  have x : Ext F (upd F p o) := .new h3
  have rp := h2.rep ho h3
  refine ⟨p, upd F p o, h1, rp, x, ⟨⟨fun b u e => ?_, R.g.gF.trans x, fun b q1 q2 q3 => ?_, R.g.gH, R.g.gP, R.g.gO, fun a ob e => ?_⟩, by show (S.s.set i _).length = _; rw [List.length_set]; exact R.len, fun j e h => ?_, fun j e h => ?_, fun j l e e' q q1 q2 q3 q4 => ?_⟩⟩
  · by_cases hb : b = p
    · subst hb; rw [upd_same] at e; cases e; exact ho
    · rw [upd_ne hb] at e; exact R.g.ext _ _ e
  · have : b ≠ p := fun z => by
      subst z
      rcases h5 with h5 | h5
      · exact q2 h5
      · exact q3 h5
    rw [upd_ne this]; exact R.g.gN b q1 q2 q3
  · obtain ⟨q1, q2⟩ := R.g.obs a ob e
    have na : a ≠ p := fun z => by have e' : S.h a = some ob := e; rw [z, h4] at e'; cases e'
    exact ⟨q1.mono x rfl, by rw [upd_ne na]; exact q2⟩
  · rcases set_get h with ⟨rfl, h, hl⟩ | ⟨n, h⟩
    · cases h
      exact ⟨_, h1, rp⟩
    · obtain ⟨u, q1, q2⟩ := R.frz j e h
      exact ⟨u, q1, q2.mono x⟩
  · rcases set_get h with ⟨rfl, h, hl⟩ | ⟨n, h⟩
    · cases h
    · obtain ⟨u, q1, q2, q3, q4, q5⟩ := R.own j e h
      have nu : u ≠ p := fun z => n (R.inj j i e d p h hi (z ▸ q1) h1)
      exact ⟨u, q1, q2.mono x rfl, by rw [upd_ne nu]; exact q3, q4, q5⟩
  · rcases set_get q1 with ⟨_, h, _⟩ | ⟨n1, g1⟩
    · cases h
    rcases set_get q2 with ⟨_, h, _⟩ | ⟨n2, g2⟩
    · cases h
    exact R.inj j l e e' q g1 g2 q3 q4
/-- a name's own container changes -/
theorem Rel.mut {e : D} (R : Rel K E F H σ S) (hi : S.s[i]? = some (.o d)) (hp : σ[i]? = some (some (.ref p))) (ha : OwAt K F (upd H p o) p e) : Rel K E F (upd H p o) σ (S.st i (.o e)) := by
  obtain ⟨p', h1, h2, h3, h4, h5⟩ := R.own i d hi
  rw [hp] at h1
  cases h1
  have ne : ∀ b, F b ≠ none → b ≠ p := fun b hb z => hb (z ▸ h3)
  refine ⟨⟨fun b u q => ?_, R.g.gF, R.g.gN, fun b u q1 q2 q3 => ?_, fun b q => ?_, R.g.gO, fun a ob q => ?_⟩, by show (S.s.set i _).length = _; rw [List.length_set]; exact R.len, fun j e' h => ?_, fun j e' h => ?_, fun j l x y q q1 q2 q3 q4 => ?_⟩
  · rw [upd_ne (ne b (by rw [q]; simp))]; exact R.g.ext _ _ q
  · have : b ≠ p := fun z => by
      subst z
      rcases h5 with h5 | h5
      · rw [h5] at q1; cases q1
      · exact q3 h5
    rw [upd_ne this]; exact R.g.gH b u q1 q2 q3
  · by_cases hb : b = p
    · subst hb; rw [upd_same]; simp
    · rw [upd_ne hb]; exact R.g.gP b q
  · obtain ⟨q1, q2⟩ := R.g.obs a ob q
    have na : a ≠ p := fun z => by have e' : S.h a = some ob := q; rw [z, h4] at e'; cases e'
    exact ⟨q1.mono (.refl _) (upd_ne na), q2⟩
  · rcases set_get h with ⟨rfl, h, hl⟩ | ⟨n, h⟩
    · cases h
    · exact R.frz j e' h
  · rcases set_get h with ⟨rfl, h, hl⟩ | ⟨n, h⟩
    · cases h
      exact ⟨p, hp, ha, h3, h4, h5⟩
    · obtain ⟨u, q1, q2, q3, q4, q5⟩ := R.own j e' h
      have nu : u ≠ p := fun z => n (R.inj j i e' d p h hi (z ▸ q1) hp)
      exact ⟨u, q1, q2.mono (.refl _) (upd_ne nu), q3, q4, q5⟩
  · have get : ∀ (j : Nat) (x : D), (S.s.set i (.o e))[j]? = some (.o x) → ∃ x', S.s[j]? = some (.o x') := fun j x h => by
      rcases set_get h with ⟨rfl, _, _⟩ | ⟨_, h⟩
      · exact ⟨d, hi⟩
      · exact ⟨x, h⟩
    obtain ⟨x', z1⟩ := get j x q1
    obtain ⟨y', z2⟩ := get l y q2
    exact R.inj j l x' y' q z1 z2 q3 q4
def Sg.ob (S : Sg) (a : Addr) (o : Ob) : Sg := ⟨S.s, S.h.put a o⟩
/-- a known object changes -/
theorem Rel.obput {u : Ob} {a : Addr} (R : Rel K E F H σ S) (hu : S.h a ≠ none) (ha : ObAt K F (upd H a o) a u) : Rel K E F (upd H a o) σ (S.ob a u) := by
  obtain ⟨w, hw⟩ := Option.ne_none_iff_exists'.mp hu
  obtain ⟨h1, h2⟩ := R.g.obs a w hw
  have ne : ∀ b, F b ≠ none → b ≠ a := fun b hb z => hb (z ▸ h2)
  refine ⟨⟨fun b u q => ?_, R.g.gF, R.g.gN, fun b u q1 q2 q3 => ?_, fun b q => ?_, fun b q => ?_, fun b ob q => ?_⟩, R.len, R.frz, fun j e' h => ?_, R.inj⟩
  · rw [upd_ne (ne b (by rw [q]; simp))]; exact R.g.ext _ _ q
  · have : b ≠ a := fun z => by
      subst z
      rcases R.g.gO b hu with h | h
      · exact h q2
      · rw [h] at q1; cases q1
    rw [upd_ne this]; exact R.g.gH b u q1 q2 q3
  · by_cases hb : b = a
    · subst hb; rw [upd_same]; simp
    · rw [upd_ne hb]; exact R.g.gP b q
  · by_cases hb : b = a
    · subst hb; exact R.g.gO b hu
    · have q' : S.h.put a u b ≠ none := q
      rw [Oh.put_ne hb] at q'; exact R.g.gO b q'
  · by_cases hb : b = a
    · subst hb
      have q' : S.h.put b u b = some ob := q
      rw [Oh.put_same] at q'; cases q'
      exact ⟨ha, h2⟩
    · have q' : S.h.put a u b = some ob := q
      rw [Oh.put_ne hb] at q'
      obtain ⟨q1, q2⟩ := R.g.obs b ob q'
      exact ⟨q1.mono (.refl _) (upd_ne hb), q2⟩
  · obtain ⟨q, q1, q2, q3, q4, q5⟩ := R.own j e' h
    have nq : q ≠ a := fun z => hu (z ▸ q4)
    exact ⟨q, q1, q2.mono (.refl _) (upd_ne nq), q3, by show S.h.put a u q = none; rw [Oh.put_ne nq]; exact q4, q5⟩
/-- a fresh container becomes a known object -/
theorem Rel.obnew {u : Ob} (R : Rel K E F H σ S) (f : Fresh K E F H σ S p d) (ha : ObAt K F H p u) : Rel K E F H σ (S.ob p u) := by
  refine ⟨⟨R.g.ext, R.g.gF, R.g.gN, R.g.gH, R.g.gP, fun b q => ?_, fun b ob q => ?_⟩, R.len, R.frz, fun j e' h => ?_, R.inj⟩
  · by_cases hb : b = p
    · subst hb; exact .inr f.nE
    · have q' : S.h.put p u b ≠ none := q
      rw [Oh.put_ne hb] at q'; exact R.g.gO b q'
  · have q' : S.h.put p u b = some ob := q
    by_cases hb : b = p
    · subst hb
      rw [Oh.put_same] at q'; cases q'
      exact ⟨ha, f.nF⟩
    · rw [Oh.put_ne hb] at q'
      exact R.g.obs b ob q'
  · obtain ⟨q, q1, q2, q3, q4, q5⟩ := R.own j e' h
    have nq : q ≠ p := fun z => f.no j e' h (z ▸ q1)
    exact ⟨q, q1, q2, q3, by show S.h.put p u q = none; rw [Oh.put_ne nq]; exact q4, q5⟩
/-- what the names own, as the entry of a part -/
def owns (σ : L2.St) (S : Sg) : Addr → Prop := fun p => ∃ (i : Nat) (d : D), S.s[i]? = some (.o d) ∧ σ[i]? = some (some (.ref p))
theorem Rel.ownE (R : Rel K E F H σ S) {p : Addr} (h : owns σ S p) : E.H p = none ∨ E.ow p := by
  obtain ⟨i, d, h1, h2⟩ := h
  obtain ⟨q, h3, _, _, _, h5⟩ := R.own i d h1
  rw [h2] at h3; cases h3
  exact h5
theorem Gr.then {h h2 : Oh} {ow : Addr → Prop} (g : Gr K E F H h) (ho : ∀ p, ow p → E.H p = none ∨ E.ow p) (g2 : Gr K ⟨F, H, h, ow⟩ F2 H2 h2) : Gr K E F2 H2 h2 := by
  have now : ∀ b, E.H b ≠ none → ¬ E.ow b → ¬ ow b := fun b h1 h2 h3 => (ho b h3).elim h1 h2
  have nh : ∀ b, E.H b ≠ none → E.h b = none → h b = none := fun b h1 h2 => by
    cases q : h b with
    | none => rfl
    | some x => exact ((g.gO b (by rw [q]; simp)).elim (fun z => z h2) h1).elim
  refine ⟨g2.ext, g.gF.trans g2.gF, fun b h1 h2 h3 => g2.gN b (g.gN b h1 h2 h3) (g.gP b h2) (now b h2 h3), fun b o h1 h2 h3 => ?_, fun b h1 => g2.gP b (g.gP b h1), fun a h1 => ?_, g2.obs⟩
  · have hb : E.H b ≠ none := by rw [h1]; simp
    exact g2.gH b o (g.gH b o h1 h2 h3) (nh b hb h2) (now b hb h3)
  · rcases g2.gO a h1 with q | q
    · exact g.gO a q
    · refine .inr ?_
      cases z : E.H a with
      | none => rfl
      | some x => exact absurd q (g.gP a (by rw [z]; simp))
/-- the same state, with itself as the entry -/
theorem Rel.enter (R : Rel K E F H σ S) : Rel K ⟨F, H, S.h, owns σ S⟩ F H σ S :=
  ⟨⟨R.g.ext, .refl _, fun _ h _ _ => h, fun _ _ h _ _ => h, fun _ h => h, fun _ h => .inl h, R.g.obs⟩, R.len, R.frz,
    fun i d h => let ⟨p, h1, h2, h3, h4, _⟩ := R.own i d h; ⟨p, h1, h2, h3, h4, .inr ⟨i, d, h, h1⟩⟩, R.inj⟩
end
end VL

set_option Elab.async false
set_option linter.all false
set_option maxRecDepth 100000
set_option maxHeartbeats 4000000
/-! VL2: readings over plain data: expressions, tests, arguments, iterables, targets, statements, defs. -/
namespace VL
open PySem PySem.Spec L2

abbrev WE := Sg → (D → Sg → Prop) → Prop
abbrev WT := Sg → (Bool → Sg → Prop) → Prop
abbrev WA := Sg → (List D → Sg → Prop) → Prop
abbrev WG := D → Sg → (Sg → Prop) → Prop
structure We where
  nx : Sg → Prop
  rt : D → Sg → Prop
  bk : Sg → Prop := fun _ => False
  ct : Sg → Prop := fun _ => False
abbrev WS := We → Sg → Prop
/-- an exception: the address of its class, its fields; the objects behind it -/
abbrev XC := Addr → List (Str × D) → Oh → Prop
abbrev Spc := List D → Oh → (D → Oh → Prop) → XC → Prop

/-- a test: two ways -/
@[irreducible] def Br (b : Bool) (p q : Prop) : Prop := if b = true then p else q
theorem br_t {p q : Prop} (h : Br true p q) : p := by unfold Br at h; exact h
theorem br_f {p q : Prop} (h : Br false p q) : q := by unfold Br at h; exact h
theorem br {b : Bool} {p q : Prop} (h1 : b = true → p) (h2 : b = false → q) : Br b p q := by
  unfold Br
  cases b with
  | true => exact h1 rfl
  | false => exact h2 rfl
theorem brT {b : Bool} {p q : Prop} (e : b = true) (h : p) : Br b p q := by subst e; unfold Br; exact h
theorem brF {b : Bool} {p q : Prop} (e : b = false) (h : q) : Br b p q := by subst e; unfold Br; exact h

section
variable (K : PySem.W.Frag) (E : En)
def LE (w : WE) : TE := fun σ H Q => ∃ S F R, Rel K E F H σ S ∧ w S R ∧ ∀ d S' v F' H', R d S' → Rep K F' v d → Rel K E F' H' σ S' → Ext F F' → Q v H'
/-- .. to a fresh container -/
def LN (w : WE) : TE := fun σ H Q => ∃ S F R, Rel K E F H σ S ∧ w S R ∧ ∀ d S' p F' H', R d S' → Fresh K E F' H' σ S' p d → Rel K E F' H' σ S' → Ext F F' → Q (.ref p) H'
def LT (w : WT) : TT := fun σ H Q => ∃ S F R, Rel K E F H σ S ∧ w S R ∧ ∀ b S' F' H', R b S' → Rel K E F' H' σ S' → Ext F F' → Q b H'
def LA (n : Nat) (w : WA) : TA := fun σ H Q => ∃ S F R, Rel K E F H σ S ∧ w S R ∧ ∀ ds S' vs F' H', R ds S' → ds.length = n → Reps K F' vs ds → Rel K E F' H' σ S' → Ext F F' → Q vs H'
def LG (g : WG) : TG := fun v σ H Q => ∃ S F d R, Rel K E F H σ S ∧ Rep K F v d ∧ g d S R ∧ ∀ S' σ' F' H', R S' → Rel K E F' H' σ' S' → Ext F F' → Q σ' H'
/-- an iterable gives these items -/
def Feeds (J : It) (F : Hp) (ds : List D) : Prop := ∀ F' H', Ext F F' → Ext F' H' →
  (∀ i d, ds[i]? = some d → J.go i H' ∧ ∀ x H3, J.yld i H' x H3 → ∃ F3, Al F' H' F3 H3 ∧ Rep K F3 x d) ∧ ∀ i, ds.length ≤ i → J.stop i H'
def LI (w : WA) : TI := fun σ H Rr => ∃ S F R, Rel K E F H σ S ∧ w S R ∧ ∀ ds S' J F' H', R ds S' → Feeds K J F' ds → Rel K E F' H' σ S' → Ext F F' → Rr J H'
def LS (w : WS) : TS := fun D σ H => ∃ (S : Sg) (F : Hp) (R : We), Rel K E F H σ S ∧ w R S ∧
  (∀ S' σ' F' H', R.nx S' → Rel K E F' H' σ' S' → Ext F F' → D.nx σ' H') ∧ (∀ S' σ' F' H', R.bk S' → Rel K E F' H' σ' S' → Ext F F' → D.bk σ' H') ∧
  (∀ S' σ' F' H', R.ct S' → Rel K E F' H' σ' S' → Ext F F' → D.ct σ' H') ∧ (∀ d S' v σ' F' H', R.rt d S' → Rep K F' v d → Rel K E F' H' σ' S' → Ext F F' → D.rt v H')
end

def DE (X : Cx) (e : Expr) (w : WE) : Prop := ∀ E, PE X e (LE X.K E w)
def DN (X : Cx) (e : Expr) (w : WE) : Prop := ∀ E, PE X e (LN X.K E w)
def DT (X : Cx) (e : Expr) (w : WT) : Prop := ∀ E, PT X e (LT X.K E w)
def DW (X : Cx) (e : Expr) (w : WT) : Prop := ∀ E, PW X e (LT X.K E w)
def DA (X : Cx) (es : List Expr) (n : Nat) (w : WA) : Prop := ∀ E, PA X es (LA X.K E n w)
def DG (X : Cx) (e : Expr) (w : WG) : Prop := ∀ E, PG X e (LG X.K E w)
def DI (X : Cx) (tg e : Expr) (w : WA) : Prop := ∀ E, PI X tg e (LI X.K E w)
def DS (X : Cx) (s : Stmt) (w : WS) : Prop := ∀ E, PS X s (LS X.K E w)
def DSs (X : Cx) (s : List Stmt) (w : WS) : Prop := ∀ E, PSs X s (LS X.K E w)

/-! ### weakening -/
section
variable {X : Cx} {e : Expr} {es : List Expr} {st : Stmt} {sts : List Stmt}
theorem PE.imp {t t' : TE} (h : PE X e t) (hi : ∀ σ H Q, t' σ H Q → t σ H Q) : PE X e t' := ⟨fun pins s σ H Q I q => h.run pins s σ H Q I (hi _ _ _ q)⟩
theorem PT.imp {t t' : TT} (h : PT X e t) (hi : ∀ σ H Q, t' σ H Q → t σ H Q) : PT X e t' := ⟨fun pins s σ H Q I q => h.run pins s σ H Q I (hi _ _ _ q)⟩
theorem PW.imp {t t' : TT} (h : PW X e t) (hi : ∀ σ H Q, t' σ H Q → t σ H Q) : PW X e t' := ⟨fun wh pins s σ H Q I q => h.run wh pins s σ H Q I (hi _ _ _ q)⟩
theorem PA.imp {t t' : TA} (h : PA X es t) (hi : ∀ σ H Q, t' σ H Q → t σ H Q) : PA X es t' := ⟨fun pos pins s σ H Q I q => h.run pos pins s σ H Q I (hi _ _ _ q)⟩
theorem PG.imp {t t' : TG} (h : PG X e t) (hi : ∀ v σ H Q, t' v σ H Q → t v σ H Q) : PG X e t' := ⟨fun pins s σ H v u Q I r q => h.run pins s σ H v u Q I r (hi _ _ _ _ q)⟩
theorem PI.imp {tg : Expr} {t t' : TI} (h : PI X tg e t) (hi : ∀ σ H Q, t' σ H Q → t σ H Q) : PI X tg e t' := ⟨fun pins s σ H Q I q => h.run pins s σ H Q I (hi _ _ _ q)⟩
theorem PS.imp {t t' : TS} (h : PS X st t) (hi : ∀ D σ H, t' D σ H → t D σ H) : PS X st t' := ⟨fun pins s σ H D I q => h.run pins s σ H D I (hi _ _ _ q)⟩
theorem PSs.imp {t t' : TS} (h : PSs X sts t) (hi : ∀ D σ H, t' D σ H → t D σ H) : PSs X sts t' := ⟨fun pins s σ H D I q => h.run pins s σ H D I (hi _ _ _ q)⟩
theorem OpR.any {f : Value → Value → Sem Value} {r : R2} (h : ∀ x y H Q, r x y H Q → ∃ r', OpR X f r' ∧ r' x y H Q) : OpR X f r := fun pins s σ H x y v u Q I rx ry q =>
  let ⟨_, ho, q'⟩ := h x y H Q q
  ho pins s σ H x y v u Q I rx ry q'
theorem CallR.any {f : Value} {r : List V → Hp → VK → Prop} (h : ∀ xs H Q, r xs H Q → ∃ r', CallR X f r' ∧ r' xs H Q) : CallR X f r := fun pins s σ H xs us Q I rx q =>
  let ⟨_, ho, q'⟩ := h xs H Q q
  ho pins s σ H xs us Q I rx q'
theorem IxR.any {r : R2} (h : ∀ x y H Q, r x y H Q → ∃ r', IxR X r' ∧ r' x y H Q) : IxR X r := fun a b pins s σ H x y v u Q I rx ry q e =>
  let ⟨_, ho, q'⟩ := h x y H Q q
  ho a b pins s σ H x y v u Q I rx ry q' e
theorem MtR.any {id : String} {r : V → List V → Hp → VK → Prop} (h : ∀ x xs H Q, r x xs H Q → ∃ r', MtR X id r' ∧ r' x xs H Q) : MtR X id r := fun pins s σ H x xs v us Q I rx rs q =>
  let ⟨_, ho, q'⟩ := h x xs H Q q
  ho pins s σ H x xs v us Q I rx rs q'
theorem UnR.any {f : Value → Sem Value} {r : V → Hp → VK → Prop} (h : ∀ x H Q, r x H Q → ∃ r', UnR X f r' ∧ r' x H Q) : UnR X f r := fun pins s σ H x v Q I rx q =>
  let ⟨_, ho, q'⟩ := h x H Q q
  ho pins s σ H x v Q I rx q'
end

/-! ### names, constants, operators -/
def wVar (i : Nat) : WE := fun S R => match S.s[i]? with
  | some (.f d) => R d S
  | some (.o d) => R d (S.st i (.f d))
  | _ => False
def wC (d : D) : WE := fun S R => R d S
/-- a two-place operation on data: what it asks, what it gives -/
abbrev O2 := D → D → (D → Prop) → Prop
abbrev O1 := D → (D → Prop) → Prop
def wOp (g : O2) (wa wb : WE) : WE := fun S R => wa S fun x S1 => wb S1 fun y S2 => g x y fun z => R z S2
def wUn (g : O1) (wa : WE) : WE := fun S R => wa S fun x S1 => g x fun z => R z S1
def rV (K : PySem.W.Frag) (g : O2) : R2 := fun x y H Q => ∃ F d e R, Ext F H ∧ Rep K F x d ∧ Rep K F y e ∧ g d e R ∧ ∀ z v F' H', R z → Rep K F' v z → Al F H F' H' → Q v H'
def rV1 (K : PySem.W.Frag) (g : O1) : V → Hp → VK → Prop := fun x H Q => ∃ F d R, Ext F H ∧ Rep K F x d ∧ g d R ∧ ∀ z v F' H', R z → Rep K F' v z → Al F H F' H' → Q v H'
abbrev OpV (X : Cx) (f : Value → Value → Sem Value) (g : O2) : Prop := OpR X f (rV X.K g)
abbrev UnV (X : Cx) (f : Value → Sem Value) (g : O1) : Prop := UnR X f (rV1 X.K g)
section
variable {X : Cx} {a b c : Expr} {wa wb wc : WE} {pos : Pos}
theorem de_var {x : Str} (i : Nat) (h : PE X (.Name x pos) (tVar i)) : DE X (.Name x pos) (wVar i) := fun E => PE.imp h fun σ H Q => by
  rintro ⟨S, F, R, hR, hw, k⟩
  unfold wVar at hw
  split at hw
  · rename_i d hd
    obtain ⟨v, h1, h2⟩ := hR.frz i d hd
    exact ⟨v, h1, k d S v F H hw h2 hR (.refl _)⟩
  · rename_i d hd
    obtain ⟨p, F', h1, h2, h3, h4⟩ := hR.freeze hd
    exact ⟨_, h1, k d _ _ F' H hw h2 h4 h3⟩
  · exact hw.elim
theorem de_c {v : V} {d : D} (h : PE X a (tC v)) (r : ∀ F, Rep X.K F v d) : DE X a (wC d) := fun E => PE.imp h fun σ H Q => by
  rintro ⟨S, F, R, hR, hw, k⟩
  exact k d S v F H hw (r F) hR (.refl _)
theorem de_int {i : Int} {j : Nat} : DE X (.Constant (.int i) j pos) (wC (.int i)) := de_c pe_int fun _ => .int _
theorem de_bl {i : Bool} {j : Nat} : DE X (.Constant (.bool i) j pos) (wC (.bl i)) := de_c pe_bl fun _ => .bl _
theorem de_non {j : Nat} : DE X (.Constant .none j pos) (wC .non) := de_c pe_non fun _ => .non
theorem de_str {x : Str} {j : Nat} : DE X (.Constant (.str x) j pos) (wC (.str x)) := de_c pe_str fun _ => .str _
/-- a constant of the module -/
theorem de_glob {x : Str} {v : V} {u : Value} {d : D} (hg : Gl X x) (hm : X.mg x = some u) (r : RelV v u) (rd : ∀ F, Rep X.K F v d) (hd : (x == ("__debug__" : Str)) = false := by decide) : DE X (.Name x pos) (wC d) := de_c (pe_glob hg hm r hd) rd
theorem de_op {op : Operator} {g : O2} (ho : OpV X (binaryOp op) g) (ha : DE X a wa) (hb : DE X b wb) : DE X (.BinOp a op b pos) (wOp g wa wb) := fun E => PE.imp (pe_op ho (ha E) (hb E)) fun σ H Q => by
  rintro ⟨S, F, R, hR, hw, k⟩
  refine ⟨S, F, _, hR, hw, fun x S1 v1 F1 H1 hw1 r1 hR1 x1 => ?_⟩
  refine ⟨S1, F1, _, hR1, hw1, fun y S2 v2 F2 H2 hw2 r2 hR2 x2 => ?_⟩
  exact ⟨F2, x, y, _, hR2.g.ext, r1.mono x2, r2, hw2, fun z v F' H' hz rz al => k z S2 v F' H' hz rz (hR2.al al) ((x1.trans x2).trans al.xF)⟩
theorem de_un {op : UnaryOp} {g : O1} (ho : UnV X (unaryOp op) g) (ha : DE X a wa) : DE X (.UnaryOp op a pos) (wUn g wa) := fun E => PE.imp (pe_un ho (ha E)) fun σ H Q => by
  rintro ⟨S, F, R, hR, hw, k⟩
  refine ⟨S, F, _, hR, hw, fun x S1 v1 F1 H1 hw1 r1 hR1 x1 => ?_⟩
  exact ⟨F1, x, _, hR1.g.ext, r1, hw1, fun z v F' H' hz rz al => k z S1 v F' H' hz rz (hR1.al al) (x1.trans al.xF)⟩
/-- a fresh container as a value -/
theorem de_new (ha : DN X a wa) : DE X a wa := fun E => PE.imp (ha E) fun σ H Q => by
  rintro ⟨S, F, R, hR, hw, k⟩
  refine ⟨S, F, _, hR, hw, fun d S1 p F1 H1 hw1 f hR1 x1 => ?_⟩
  obtain ⟨o, ho⟩ := Option.ne_none_iff_exists'.mp f.at_.there
  exact k d S1 _ _ H1 hw1 (f.at_.rep ho f.nF) (hR1.freezeN f ho) (x1.trans (.new f.nF))
end

/-! ### the operators -/
def opAdd : O2
  | .int i, .int j, R => R (.int (i + j))
  | .int i, .bl k, R => R (.int (i + PyProof.Rows.b2i k))
  | .str x, .str y, R => x.length + y.length ≤ sizeLine ∧ R (.str (x ++ y))
  | .tup xs, .tup ys, R => xs.length + ys.length ≤ sizeLine ∧ R (.tup (xs ++ ys))
  | .lst xs, .lst ys, R => xs.length + ys.length ≤ sizeLine ∧ R (.lst (xs ++ ys))
  | _, _, _ => False
def opI (f : Int → Int → Int) : O2
  | .int i, .int j, R => R (.int (f i j))
  | _, _, _ => False
def opIC (C : Int → Int → Prop) (f : Int → Int → Int) : O2
  | .int i, .int j, R => C i j ∧ R (.int (f i j))
  | _, _, _ => False
def opIB (f : Int → Int → Bool) : O2
  | .int i, .int j, R => R (.bl (f i j))
  | _, _, _ => False
def opAddI : O2
  | .int i, .int j, R => R (.int (i + j))
  | _, _, _ => False
def opSub : O2
  | .int i, .int j, R => R (.int (i - j))
  | _, _, _ => False
def opMul : O2
  | .int i, .int j, R => CMulX i j ∧ R (.int (i * j))
  | .lst xs, .int k, R => -(2 ^ 63) ≤ k ∧ k < 2 ^ 63 ∧ xs.length * k.toNat ≤ sizeLine ∧ R (.lst (List.replicate k.toNat xs).flatten)
  | _, _, _ => False
def opDiv : O2
  | .int i, .int j, R => CDivW i j ∧ R (.int (i / j))
  | _, _, _ => False
def opMod : O2
  | .int i, .int j, R => 0 < j ∧ R (.int (i % j))
  | _, _, _ => False
def opPow : O2
  | .int i, .int j, R => CPow i j ∧ R (.int (i ^ j.toNat))
  | _, _, _ => False
def opShl : O2
  | .int i, .int j, R => CShl i j ∧ R (.int (i * 2 ^ j.toNat))
  | _, _, _ => False
def opShr : O2
  | .int i, .int j, R => 0 ≤ j ∧ R (.int (i / 2 ^ j.toNat))
  | _, _, _ => False
def opAnd : O2
  | .int i, .int j, R => R (.int (Builtin.bitAnd i j))
  | _, _, _ => False
def opOr : O2
  | .int i, .int j, R => R (.int (Builtin.bitOr i j))
  | _, _, _ => False
def opXor : O2
  | .int i, .int j, R => R (.int (Builtin.bitXor i j))
  | _, _, _ => False
def opNeg : O1
  | .int i, R => R (.int (-i))
  | _, _ => False
def opInv : O1
  | .int i, R => R (.int (Builtin.bitNot i))
  | _, _ => False
theorem OpV.imp {X : Cx} {f : Value → Value → Sem Value} {g g' : O2} (h : OpV X f g) (hi : ∀ d e R, g' d e R → g d e R) : OpV X f g' := fun pins s σ H x y v u Q I rx ry q =>
  let ⟨F, d, e, R, hx, r1, r2, hg, k⟩ := q
  h pins s σ H x y v u Q I rx ry ⟨F, d, e, R, hx, r1, r2, hi _ _ _ hg, k⟩
/-- ints alone -/
theorem opI_V {X : Cx} {f : Value → Value → Sem Value} {g : Int → Int → Int} (h : OpR X f (rI0 fun i j => .int (g i j))) : OpV X f (opI g) := OpR.any fun x y H Q => by
  rintro ⟨F, d, e, R, hx, r1, r2, hg, k⟩
  refine ⟨_, h, ?_⟩
  cases r1 <;> cases r2 <;> try exact hg.elim
  exact ⟨_, _, rfl, rfl, k _ _ F H hg (.int _) (.refl hx)⟩
theorem opIC_V {X : Cx} {f : Value → Value → Sem Value} {C : Int → Int → Prop} {g : Int → Int → Int} (h : OpR X f (rI C fun i j => .int (g i j))) : OpV X f (opIC C g) := OpR.any fun x y H Q => by
  rintro ⟨F, d, e, R, hx, r1, r2, hg, k⟩
  refine ⟨_, h, ?_⟩
  cases r1 <;> cases r2 <;> try exact hg.elim
  exact ⟨_, _, rfl, rfl, hg.1, k _ _ F H hg.2 (.int _) (.refl hx)⟩
theorem opIB_V {X : Cx} {f : Value → Value → Sem Value} {g : Int → Int → Bool} (h : OpR X f (rI0 fun i j => .bl (g i j))) : OpV X f (opIB g) := OpR.any fun x y H Q => by
  rintro ⟨F, d, e, R, hx, r1, r2, hg, k⟩
  refine ⟨_, h, ?_⟩
  cases r1 <;> cases r2 <;> try exact hg.elim
  exact ⟨_, _, rfl, rfl, k _ _ F H hg (.bl _) (.refl hx)⟩
section
variable {X : Cx}
theorem ov_add : OpV X (binaryOp .Add) opAdd := OpR.any fun x y H Q => by
  rintro ⟨F, d, e, R, hx, r1, r2, hg, k⟩
  cases r1 with
  | int i =>
    cases r2 with
    | int j => exact ⟨_, op_add, _, _, rfl, rfl, k _ _ F H hg (.int _) (.refl hx)⟩
    | bl j => exact ⟨_, op_add_ib, _, _, rfl, rfl, k _ _ F H hg (.int _) (.refl hx)⟩
    | _ => exact hg.elim
  | str x =>
    cases r2 with
    | str y => exact ⟨_, op_add_str, _, _, rfl, rfl, hg.1, k _ _ F H hg.2 (.str _) (.refl hx)⟩
    | _ => exact hg.elim
  | tup h1 s1 =>
    cases r2 with
    | tup h2 s2 =>
      have l1 := s1.length
      have l2 := s2.length
      have s12 := s1.append s2
      have q1 := hg.1
      rename_i a1 vs1 ds1 a2 vs2 ds2
      refine ⟨_, op_catA, a1, a2, vs1, vs2, rfl, rfl, hx.sqT h1, hx.sqT h2, by omega, fun z => ?_, fun z1 z2 => ?_, fun z1 z2 p hp => ?_⟩
      · subst z
        cases s1
        exact k _ _ F H hg.2 (.tup h2 s2) (.refl hx)
      · subst z2
        exact k _ _ F H hg.2 (.tup h1 (by rw [List.append_nil] at s12; exact s12)) (.refl hx)
      · have al := Al.one (o := .tup (vs1 ++ vs2)) hx hp
        exact k _ _ _ _ hg.2 (.tup (.of upd_same) (s12.mono al.xF)) al
    | _ => exact hg.elim
  | lst h1 s1 =>
    cases r2 with
    | lst h2 s2 =>
      have l1 := s1.length
      have l2 := s2.length
      have s12 := s1.append s2
      have q1 := hg.1
      rename_i a1 vs1 ds1 a2 vs2 ds2
      refine ⟨_, op_cat, a1, a2, vs1, vs2, rfl, rfl, hx _ _ h1, hx _ _ h2, by omega, fun p hp => ?_⟩
      have al := Al.one (o := .lst (vs1 ++ vs2)) hx hp
      exact k _ _ _ _ hg.2 (.lst upd_same (s12.mono al.xF)) al
    | _ => exact hg.elim
  | _ => exact hg.elim
end

section
variable {X : Cx}
theorem ov_sub : OpV X (binaryOp .Sub) opSub := OpV.imp (opI_V op_sub) fun d e R h => by cases d <;> cases e <;> first | exact h | exact h.elim
theorem ov_mul : OpV X (binaryOp .Mult) opMul := OpR.any fun x y H Q => by
  rintro ⟨F, d, e, R, hx, r1, r2, hg, k⟩
  cases r1 with
  | int i =>
    cases r2 with
    | int j => exact ⟨_, op_mulX, _, _, rfl, rfl, hg.1, k _ _ F H hg.2 (.int _) (.refl hx)⟩
    | _ => exact hg.elim
  | lst h1 s1 =>
    cases r2 with
    | int j =>
      have l1 := s1.length
      obtain ⟨q1, q2, q3, q4⟩ := hg
      rename_i a1 vs1 ds1
      refine ⟨_, op_rep, a1, j, vs1, rfl, rfl, hx _ _ h1, q1, q2, by rw [l1]; exact q3, fun p hp => ?_⟩
      have al := Al.one (o := .lst (List.replicate j.toNat vs1).flatten) hx hp
      exact k _ _ _ _ q4 (.lst upd_same ((s1.rep _).mono al.xF)) al
    | _ => exact hg.elim
  | _ => exact hg.elim
theorem ov_div : OpV X (binaryOp .FloorDiv) opDiv := OpV.imp (opIC_V op_fdivW) fun d e R h => by cases d <;> cases e <;> first | exact h | exact h.elim
theorem ov_mod : OpV X (binaryOp .Mod) opMod := OpV.imp (opIC_V op_mod) fun d e R h => by cases d <;> cases e <;> first | exact h | exact h.elim
theorem ov_pow : OpV X (binaryOp .Pow) opPow := OpV.imp (opIC_V op_pow) fun d e R h => by cases d <;> cases e <;> first | exact h | exact h.elim
theorem ov_shl : OpV X (binaryOp .LShift) opShl := OpV.imp (opIC_V op_shlW) fun d e R h => by cases d <;> cases e <;> first | exact h | exact h.elim
theorem ov_shr : OpV X (binaryOp .RShift) opShr := OpV.imp (opIC_V op_shr) fun d e R h => by cases d <;> cases e <;> first | exact h | exact h.elim
theorem ov_and : OpV X (binaryOp .BitAnd) opAnd := OpV.imp (opI_V op_and) fun d e R h => by cases d <;> cases e <;> first | exact h | exact h.elim
theorem ov_or : OpV X (binaryOp .BitOr) opOr := OpV.imp (opI_V op_or) fun d e R h => by cases d <;> cases e <;> first | exact h | exact h.elim
theorem ov_xor : OpV X (binaryOp .BitXor) opXor := OpV.imp (opI_V op_xor) fun d e R h => by cases d <;> cases e <;> first | exact h | exact h.elim
theorem iv_add : OpV X (inplaceOp .Add) opAddI := OpV.imp (opI_V iop_add) fun d e R h => by cases d <;> cases e <;> first | exact h | exact h.elim
theorem iv_sub : OpV X (inplaceOp .Sub) opSub := OpV.imp (opI_V iop_sub) fun d e R h => by cases d <;> cases e <;> first | exact h | exact h.elim
theorem iv_and : OpV X (inplaceOp .BitAnd) opAnd := OpV.imp (opI_V iop_and) fun d e R h => by cases d <;> cases e <;> first | exact h | exact h.elim
theorem iv_or : OpV X (inplaceOp .BitOr) opOr := OpV.imp (opI_V iop_or) fun d e R h => by cases d <;> cases e <;> first | exact h | exact h.elim
theorem iv_xor : OpV X (inplaceOp .BitXor) opXor := OpV.imp (opI_V iop_xor) fun d e R h => by cases d <;> cases e <;> first | exact h | exact h.elim
theorem uv_neg : UnV X (unaryOp .USub) opNeg := UnR.any fun x H Q => by
  rintro ⟨F, d, R, hx, r1, hg, k⟩
  cases r1 with
  | int i => exact ⟨_, un_neg, _, rfl, k _ _ F H hg (.int _) (.refl hx)⟩
  | _ => exact hg.elim
theorem uv_inv : UnV X (unaryOp .Invert) opInv := UnR.any fun x H Q => by
  rintro ⟨F, d, R, hx, r1, hg, k⟩
  cases r1 with
  | int i => exact ⟨_, un_inv, _, rfl, k _ _ F H hg (.int _) (.refl hx)⟩
  | _ => exact hg.elim
end

/-! ### comparisons -/
def opEq : O2
  | .int i, .int j, R => R (.bl (i == j))
  | .str i, .str j, R => R (.bl (i == j))
  | .bl i, .bl j, R => R (.bl (i == j))
  | d, e, R => shD 8 d = true ∧ shD 8 e = true ∧ R (.bl (eqD d e))
def opNe : O2
  | .int i, .int j, R => R (.bl (!(i == j)))
  | .str i, .str j, R => R (.bl (!(i == j)))
  | .bl i, .bl j, R => R (.bl (!(i == j)))
  | d, e, R => shD 8 d = true ∧ shD 8 e = true ∧ R (.bl (!eqD d e))
def opLt : O2
  | .int i, .int j, R => R (.bl (decide (i < j)))
  | _, _, _ => False
def opLe : O2
  | .int i, .int j, R => R (.bl (decide (i ≤ j)))
  | _, _, _ => False
def opGt : O2
  | .int i, .int j, R => R (.bl (decide (j < i)))
  | _, _, _ => False
def opGe : O2
  | .int i, .int j, R => R (.bl (decide (j ≤ i)))
  | _, _, _ => False
/-- tuples of ints in order, too -/
def opLtT : O2
  | .int i, .int j, R => R (.bl (decide (i < j)))
  | .tup ds, .tup es, R => ∃ ns ms, ds = ns.map D.int ∧ es = ms.map D.int ∧ R (.bl (HT.lexLt ns ms))
  | _, _, _ => False
def opIsN : O2
  | d, .non, R => R (.bl (match d with | .non => true | _ => false))
  | _, _, _ => False
def opNotN : O2
  | d, .non, R => R (.bl (match d with | .non => false | _ => true))
  | _, _, _ => False
def flat : D → Bool
  | .non => true
  | .bl _ => true
  | .int _ => true
  | .str _ => true
  | _ => false
def inD (x : D) (ds : List D) : Bool := ds.any fun y => eqD y x
def opIn : O2
  | x, .tup ds, R => flat x = true ∧ ds.all flat = true ∧ R (.bl (inD x ds))
  | x, .lst ds, R => flat x = true ∧ ds.all flat = true ∧ R (.bl (inD x ds))
  | .str x, .str y, R => R (.bl (!(Builtin.Str.occurrences y x 0 y.length 1).isEmpty))
  | _, _, _ => False
def opNotIn : O2
  | x, .tup ds, R => flat x = true ∧ ds.all flat = true ∧ R (.bl (!inD x ds))
  | x, .lst ds, R => flat x = true ∧ ds.all flat = true ∧ R (.bl (!inD x ds))
  | .str x, .str y, R => R (.bl (!(!(Builtin.Str.occurrences y x 0 y.length 1).isEmpty)))
  | _, _, _ => False
section
variable {X : Cx} {K : PySem.W.Frag} {F H : Hp}
theorem Rep.flat {v : V} {d : D} (r : Rep K F v d) (h : flat d = true) : flatV v = true := by
  cases r <;> first | rfl | exact nomatch h
theorem Reps.flat : ∀ {vs : List V} {ds : List D}, Reps K F vs ds → ds.all VL.flat = true → vs.all flatV = true
  | _, _, .nil, _ => rfl
  | _, _, .cons r t, h => by
    rw [List.all_cons, Bool.and_eq_true] at h ⊢
    exact ⟨r.flat h.1, Reps.flat t h.2⟩
theorem Rep.eqV {v u : V} {d e : D} (r : Rep K F v d) (s : Rep K F u e) (h : VL.flat d = true) (h' : VL.flat e = true) : L2.eqV v u = eqD d e := by
  cases r <;> cases s <;> first | rfl | exact nomatch h | exact nomatch h'
theorem Rep.inV {v : V} {x : D} (r : Rep K F v x) (h : VL.flat x = true) : ∀ {vs : List V} {ds : List D}, Reps K F vs ds → ds.all VL.flat = true → L2.inV v vs = inD x ds
  | _, _, .nil, _ => rfl
  | _, _, .cons s t, h' => by
    rw [List.all_cons, Bool.and_eq_true] at h'
    show (L2.eqV _ v || L2.inV v _) = (eqD _ x || inD x _)
    rw [s.eqV r h'.1 h, Rep.inV r h t h'.2]
theorem ov_eq (hu : X.A.units + 64 < cLine) : OpV X (compareOp .Eq) opEq := OpR.any fun x y H Q => by
  rintro ⟨F, d, e, R, hx, r1, r2, hg, k⟩
  unfold opEq at hg
  split at hg
  · cases r1; cases r2
    refine ⟨_, op_eq, rfl, ?_⟩
    rw [dec_int]
    exact k _ _ F H hg (.bl _) (.refl hx)
  · cases r1; cases r2
    refine ⟨_, op_eq, rfl, ?_⟩
    rw [dec_str]
    exact k _ _ F H hg (.bl _) (.refl hx)
  · cases r1; cases r2
    refine ⟨_, op_eq, rfl, ?_⟩
    rw [dec_bl]
    exact k _ _ F H hg (.bl _) (.refl hx)
  · obtain ⟨s1, s2, q⟩ := hg
    refine ⟨_, op_eqD hu, d.pd, e.pd, r1.dp hx s1, r2.dp hx s2, shaped_sh s1 (by decide), shaped_sh s2 (by decide), ?_⟩
    rw [eqD_pd 8 d e s1 s2]
    exact k _ _ F H q (.bl _) (.refl hx)
theorem ov_ne (hu : X.A.units + 64 < cLine) : OpV X (compareOp .NotEq) opNe := OpR.any fun x y H Q => by
  rintro ⟨F, d, e, R, hx, r1, r2, hg, k⟩
  unfold opNe at hg
  split at hg
  · cases r1; cases r2
    refine ⟨_, op_ne, rfl, ?_⟩
    rw [dec_int]
    exact k _ _ F H hg (.bl _) (.refl hx)
  · cases r1; cases r2
    refine ⟨_, op_ne, rfl, ?_⟩
    rw [dec_str]
    exact k _ _ F H hg (.bl _) (.refl hx)
  · cases r1; cases r2
    refine ⟨_, op_ne, rfl, ?_⟩
    rw [dec_bl]
    exact k _ _ F H hg (.bl _) (.refl hx)
  · obtain ⟨s1, s2, q⟩ := hg
    refine ⟨_, op_neD hu, d.pd, e.pd, r1.dp hx s1, r2.dp hx s2, shaped_sh s1 (by decide), shaped_sh s2 (by decide), ?_⟩
    rw [eqD_pd 8 d e s1 s2]
    exact k _ _ F H q (.bl _) (.refl hx)
theorem ov_lt : OpV X (compareOp .Lt) opLt := OpV.imp (opIB_V op_lt) fun d e R h => by cases d <;> cases e <;> first | exact h | exact h.elim
theorem ov_le : OpV X (compareOp .LtE) opLe := OpV.imp (opIB_V op_le) fun d e R h => by cases d <;> cases e <;> first | exact h | exact h.elim
theorem ov_gt : OpV X (compareOp .Gt) opGt := OpV.imp (opIB_V op_gt) fun d e R h => by cases d <;> cases e <;> first | exact h | exact h.elim
theorem ov_ge : OpV X (compareOp .GtE) opGe := OpV.imp (opIB_V op_ge) fun d e R h => by cases d <;> cases e <;> first | exact h | exact h.elim
theorem ov_ltT (hu : X.A.units + 64 < cLine) : OpV X (compareOp .Lt) opLtT := OpR.any fun x y H Q => by
  rintro ⟨F, d, e, R, hx, r1, r2, hg, k⟩
  unfold opLtT at hg
  split at hg
  · cases r1; cases r2
    exact ⟨_, op_lt, _, _, rfl, rfl, k _ _ F H hg (.bl _) (.refl hx)⟩
  · obtain ⟨ns, ms, rfl, rfl, q⟩ := hg
    cases r1 with
    | tup h1 s1 =>
      cases r2 with
      | tup h2 s2 =>
        have e1 := s1.ints
        have e2 := s2.ints
        subst e1
        subst e2
        exact ⟨_, op_ltT (by omega), _, _, ns, ms, rfl, rfl, hx.sqT h1, hx.sqT h2, k _ _ F H q (.bl _) (.refl hx)⟩
  · exact hg.elim
theorem ov_isN : OpV X (compareOp .Is) opIsN := OpR.any fun x y H Q => by
  rintro ⟨F, d, e, R, hx, r1, r2, hg, k⟩
  refine ⟨_, op_isN, ?_⟩
  unfold opIsN at hg
  split at hg
  · cases r2
    refine ⟨rfl, ?_⟩
    cases r1 <;> exact k _ _ F H hg (.bl _) (.refl hx)
  · exact hg.elim
theorem ov_notN : OpV X (compareOp .IsNot) opNotN := OpR.any fun x y H Q => by
  rintro ⟨F, d, e, R, hx, r1, r2, hg, k⟩
  refine ⟨_, op_notN, ?_⟩
  unfold opNotN at hg
  split at hg
  · cases r2
    refine ⟨rfl, ?_⟩
    cases r1 <;> exact k _ _ F H hg (.bl _) (.refl hx)
  · exact hg.elim
theorem ov_in : OpV X (compareOp .In) opIn := OpR.any fun x y H Q => by
  rintro ⟨F, d, e, R, hx, r1, r2, hg, k⟩
  unfold opIn at hg
  split at hg
  · obtain ⟨f1, f2, q⟩ := hg
    cases r2 with
    | tup h s =>
      refine ⟨_, op_in_seq, _, _, rfl, .inr (hx.sqT h), r1.flat f1, s.flat f2, ?_⟩
      rw [if_neg (by simp), r1.inV f1 s f2]
      exact k _ _ F H q (.bl _) (.refl hx)
  · obtain ⟨f1, f2, q⟩ := hg
    cases r2 with
    | lst h s =>
      refine ⟨_, op_in_seq, _, _, rfl, .inl (.of (hx _ _ h)), r1.flat f1, s.flat f2, ?_⟩
      rw [if_neg (by simp), r1.inV f1 s f2]
      exact k _ _ F H q (.bl _) (.refl hx)
  · cases r1; cases r2
    exact ⟨_, op_in_str, _, _, rfl, rfl, k _ _ F H hg (.bl _) (.refl hx)⟩
  · exact hg.elim
theorem ov_notIn : OpV X (compareOp .NotIn) opNotIn := OpR.any fun x y H Q => by
  rintro ⟨F, d, e, R, hx, r1, r2, hg, k⟩
  unfold opNotIn at hg
  split at hg
  · obtain ⟨f1, f2, q⟩ := hg
    cases r2 with
    | tup h s =>
      refine ⟨_, op_notIn_seq, _, _, rfl, .inr (hx.sqT h), r1.flat f1, s.flat f2, ?_⟩
      rw [if_pos rfl, r1.inV f1 s f2]
      exact k _ _ F H q (.bl _) (.refl hx)
  · obtain ⟨f1, f2, q⟩ := hg
    cases r2 with
    | lst h s =>
      refine ⟨_, op_notIn_seq, _, _, rfl, .inl (.of (hx _ _ h)), r1.flat f1, s.flat f2, ?_⟩
      rw [if_pos rfl, r1.inV f1 s f2]
      exact k _ _ F H q (.bl _) (.refl hx)
  · cases r1; cases r2
    exact ⟨_, op_notIn_str, _, _, rfl, rfl, k _ _ F H hg (.bl _) (.refl hx)⟩
  · exact hg.elim
end
/-- a test of a value -/
def tru : D → (Bool → Prop) → Prop
  | .non, R => R false
  | .bl b, R => R b
  | .int i, R => R (i != 0)
  | .str x, R => x.length ≤ sizeLine ∧ R ((x.length : Int) != 0)
  | .tup ds, R => R (!ds.isEmpty)
  | .lst ds, R => R (!ds.isEmpty)
  | .dct ks _, R => R (!ks.isEmpty)
  | _, _ => False
def wB (w : WE) : WT := fun S R => w S fun d S1 => tru d fun b => R b S1
/-- a value that is a bool, as a test -/
def wBb (w : WE) : WT := fun S R => w S fun d S1 => match d with
  | .bl b => R b S1
  | _ => False
def wAnd (t u : WT) : WT := fun S R => t S fun b S1 => Br b (u S1 R) (R false S1)
def wOr (t u : WT) : WT := fun S R => t S fun b S1 => Br b (R true S1) (u S1 R)
def wNot (t : WT) : WT := fun S R => t S fun b S1 => R (!b) S1
def wIf (t : WT) (u v : WE) : WE := fun S R => t S fun b S1 => Br b (u S1 R) (v S1 R)
/-- and, or, not as values: all but the last of them bools -/
def wAndV (u v : WE) : WE := fun S R => u S fun d S1 => match d with
  | .bl b => Br b (v S1 R) (R (.bl false) S1)
  | _ => False
def wOrV (u v : WE) : WE := fun S R => u S fun d S1 => match d with
  | .bl b => Br b (R (.bl true) S1) (v S1 R)
  | _ => False
def wNotV (u : WE) : WE := fun S R => u S fun d S1 => match d with
  | .bl b => R (.bl (!b)) S1
  | _ => False
def wChain (g g' : O2) (wa wb wc : WE) : WE := fun S R => wa S fun x S1 => wb S1 fun y S2 => g x y fun z => match z with
  | .bl b => Br b (wc S2 fun w S3 => g' y w fun r => R r S3) (R (.bl false) S2)
  | _ => False
section
variable {X : Cx} {a b c : Expr} {wa wb wc : WE} {pos : Pos} {t u : WT}
theorem Rep.tru {K : PySem.W.Frag} {F H : Hp} (x : Ext F H) {v : V} {d : D} {R : Bool → Prop} (r : Rep K F v d) (h : tru d R) : ∃ k, TruV K v H k ∧ R k := by
  cases r with
  | non => exact ⟨_, rfl, h⟩
  | bl b => exact ⟨_, rfl, h⟩
  | int i => exact ⟨_, rfl, h⟩
  | str y => exact ⟨_, ⟨h.1, rfl⟩, h.2⟩
  | tup h1 s =>
    refine ⟨_, .inr (.inl ⟨_, x.sqT h1, rfl⟩), ?_⟩
    have l := s.length
    rename_i a vs ds
    have e : vs.isEmpty = ds.isEmpty := by
      cases s <;> rfl
    rw [e]
    exact h
  | lst h1 s =>
    refine ⟨_, .inl ⟨_, .of (x _ _ h1), rfl⟩, ?_⟩
    rename_i a vs ds
    have e : vs.isEmpty = ds.isEmpty := by
      cases s <;> rfl
    rw [e]
    exact h
  | dct h1 z s =>
    refine ⟨_, .inr (.inr ⟨_, x _ _ h1, rfl⟩), ?_⟩
    rename_i a kvs ks ds
    have e : kvs.isEmpty = ks.isEmpty := by
      subst z
      cases kvs <;> rfl
    rw [e]
    exact h
  | obj a => exact h.elim
  | scr h1 => exact h.elim
  | ty t => exact h.elim
theorem dt_tru (ha : DE X a wa) (he : ∀ whole, isTrue a X.env whole = (do let v ← whole; standAt a.pos; holding [v] (truthy v)) := by intro _; rfl) : DT X a (wB wa) := fun E => PT.imp (pt_truth (ha E) he) fun σ H Q => by
  rintro ⟨S, F, R, hR, hw, k⟩
  refine ⟨S, F, _, hR, hw, fun d S1 v F1 H1 hw1 r1 hR1 x1 => ?_⟩
  obtain ⟨b, h1, h2⟩ := r1.tru hR1.g.ext hw1
  exact ⟨b, h1, k b S1 F1 H1 h2 hR1 x1⟩
theorem dt_cmp {op : CmpOp} {g : O2} (ho : OpV X (compareOp op) g) (ha : DE X a wa) (hb : DE X b wb) (hm : behindInMarks op b = false) : DT X (.Compare a [op] [b] pos) (wBb (wOp g wa wb)) := fun E => PT.imp (pt_cmpR ho (ha E) (hb E) hm) fun σ H Q => by
  rintro ⟨S, F, R, hR, hw, k⟩
  refine ⟨S, F, _, hR, hw, fun x S1 v1 F1 H1 hw1 r1 hR1 x1 => ?_⟩
  refine ⟨S1, F1, _, hR1, hw1, fun y S2 v2 F2 H2 hw2 r2 hR2 x2 => ?_⟩
  refine ⟨F2, x, y, _, hR2.g.ext, r1.mono x2, r2, hw2, fun z v F' H' hz rz al => ?_⟩
  cases rz with
  | bl b => exact ⟨b, rfl, k b S2 F' H' hz (hR2.al al) ((x1.trans x2).trans al.xF)⟩
  | _ => exact hz.elim
theorem de_cmp {op : CmpOp} {g : O2} (ho : OpV X (compareOp op) g) (ha : DE X a wa) (hb : DE X b wb) (hm : behindInMarks op b = false) : DE X (.Compare a [op] [b] pos) (wOp g wa wb) := fun E => PE.imp (pe_cmpR ho (ha E) (hb E) hm) fun σ H Q => by
  rintro ⟨S, F, R, hR, hw, k⟩
  refine ⟨S, F, _, hR, hw, fun x S1 v1 F1 H1 hw1 r1 hR1 x1 => ?_⟩
  refine ⟨S1, F1, _, hR1, hw1, fun y S2 v2 F2 H2 hw2 r2 hR2 x2 => ?_⟩
  exact ⟨F2, x, y, _, hR2.g.ext, r1.mono x2, r2, hw2, fun z v F' H' hz rz al => k z S2 v F' H' hz rz (hR2.al al) ((x1.trans x2).trans al.xF)⟩
theorem de_chain {op op' : CmpOp} {g g' : O2} (ho : OpV X (compareOp op) g) (ho' : OpV X (compareOp op') g') (ha : DE X a wa) (hb : DE X b wb) (hc : DE X c wc) (hm : lastMarks [op, op'] [b, c] = false) : DE X (.Compare a [op, op'] [b, c] pos) (wChain g g' wa wb wc) := fun E => PE.imp (pe_chain ho ho' (ha E) (hb E) (hc E) hm) fun σ H Q => by
  rintro ⟨S, F, R, hR, hw, k⟩
  refine ⟨S, F, _, hR, hw, fun x S1 v1 F1 H1 hw1 r1 hR1 x1 => ?_⟩
  refine ⟨S1, F1, _, hR1, hw1, fun y S2 v2 F2 H2 hw2 r2 hR2 x2 => ?_⟩
  refine ⟨F2, x, y, _, hR2.g.ext, r1.mono x2, r2, hw2, fun z v F' H' hz rz al => ?_⟩
  cases rz with
  | bl b =>
    refine ⟨b, rfl, ?_⟩
    cases b with
    | true =>
      refine ⟨S2, F', _, hR2.al al, br_t hz, fun w S3 v3 F3 H3 hw3 r3 hR3 x3 => ?_⟩
      exact ⟨F3, y, w, _, hR3.g.ext, (r2.mono al.xF).mono x3, r3, hw3, fun q v F4 H4 hq rq al2 => k q S3 v F4 H4 hq rq (hR3.al al2) ((((x1.trans x2).trans al.xF).trans x3).trans al2.xF)⟩
    | false => exact k _ S2 _ F' H' (br_f hz) (.bl _) (hR2.al al) ((x1.trans x2).trans al.xF)
  | _ => exact hz.elim
theorem dt_chain {op op' : CmpOp} {g g' : O2} (ho : OpV X (compareOp op) g) (ho' : OpV X (compareOp op') g') (ha : DE X a wa) (hb : DE X b wb) (hc : DE X c wc) (hm : lastMarks [op, op'] [b, c] = false) : DT X (.Compare a [op, op'] [b, c] pos) (wBb (wChain g g' wa wb wc)) := fun E => PT.imp (pt_chain ho ho' (ha E) (hb E) (hc E) hm) fun σ H Q => by
  rintro ⟨S, F, R, hR, hw, k⟩
  refine ⟨S, F, _, hR, hw, fun x S1 v1 F1 H1 hw1 r1 hR1 x1 => ?_⟩
  refine ⟨S1, F1, _, hR1, hw1, fun y S2 v2 F2 H2 hw2 r2 hR2 x2 => ?_⟩
  refine ⟨F2, x, y, _, hR2.g.ext, r1.mono x2, r2, hw2, fun z v F' H' hz rz al => ?_⟩
  cases rz with
  | bl b =>
    refine ⟨b, rfl, ?_⟩
    cases b with
    | true =>
      refine ⟨S2, F', _, hR2.al al, br_t hz, fun w S3 v3 F3 H3 hw3 r3 hR3 x3 => ?_⟩
      refine ⟨F3, y, w, _, hR3.g.ext, (r2.mono al.xF).mono x3, r3, hw3, fun q v F4 H4 hq rq al2 => ?_⟩
      cases rq with
      | bl c => exact ⟨c, rfl, k c S3 F4 H4 hq (hR3.al al2) ((((x1.trans x2).trans al.xF).trans x3).trans al2.xF)⟩
      | _ => exact hq.elim
    | false => exact ⟨false, rfl, k _ S2 F' H' (br_f hz) (hR2.al al) ((x1.trans x2).trans al.xF)⟩
  | _ => exact hz.elim
theorem DW.pt (h : DW X a t) : DT X a t := fun E => (h E).pt
variable {rest : List Expr}
theorem dw_and1 (ha : DT X a t) : DW X (.BoolOp .And [a] pos) t := fun E => pw_and1 (ha E)
theorem dw_or1 (ha : DT X a t) : DW X (.BoolOp .Or [a] pos) t := fun E => pw_or1 (ha E)
theorem dw_and (ha : DT X a t) (hb : DW X (.BoolOp .And (b :: rest) pos) u) : DW X (.BoolOp .And (a :: b :: rest) pos) (wAnd t u) := fun E => PW.imp (pw_and (ha E) (hb E)) fun σ H Q => by
  rintro ⟨S, F, R, hR, hw, k⟩
  refine ⟨S, F, _, hR, hw, fun b S1 F1 H1 hw1 hR1 x1 => ?_⟩
  cases b with
  | true => exact ⟨S1, F1, R, hR1, br_t hw1, fun b S' F' H' hb hR' x' => k b S' F' H' hb hR' (x1.trans x')⟩
  | false => exact k false S1 F1 H1 (br_f hw1) hR1 x1
theorem dw_or (ha : DT X a t) (hb : DW X (.BoolOp .Or (b :: rest) pos) u) : DW X (.BoolOp .Or (a :: b :: rest) pos) (wOr t u) := fun E => PW.imp (pw_or (ha E) (hb E)) fun σ H Q => by
  rintro ⟨S, F, R, hR, hw, k⟩
  refine ⟨S, F, _, hR, hw, fun b S1 F1 H1 hw1 hR1 x1 => ?_⟩
  cases b with
  | false => exact ⟨S1, F1, R, hR1, br_f hw1, fun b S' F' H' hb hR' x' => k b S' F' H' hb hR' (x1.trans x')⟩
  | true => exact k true S1 F1 H1 (br_t hw1) hR1 x1
theorem dt_not (ha : DT X a t) : DT X (.UnaryOp .Not a pos) (wNot t) := fun E => PT.imp (pt_not (ha E)) fun σ H Q => by
  rintro ⟨S, F, R, hR, hw, k⟩
  exact ⟨S, F, _, hR, hw, fun b S1 F1 H1 hw1 hR1 x1 => k (!b) S1 F1 H1 hw1 hR1 x1⟩
theorem de_if (hc : DT X c t) (ha : DE X a wa) (hb : DE X b wb) : DE X (.IfExp c a b pos) (wIf t wa wb) := fun E => PE.imp (pe_ifExp (hc E) (ha E) (hb E)) fun σ H Q => by
  rintro ⟨S, F, R, hR, hw, k⟩
  refine ⟨S, F, _, hR, hw, fun b S1 F1 H1 hw1 hR1 x1 => ?_⟩
  cases b with
  | true => exact ⟨S1, F1, R, hR1, br_t hw1, fun d S' v F' H' hb r hR' x' => k d S' v F' H' hb r hR' (x1.trans x')⟩
  | false => exact ⟨S1, F1, R, hR1, br_f hw1, fun d S' v F' H' hb r hR' x' => k d S' v F' H' hb r hR' (x1.trans x')⟩
theorem de_one {op : BoolOp} (h : DE X a wa) : DE X (.BoolOp op [a] pos) wa := fun E => pe_one (h E)
theorem de_and (ha : DE X a wa) (hb : DE X (.BoolOp .And (b :: rest) pos) wb) : DE X (.BoolOp .And (a :: b :: rest) pos) (wAndV wa wb) := fun E => PE.imp (pe_and (ha E) (hb E)) fun σ H Q => by
  rintro ⟨S, F, R, hR, hw, k⟩
  refine ⟨S, F, _, hR, hw, fun d S1 v F1 H1 hw1 r1 hR1 x1 => ?_⟩
  cases r1 with
  | bl b =>
    refine ⟨b, rfl, ?_⟩
    cases b with
    | true => exact ⟨S1, F1, R, hR1, br_t hw1, fun d S' v F' H' hb r hR' x' => k d S' v F' H' hb r hR' (x1.trans x')⟩
    | false => exact k _ S1 _ F1 H1 (br_f hw1) (.bl _) hR1 x1
  | _ => exact hw1.elim
theorem de_or (ha : DE X a wa) (hb : DE X (.BoolOp .Or (b :: rest) pos) wb) : DE X (.BoolOp .Or (a :: b :: rest) pos) (wOrV wa wb) := fun E => PE.imp (pe_or (ha E) (hb E)) fun σ H Q => by
  rintro ⟨S, F, R, hR, hw, k⟩
  refine ⟨S, F, _, hR, hw, fun d S1 v F1 H1 hw1 r1 hR1 x1 => ?_⟩
  cases r1 with
  | bl b =>
    refine ⟨b, rfl, ?_⟩
    cases b with
    | false => exact ⟨S1, F1, R, hR1, br_f hw1, fun d S' v F' H' hb r hR' x' => k d S' v F' H' hb r hR' (x1.trans x')⟩
    | true => exact k _ S1 _ F1 H1 (br_t hw1) (.bl _) hR1 x1
  | _ => exact hw1.elim
theorem de_not (ha : DE X a wa) : DE X (.UnaryOp .Not a pos) (wNotV wa) := fun E => PE.imp (pe_not (ha E)) fun σ H Q => by
  rintro ⟨S, F, R, hR, hw, k⟩
  refine ⟨S, F, _, hR, hw, fun d S1 v F1 H1 hw1 r1 hR1 x1 => ?_⟩
  cases r1 with
  | bl b => exact ⟨b, rfl, k _ S1 _ F1 H1 hw1 (.bl _) hR1 x1⟩
  | _ => exact hw1.elim
end
end VL

set_option Elab.async false
set_option linter.all false
set_option maxRecDepth 100000
set_option maxHeartbeats 4000000
/-! VL3: arguments, displays, calls of built-ins, subscripts, iterables, targets, statements. -/
namespace VL
open PySem PySem.Spec L2
/-! ### arguments -/
def wNil : WA := fun S R => R [] S
def wCons (w : WE) (ws : WA) : WA := fun S R => w S fun d S1 => ws S1 fun ds S2 => R (d :: ds) S2
def wTup (ws : WA) : WE := fun S R => ws S fun ds S1 => R (.tup ds) S1
def wLst (ws : WA) : WE := fun S R => ws S fun ds S1 => R (.lst ds) S1
/-- a call of a built-in on data -/
abbrev OC := List D → (D → Prop) → Prop
def wCB (g : OC) (ws : WA) : WE := fun S R => ws S fun ds S1 => g ds fun d => R d S1
def rVc (K : PySem.W.Frag) (g : OC) : List V → Hp → VK → Prop := fun xs H Q => ∃ F ds R, Ext F H ∧ Reps K F xs ds ∧ g ds R ∧ ∀ z v F' H', R z → Rep K F' v z → Al F H F' H' → Q v H'
/-- .. that gives a fresh list -/
def rVn (K : PySem.W.Frag) (g : OC) : List V → Hp → VK → Prop := fun xs H Q => ∃ F ds R, Ext F H ∧ Reps K F xs ds ∧ g ds R ∧ ∀ es vs p, R (.lst es) → Reps K F vs es → H p = none → Q (.ref p) (upd H p (.lst vs))
abbrev CallV (X : Cx) (f : Value) (g : OC) : Prop := CallR X f (rVc X.K g)
abbrev CallN (X : Cx) (f : Value) (g : OC) : Prop := CallR X f (rVn X.K g)
section
variable {X : Cx} {a b e : Expr} {es : List Expr} {w wa wb : WE} {ws : WA} {n : Nat} {pos p : Pos}
theorem da_nil : DA X [] 0 wNil := fun E => PA.imp pa_nil fun σ H Q => by
  rintro ⟨S, F, R, hR, hw, k⟩
  exact k [] S [] F H hw rfl .nil hR (.refl _)
theorem da_cons (ha : DE X e w) (hs : DA X es n ws) (h : starEach (e :: es) X.env = (false, eval e X.env) :: starEach es X.env := by rfl) : DA X (e :: es) (n + 1) (wCons w ws) := fun E => PA.imp (pa_cons (ha E) (hs E) h) fun σ H Q => by
  rintro ⟨S, F, R, hR, hw, k⟩
  refine ⟨S, F, _, hR, hw, fun d S1 v F1 H1 hw1 r1 hR1 x1 => ?_⟩
  refine ⟨S1, F1, _, hR1, hw1, fun ds S2 vs F2 H2 hw2 l2 r2 hR2 x2 => ?_⟩
  exact k _ S2 _ F2 H2 hw2 (by rw [List.length_cons, l2]) (.cons (r1.mono x2) r2) hR2 (x1.trans x2)
theorem le_line {n : Nat} (h : n ≤ 1000) : n ≤ sizeLine := Nat.le_trans h (by decide)
theorem de_tup {x1} (h : DA X es n ws) (hn : n ≤ 1000 := by decide) : DE X (.Tuple es x1 pos) (wTup ws) := fun E => PE.imp (pe_tup (h E)) fun σ H Q => by
  rintro ⟨S, F, R, hR, hw, k⟩
  refine ⟨S, F, _, hR, hw, fun ds S1 vs F1 H1 hw1 l1 r1 hR1 x1 => ⟨le_line (by rw [r1.length, l1]; exact hn), fun p hp => ?_⟩⟩
  have al := Al.one (o := .tup vs) hR1.g.ext hp
  exact k _ S1 _ _ _ hw1 (.tup (.of upd_same) (r1.mono al.xF)) (hR1.al al) (x1.trans al.xF)
theorem fresh_of {K : PySem.W.Frag} {E : En} {F H : Hp} {σ : L2.St} {S : Sg} {p : Addr} {vs : List V} {ds : List D} (R : Rel K E F H σ S) (hp : H p = none) (r : Reps K F vs ds) : Fresh K E F (upd H p (.lst vs)) σ S p (.lst ds) ∧ Rel K E F (upd H p (.lst vs)) σ S :=
  let ⟨h1, h2, h3, h4, h5⟩ := R.fresh (o := .lst vs) hp
  ⟨⟨⟨vs, upd_same, r⟩, h2, h3, h4, h5⟩, h1⟩
theorem dn_lst (h : DA X es n ws) (hn : n ≤ 1000 := by decide) : DN X (.List es pos) (wLst ws) := fun E => PE.imp (pe_lst (h E)) fun σ H Q => by
  rintro ⟨S, F, R, hR, hw, k⟩
  refine ⟨S, F, _, hR, hw, fun ds S1 vs F1 H1 hw1 l1 r1 hR1 x1 => ⟨le_line (by rw [r1.length, l1]; exact hn), fun p hp => ?_⟩⟩
  obtain ⟨f, hR'⟩ := fresh_of hR1 hp r1
  exact k _ S1 p F1 _ hw1 f hR' x1
theorem de_lst (h : DA X es n ws) (hn : n ≤ 1000 := by decide) : DE X (.List es pos) (wLst ws) := de_new (dn_lst h hn)
theorem vn_vc {f : Value} {g : OC} (hc : CallN X f g) (hl : ∀ ds R, g ds R → g ds fun d => R d ∧ ∃ es, d = .lst es) : CallV X f g := CallR.any fun xs H Q => by
  rintro ⟨F, ds, R, hx, r, hg, k⟩
  refine ⟨_, hc, F, ds, _, hx, r, hl ds R hg, fun es vs p hR rs hp => ?_⟩
  have al := Al.one (o := .lst vs) hx hp
  exact k _ _ _ _ hR.1 (.lst upd_same (rs.mono al.xF)) al
theorem de_cb {id : String} {x : Str} {g : OC} (hc : CallV X (.builtin id) g) (hg : Gl X x) (hm : X.mg x = none) (hv : bootBuiltins x = some (.builtin id)) (ha : DA X (e :: es) n ws) (hn : x ≠ "__name__" := by decide) (hdb : (x == ("__debug__" : Str)) = false := by decide)
    (he : starEach (e :: es) X.env = (false, eval e X.env) :: starEach es X.env := by rfl) (hpl : (backTo pos (starEach es X.env)).any (·.1) = false := by rfl) : DE X (.Call (.Name x p) (e :: es) [] pos) (wCB g ws) := fun E => PE.imp (pe_callB hc hg hm hv (ha E) hn hdb he hpl) fun σ H Q => by
  rintro ⟨S, F, R, hR, hw, k⟩
  refine ⟨S, F, _, hR, hw, fun ds S1 vs F1 H1 hw1 l1 r1 hR1 x1 => ?_⟩
  exact ⟨F1, ds, _, hR1.g.ext, r1, hw1, fun z v F' H' hz rz al => k z S1 v F' H' hz rz (hR1.al al) (x1.trans al.xF)⟩
theorem de_cty {T : String} {x : Str} {g : OC} (hc : CallV X (.type T) g) (hg : Gl X x) (hm : X.mg x = none) (hv : bootBuiltins x = some (.type T)) (ha : DA X (e :: es) n ws) (hn : x ≠ "__name__" := by decide) (hdb : (x == ("__debug__" : Str)) = false := by decide)
    (he : starEach (e :: es) X.env = (false, eval e X.env) :: starEach es X.env := by rfl) (hpl : (backTo pos (starEach es X.env)).any (·.1) = false := by rfl) : DE X (.Call (.Name x p) (e :: es) [] pos) (wCB g ws) := fun E => PE.imp (pe_callTy hc hg hm hv (ha E) hn hdb he hpl) fun σ H Q => by
  rintro ⟨S, F, R, hR, hw, k⟩
  refine ⟨S, F, _, hR, hw, fun ds S1 vs F1 H1 hw1 l1 r1 hR1 x1 => ?_⟩
  exact ⟨F1, ds, _, hR1.g.ext, r1, hw1, fun z v F' H' hz rz al => k z S1 v F' H' hz rz (hR1.al al) (x1.trans al.xF)⟩
theorem dn_cty {T : String} {x : Str} {g : OC} (hc : CallN X (.type T) g) (hl : ∀ ds R, g ds R → g ds fun d => R d ∧ ∃ es, d = .lst es) (hg : Gl X x) (hm : X.mg x = none) (hv : bootBuiltins x = some (.type T)) (ha : DA X (e :: es) n ws) (hn : x ≠ "__name__" := by decide) (hdb : (x == ("__debug__" : Str)) = false := by decide)
    (he : starEach (e :: es) X.env = (false, eval e X.env) :: starEach es X.env := by rfl) (hpl : (backTo pos (starEach es X.env)).any (·.1) = false := by rfl) : DN X (.Call (.Name x p) (e :: es) [] pos) (wCB g ws) := fun E => PE.imp (pe_callTy hc hg hm hv (ha E) hn hdb he hpl) fun σ H Q => by
  rintro ⟨S, F, R, hR, hw, k⟩
  refine ⟨S, F, _, hR, hw, fun ds S1 vs F1 H1 hw1 l1 r1 hR1 x1 => ?_⟩
  refine ⟨F1, ds, _, hR1.g.ext, r1, hw1, fun es vs p hz rz hp => ?_⟩
  obtain ⟨f, hR'⟩ := fresh_of hR1 hp rz
  exact k _ S1 p F1 _ hz f hR' x1
theorem dn_cb {id : String} {x : Str} {g : OC} (hc : CallN X (.builtin id) g) (hg : Gl X x) (hm : X.mg x = none) (hv : bootBuiltins x = some (.builtin id)) (ha : DA X (e :: es) n ws) (hn : x ≠ "__name__" := by decide) (hdb : (x == ("__debug__" : Str)) = false := by decide)
    (he : starEach (e :: es) X.env = (false, eval e X.env) :: starEach es X.env := by rfl) (hpl : (backTo pos (starEach es X.env)).any (·.1) = false := by rfl) (hl : ∀ ds R, g ds R → g ds fun d => R d ∧ ∃ es, d = .lst es) : DN X (.Call (.Name x p) (e :: es) [] pos) (wCB g ws) := fun E => PE.imp (pe_callB hc hg hm hv (ha E) hn hdb he hpl) fun σ H Q => by
  rintro ⟨S, F, R, hR, hw, k⟩
  refine ⟨S, F, _, hR, hw, fun ds S1 vs F1 H1 hw1 l1 r1 hR1 x1 => ?_⟩
  refine ⟨F1, ds, _, hR1.g.ext, r1, hw1, fun es vs p hz rz hp => ?_⟩
  obtain ⟨f, hR'⟩ := fresh_of hR1 hp rz
  exact k _ S1 p F1 _ hz f hR' x1
end
/-! ### built-ins -/
def bLen : OC
  | [.str x], R => x.length ≤ sizeLine ∧ R (.int x.length)
  | [.tup ds], R => R (.int ds.length)
  | [.lst ds], R => R (.int ds.length)
  | _, _ => False
def bAbs : OC
  | [.int i], R => R (.int (if i < 0 then -i else i))
  | _, _ => False
def bMax : OC
  | [.int i, .int j], R => R (.int (if j > i then j else i))
  | _, _ => False
def bMin : OC
  | [.int i, .int j], R => R (.int (if j < i then j else i))
  | _, _ => False
def bInt : OC
  | [.int i], R => R (.int i)
  | [.bl k], R => R (.int (if k then 1 else 0))
  | _, _ => False
/-- sum of a list of ints -/
def bSum : OC
  | [.lst ds], R => ∃ ns : List Int, ds = ns.map D.int ∧ R (.int ns.sum)
  | _, _ => False
def bAll : OC
  | [.lst ds], R => ∃ bs : List Bool, ds = bs.map D.bl ∧ R (.bl (bs.all id))
  | _, _ => False
def bAny : OC
  | [.lst ds], R => ∃ bs : List Bool, ds = bs.map D.bl ∧ R (.bl (bs.any id))
  | _, _ => False
def bTup : OC
  | [.lst ds], R => R (.tup ds)
  | [.tup ds], R => R (.tup ds)
  | _, _ => False
def bLst : OC
  | [.lst ds], R => R (.lst ds)
  | [.tup ds], R => R (.lst ds)
  | [.scr ns], R => R (.lst (ns.map D.int))
  | _, _ => False
def isi : D → Ty → Option Bool
  | .non, _ => some false
  | .bl _, .tint => some true
  | .bl _, .tbool => some true
  | .bl _, _ => some false
  | .int _, .tint => some true
  | .int _, _ => some false
  | .str _, .tstr => some true
  | .str _, _ => some false
  | .tup _, .ttup => some true
  | .tup _, _ => some false
  | .lst _, .tlst => some true
  | .lst _, _ => some false
  | .dct _ _, .tdct => some true
  | .dct _ _, _ => some false
  | _, _ => none
def bIsi : OC
  | [d, .ty t], R => ∃ b, isi d t = some b ∧ R (.bl b)
  | _, _ => False
section
variable {X : Cx}
theorem Reps.nil_of {K : PySem.W.Frag} {F : Hp} {vs : List V} (r : Reps K F vs []) : vs = [] := by cases r; rfl
theorem Reps.one_of {K : PySem.W.Frag} {F : Hp} {vs : List V} {d : D} (r : Reps K F vs [d]) : ∃ v, vs = [v] ∧ Rep K F v d := by
  cases r with
  | cons a b => cases b; exact ⟨_, rfl, a⟩
theorem Reps.two_of {K : PySem.W.Frag} {F : Hp} {vs : List V} {d e : D} (r : Reps K F vs [d, e]) : ∃ v u, vs = [v, u] ∧ Rep K F v d ∧ Rep K F u e := by
  cases r with
  | cons a b =>
    obtain ⟨u, rfl, q⟩ := b.one_of
    exact ⟨_, _, rfl, a, q⟩
theorem cv_len : CallV X (.builtin "len") bLen := CallR.any fun xs H Q => by
  rintro ⟨F, ds, R, hx, r, hg, k⟩
  refine ⟨_, call_len, ?_⟩
  unfold bLen at hg
  split at hg
  · obtain ⟨v, rfl, q⟩ := r.one_of
    cases q
    exact ⟨_, _, rfl, ⟨hg.1, rfl⟩, k _ _ F H hg.2 (.int _) (.refl hx)⟩
  · obtain ⟨v, rfl, q⟩ := r.one_of
    cases q with
    | tup h s => exact ⟨_, _, rfl, .inr ⟨_, hx.sqT h, rfl⟩, by rw [s.length]; exact k _ _ F H hg (.int _) (.refl hx)⟩
  · obtain ⟨v, rfl, q⟩ := r.one_of
    cases q with
    | lst h s => exact ⟨_, _, rfl, .inl ⟨_, .of (hx _ _ h), rfl⟩, by rw [s.length]; exact k _ _ F H hg (.int _) (.refl hx)⟩
  · exact hg.elim
theorem cv_abs : CallV X (.builtin "abs") bAbs := CallR.any fun xs H Q => by
  rintro ⟨F, ds, R, hx, r, hg, k⟩
  refine ⟨_, call_abs, ?_⟩
  unfold bAbs at hg
  split at hg
  · obtain ⟨v, rfl, q⟩ := r.one_of
    cases q
    exact ⟨_, rfl, k _ _ F H hg (.int _) (.refl hx)⟩
  · exact hg.elim
theorem cv_max (hc : X.calm = true) : CallV X (.builtin "max") bMax := CallR.any fun xs H Q => by
  rintro ⟨F, ds, R, hx, r, hg, k⟩
  refine ⟨_, call_max2 hc, ?_⟩
  unfold bMax at hg
  split at hg
  · obtain ⟨v, u, rfl, q, q2⟩ := r.two_of
    cases q; cases q2
    exact ⟨_, _, rfl, k _ _ F H hg (.int _) (.refl hx)⟩
  · exact hg.elim
theorem cv_min (hc : X.calm = true) : CallV X (.builtin "min") bMin := CallR.any fun xs H Q => by
  rintro ⟨F, ds, R, hx, r, hg, k⟩
  refine ⟨_, call_min2 hc, ?_⟩
  unfold bMin at hg
  split at hg
  · obtain ⟨v, u, rfl, q, q2⟩ := r.two_of
    cases q; cases q2
    exact ⟨_, _, rfl, k _ _ F H hg (.int _) (.refl hx)⟩
  · exact hg.elim
theorem cv_int : CallV X (.type "int") bInt := CallR.any fun xs H Q => by
  rintro ⟨F, ds, R, hx, r, hg, k⟩
  refine ⟨_, call_int1, ?_⟩
  unfold bInt at hg
  split at hg
  · obtain ⟨v, rfl, q⟩ := r.one_of
    cases q
    exact .inl ⟨_, rfl, k _ _ F H hg (.int _) (.refl hx)⟩
  · obtain ⟨v, rfl, q⟩ := r.one_of
    cases q
    exact .inr ⟨_, rfl, k _ _ F H hg (.int _) (.refl hx)⟩
  · exact hg.elim
theorem cv_sum (hc : X.calm = true) : CallV X (.builtin "sum") bSum := CallR.any fun xs H Q => by
  rintro ⟨F, ds, R, hx, r, hg, k⟩
  refine ⟨_, cr_sum hc, ?_⟩
  unfold bSum at hg
  split at hg
  · obtain ⟨v, rfl, q⟩ := r.one_of
    obtain ⟨ns, rfl, q2⟩ := hg
    cases q with
    | lst h s =>
      have e := s.ints
      subst e
      exact ⟨_, ns, rfl, .of (hx _ _ h), k _ _ F H q2 (.int _) (.refl hx)⟩
  · exact hg.elim
theorem cv_all (hc : X.calm = true) : CallV X (.builtin "all") bAll := CallR.any fun xs H Q => by
  rintro ⟨F, ds, R, hx, r, hg, k⟩
  refine ⟨_, cr_all hc, ?_⟩
  unfold bAll at hg
  split at hg
  · obtain ⟨v, rfl, q⟩ := r.one_of
    obtain ⟨ns, rfl, q2⟩ := hg
    cases q with
    | lst h s =>
      have e := s.bools
      subst e
      exact ⟨_, ns, rfl, .of (hx _ _ h), k _ _ F H q2 (.bl _) (.refl hx)⟩
  · exact hg.elim
theorem cv_any (hc : X.calm = true) : CallV X (.builtin "any") bAny := CallR.any fun xs H Q => by
  rintro ⟨F, ds, R, hx, r, hg, k⟩
  refine ⟨_, cr_any hc, ?_⟩
  unfold bAny at hg
  split at hg
  · obtain ⟨v, rfl, q⟩ := r.one_of
    obtain ⟨ns, rfl, q2⟩ := hg
    cases q with
    | lst h s =>
      have e := s.bools
      subst e
      exact ⟨_, ns, rfl, .of (hx _ _ h), k _ _ F H q2 (.bl _) (.refl hx)⟩
  · exact hg.elim
theorem cv_tup : CallV X (.type "tuple") bTup := CallR.any fun xs H Q => by
  rintro ⟨F, ds, R, hx, r, hg, k⟩
  refine ⟨_, call_tuple_of, ?_⟩
  unfold bTup at hg
  split at hg
  · obtain ⟨v, rfl, q⟩ := r.one_of
    cases q with
    | lst h s =>
      rename_i a vs
      refine ⟨_, _, rfl, .inl ⟨.of (hx _ _ h), fun l hl => ?_⟩⟩
      have al := Al.one (o := .tup vs) hx hl
      exact k _ _ _ _ hg (.tup (.of upd_same) (s.mono al.xF)) al
  · obtain ⟨v, rfl, q⟩ := r.one_of
    cases q with
    | tup h s => exact ⟨_, _, rfl, .inr ⟨hx.sqT h, k _ _ F H hg (.tup h s) (.refl hx)⟩⟩
  · exact hg.elim
theorem cn_lst : CallN X (.type "list") bLst := CallR.any fun xs H Q => by
  rintro ⟨F, ds, R, hx, r, hg, k⟩
  refine ⟨_, call_list_of, ?_⟩
  unfold bLst at hg
  split at hg
  · obtain ⟨v, rfl, q⟩ := r.one_of
    cases q with
    | lst h s => exact ⟨_, _, rfl, .inl (.of (hx _ _ h)), fun l hl => k _ _ _ hg s hl⟩
  · obtain ⟨v, rfl, q⟩ := r.one_of
    cases q with
    | tup h s => exact ⟨_, _, rfl, .inr (hx.sqT h), fun l hl => k _ _ _ hg s hl⟩
  · obtain ⟨v, rfl, q⟩ := r.one_of
    cases q with
    | scr h => exact ⟨_, _, rfl, .inl (hx.sqL h), fun l hl => k _ _ _ hg (Reps.ofInts _) hl⟩
  · exact hg.elim
theorem bLst_l : ∀ ds R, bLst ds R → bLst ds fun d => R d ∧ ∃ es, d = .lst es := fun ds R h => by
  unfold bLst at h ⊢
  split at h
  · exact ⟨h, _, rfl⟩
  · exact ⟨h, _, rfl⟩
  · exact ⟨h, _, rfl⟩
  · exact h.elim
theorem cv_lst : CallV X (.type "list") bLst := vn_vc cn_lst bLst_l
/-- a built-in class as a value -/
theorem de_ty {x : Str} {pos : Pos} (t : Ty) (hg : Gl X x) (hm : X.mg x = none) (hv : bootBuiltins x = some (.type t.name)) (hn : x ≠ "__name__" := by decide) (hd : (x == ("__debug__" : Str)) = false := by decide) : DE X (.Name x pos) (wC (.ty t)) :=
  de_c (pe_bltn (v := .ty t.name) hg hm hv rfl hn hd) fun _ => .ty t
theorem kit_tag {K : PySem.W.Frag} {F H : Hp} (hx : Ext F H) {v : V} {d : D} {t : Ty} {b : Bool} (r : Rep K F v d) (h : isi d t = some b) : ∃ n : String, TyX K H v (.type n) ∧ kitB n t.name = some b := by
  cases r with
  | non =>
    refine ⟨"NoneType", .base .non, ?_⟩
    cases t <;> (cases h; decide +kernel)
  | bl k =>
    refine ⟨"bool", .base (.bl k), ?_⟩
    cases t <;> (cases h; decide +kernel)
  | int k =>
    refine ⟨"int", .base (.int k), ?_⟩
    cases t <;> (cases h; decide +kernel)
  | str k =>
    refine ⟨"str", .base (.str k), ?_⟩
    cases t <;> (cases h; decide +kernel)
  | tup q s =>
    refine ⟨"tuple", ?_, ?_⟩
    · rcases hx.sqT q with (q | ⟨o, q⟩) | ⟨o, its, n, q, c, _⟩
      · exact .base (.tup q)
      · exact .fTuple q
      · exact .kTuple q c
    · cases t <;> (cases h; decide +kernel)
  | lst q s =>
    refine ⟨"list", .base (.lst (hx _ _ q)), ?_⟩
    cases t <;> (cases h; decide +kernel)
  | dct q z s =>
    refine ⟨"dict", .base (.dK (hx _ _ q)), ?_⟩
    cases t <;> (cases h; decide +kernel)
  | _ => cases h
theorem cv_isi : CallV X (.builtin "isinstance") bIsi := CallR.any fun xs H Q => by
  rintro ⟨F, ds, R, hx, r, hg, k⟩
  refine ⟨_, call_isi, ?_⟩
  unfold bIsi at hg
  split at hg
  · obtain ⟨v, u, rfl, q, q2⟩ := r.two_of
    cases q2
    obtain ⟨b, hb, h⟩ := hg
    obtain ⟨n, h1, h2⟩ := kit_tag hx q hb
    exact ⟨_, _, _, _, b, rfl, .ty _, h1, kit_ty h2, k _ _ F H h (.bl _) (.refl hx)⟩
  · exact hg.elim
end
end VL

set_option Elab.async false
set_option linter.all false
set_option maxRecDepth 100000
set_option maxHeartbeats 4000000
/-! VL4: subscripts, slices, targets, iterables, statements, comprehensions. -/
namespace VL
open PySem PySem.Spec L2
/-! ### subscripts -/
def ixD (h : Oh) : O2
  | .tup ds, .int i, R => ∃ d, atI ds i = some d ∧ R d
  | .lst ds, .int i, R => ∃ d, atI ds i = some d ∧ R d
  | .str x, .int i, R => x.length ≤ sizeLine ∧ ∃ c, atI x.cps.toList i = some c ∧ R (.str ⟨#[c]⟩)
  | .obj a, .int i, R => ∃ ds d, h a = some (.ml ds) ∧ atI ds i = some d ∧ R d
  | _, _, _ => False
def wIx (wa wb : WE) : WE := fun S R => wa S fun x S1 => wb S1 fun y S2 => ixD S2.h x y fun z => R z S2
def slv : Sl → Option D
  | .f d => some d
  | .o d => some d
  | .u => none
/-- x[..] of a name that may own its list -/
def wIxO (i : Nat) (wb : WE) : WE := fun S R => (∃ e, (S.s[i]?).bind slv = some e) ∧ wb S fun y S1 => ∃ d, (S1.s[i]?).bind slv = some d ∧ ixD S1.h d y fun z => R z S1
/-- len of a name that may own its list -/
def wLenO (i : Nat) : WE := fun S R => ∃ ds, (S.s[i]?).bind slv = some (.lst ds) ∧ R (.int ds.length) S
def rVo (K : PySem.W.Frag) : R2 := fun x y H Q => ∃ F h d e R, Ext F H ∧ (∀ a ob, h a = some ob → ObAt K F H a ob) ∧ Rep K F x d ∧ Rep K F y e ∧ ixD h d e R ∧ ∀ z v, R z → Rep K F v z → Q v H
section
variable {X : Cx} {a b e : Expr} {es : List Expr} {w wa wb : WE} {ws : WA} {n : Nat} {pos p : Pos} {K : PySem.W.Frag} {F H : Hp}
theorem Reps.at {vs : List V} {ds : List D} {i : Int} {d : D} (r : Reps K F vs ds) (h : atI ds i = some d) : ∃ v, atI vs i = some v ∧ Rep K F v d := by
  unfold atI at h ⊢
  rw [r.length]
  cases e : ixN ds.length i with
  | none => rw [e] at h; cases h
  | some j =>
    rw [e] at h
    exact r.get h
theorem ix_v : IxR X (rVo X.K) := IxR.any fun x y H Q => by
  rintro ⟨F, h, d, e, R, hx, ho, r1, r2, hg, k⟩
  refine ⟨_, ix_seq, ?_⟩
  unfold ixD at hg
  split at hg
  · cases r2
    obtain ⟨d, h1, h2⟩ := hg
    cases r1 with
    | tup q s =>
      obtain ⟨v, h3, h4⟩ := s.at h1
      exact .inr (.inl ⟨_, _, _, v, rfl, rfl, hx.sqT q, h3, k _ _ h2 h4⟩)
  · cases r2
    obtain ⟨d, h1, h2⟩ := hg
    cases r1 with
    | lst q s =>
      obtain ⟨v, h3, h4⟩ := s.at h1
      exact .inl ⟨_, _, _, v, rfl, rfl, .of (hx _ _ q), h3, k _ _ h2 h4⟩
  · cases r2
    cases r1
    obtain ⟨hl, c, h1, h2⟩ := hg
    exact .inr (.inr ⟨_, _, c, rfl, rfl, hl, h1, k _ _ h2 (.str _)⟩)
  · cases r2
    obtain ⟨ds, d, h0, h1, h2⟩ := hg
    cases r1 with
    | obj =>
      obtain ⟨vs, q, s⟩ := ho _ _ h0
      obtain ⟨v, h3, h4⟩ := s.at h1
      exact .inl ⟨_, _, _, v, rfl, rfl, .of q, h3, k _ _ h2 h4⟩
  · exact hg.elim
theorem de_ix (ha : DE X a wa) (hb : DE X b wb) (hs : PlainIx b) : DE X (.Subscript a b pos) (wIx wa wb) := fun E => PE.imp (pe_ix ix_v (ha E) (hb E) hs) fun σ H Q => by
  rintro ⟨S, F, R, hR, hw, k⟩
  refine ⟨S, F, _, hR, hw, fun x S1 v1 F1 H1 hw1 r1 hR1 x1 => ?_⟩
  refine ⟨S1, F1, _, hR1, hw1, fun y S2 v2 F2 H2 hw2 r2 hR2 x2 => ?_⟩
  exact ⟨F2, S2.h, x, y, _, hR2.g.ext, fun a ob q => (hR2.g.obs a ob q).1, r1.mono x2, r2, hw2, fun z v hz rz => k z S2 v F2 H2 hz rz hR2 (x1.trans x2)⟩
theorem Rel.slot {E : En} {σ : L2.St} {S : Sg} {i : Nat} {e : D} (hR : Rel K E F H σ S) (h : (S.s[i]?).bind slv = some e) : ∃ v, σ[i]? = some (some v) ∧ ((S.s[i]? = some (.f e) ∧ Rep K F v e) ∨ (S.s[i]? = some (.o e) ∧ ∃ p, v = .ref p ∧ OwAt K F H p e)) := by
  cases q : S.s[i]? with
  | none => rw [q] at h; cases h
  | some x =>
    rw [q] at h
    cases x with
    | u => cases h
    | f d =>
      cases h
      obtain ⟨v, h1, h2⟩ := hR.frz i _ q
      exact ⟨v, h1, .inl ⟨rfl, h2⟩⟩
    | o d =>
      cases h
      obtain ⟨p, h1, h2, _⟩ := hR.own i _ q
      exact ⟨_, h1, .inr ⟨rfl, p, rfl, h2⟩⟩
theorem de_ixO {x : Str} (i : Nat) (h : PE X (.Name x p) (tVar i)) (hb : DE X b wb) (hs : PlainIx b) : DE X (.Subscript (.Name x p) b pos) (wIxO i wb) := fun E => PE.imp (pe_ix (IxR.or ix_v ix_list) h (hb E) hs) fun σ H Q => by
  rintro ⟨S, F, R, hR, ⟨⟨e, he⟩, hw⟩, k⟩
  obtain ⟨v, h1, _⟩ := hR.slot he
  refine ⟨_, h1, ?_⟩
  refine ⟨S, F, _, hR, hw, fun y S1 v1 F1 H1 hw1 r1 hR1 x1 => ?_⟩
  obtain ⟨d, g1, g2⟩ := hw1
  obtain ⟨v', h2, h3⟩ := hR1.slot g1
  rw [h1] at h2
  cases h2
  rcases h3 with ⟨_, rd⟩ | ⟨_, q, rfl, ho⟩
  · exact .inl ⟨F1, S1.h, d, y, _, hR1.g.ext, fun a ob q => (hR1.g.obs a ob q).1, rd, r1, g2, fun z v hz rz => k z S1 v F1 H1 hz rz hR1 x1⟩
  · cases d with
    | lst ds =>
      obtain ⟨vs, q, s⟩ := ho
      cases r1 with
      | int i =>
        obtain ⟨d, g3, g4⟩ := g2
        obtain ⟨v, h3, h4⟩ := s.at g3
        exact .inr ⟨_, _, _, v, rfl, rfl, .of q, h3, k d S1 v F1 H1 g4 h4 hR1 x1⟩
      | _ => exact g2.elim
    | dct => cases r1 <;> exact g2.elim
    | _ => exact ho.elim
theorem de_lenO {x y : Str} {p2 : Pos} (i : Nat) (h : PE X (.Name x p) (tVar i)) (hg : Gl X y) (hm : X.mg y = none) (hv : bootBuiltins y = some (.builtin "len")) (hn : y ≠ "__name__" := by decide) (hdb : (y == ("__debug__" : Str)) = false := by decide)
    (he : starEach [.Name x p] X.env = (false, eval (.Name x p) X.env) :: starEach [] X.env := by rfl) (hpl : (backTo pos (starEach [] X.env)).any (·.1) = false := by rfl) : DE X (.Call (.Name y p2) [.Name x p] [] pos) (wLenO i) := fun E => PE.imp (pe_callB call_len hg hm hv (pa_cons h pa_nil he) hn hdb he hpl) fun σ H Q => by
  rintro ⟨S, F, R, hR, ⟨ds, hd, hw⟩, k⟩
  obtain ⟨v, h1, h2⟩ := hR.slot hd
  have hl : ∃ a vs, v = .ref a ∧ H a = some (.lst vs) ∧ vs.length = ds.length := by
    rcases h2 with ⟨_, r⟩ | ⟨_, q, rfl, vs, q1, s⟩
    · cases r with
      | lst q s => exact ⟨_, _, rfl, hR.g.ext _ _ q, s.length⟩
    · exact ⟨_, _, rfl, q1, s.length⟩
  obtain ⟨a, vs, rfl, q, l⟩ := hl
  refine ⟨_, h1, _, _, rfl, .inl ⟨vs, .of q, rfl⟩, ?_⟩
  rw [l]
  exact k _ S _ F H hw (.int _) hR (.refl _)
end

/-! ### slices -/
def cutD {α : Type} (xs : List α) (lo hi : Option Int) : List α := (xs.drop (HT.sIx xs.length 0 lo)).take (HT.sIx xs.length xs.length hi - HT.sIx xs.length 0 lo)
abbrev WO := Sg → (Option Int → Sg → Prop) → Prop
def wNoPart : WO := fun S R => R none S
def wPart (w : WE) : WO := fun S R => w S fun d S1 => match d with
  | .int i => R (some i) S1
  | _ => False
def slD : D → Option Int → Option Int → (D → Prop) → Prop
  | .tup ds, lo, hi, R => R (.tup (cutD ds lo hi))
  | .lst ds, lo, hi, R => R (.lst (cutD ds lo hi))
  | .str x, lo, hi, R => x.length ≤ sizeLine ∧ R (.str (cutS x lo hi))
  | _, _, _, _ => False
def wSl (w : WE) (lo hi : WO) : WE := fun S R => w S fun d S1 => lo S1 fun l S2 => hi S2 fun u S3 => slD d l u fun z => R z S3
def LO (K : PySem.W.Frag) (E : En) (w : WO) : TO := fun σ H Q => ∃ S F R, Rel K E F H σ S ∧ w S R ∧ ∀ o S' F' H', R o S' → Rel K E F' H' σ S' → Ext F F' → Q o H'
def DO (X : Cx) (e : Option Expr) (w : WO) : Prop := ∀ E, PO X e (LO X.K E w)
section
variable {X : Cx} {a b e : Expr} {es : List Expr} {w wa wb : WE} {lo hi : Option Expr} {wl wh : WO} {pos p : Pos} {K : PySem.W.Frag} {F H : Hp}
theorem PO.imp {X : Cx} {e : Option Expr} {t t' : TO} (h : PO X e t) (hi : ∀ σ H Q, t' σ H Q → t σ H Q) : PO X e t' := ⟨fun pins s σ H Q I q => h.run pins s σ H Q I (hi _ _ _ q)⟩
theorem do_none : DO X none wNoPart := fun E => PO.imp po_none fun σ H Q => by
  rintro ⟨S, F, R, hR, hw, k⟩
  exact k none S F H hw hR (.refl _)
theorem do_some (h : DE X e w) : DO X (some e) (wPart w) := fun E => PO.imp (po_some (h E)) fun σ H Q => by
  rintro ⟨S, F, R, hR, hw, k⟩
  refine ⟨S, F, _, hR, hw, fun x S1 v1 F1 H1 hw1 r1 hR1 x1 => ?_⟩
  cases r1 with
  | int i => exact ⟨i, rfl, k _ S1 F1 H1 hw1 hR1 x1⟩
  | _ => exact hw1.elim
theorem Reps.cut {vs : List V} {ds : List D} (r : Reps K F vs ds) (lo hi : Option Int) : Reps K F (cutV vs lo hi) (cutD ds lo hi) := by
  unfold cutV cutD
  rw [r.length]
  exact (r.drop _).take _
theorem SlR.any {r : V → Option Int → Option Int → Hp → VK → Prop} (h : ∀ x lo hi H Q, r x lo hi H Q → ∃ r', SlR X r' ∧ r' x lo hi H Q) : SlR X r := fun pins s σ H x v vl vu lo hi sl Q I rx h1 h2 h3 q =>
  let ⟨_, ho, q'⟩ := h x lo hi H Q q
  ho pins s σ H x v vl vu lo hi sl Q I rx h1 h2 h3 q'
theorem sl_v : SlR X fun x lo hi H Q => ∃ F d R, Ext F H ∧ Rep X.K F x d ∧ slD d lo hi R ∧ ∀ z v F' H', R z → Rep X.K F' v z → Al F H F' H' → Q v H' := SlR.any fun x lo hi H Q => by
  rintro ⟨F, d, R, hx, r1, hg, k⟩
  unfold slD at hg
  split at hg
  · cases r1 with
    | tup q s =>
      rename_i a vs
      refine ⟨_, sl_tupA, a, vs, rfl, hx.sqT q, fun z => ?_, fun z p hp => ?_⟩
      · have e : cutV vs lo hi = vs := by
          unfold cutV
          rw [z.1, z.2]
          simp
        have sc := s.cut lo hi
        rw [e] at sc
        exact k _ _ F H hg (.tup q sc) (.refl hx)
      · have al := Al.one (o := .tup (cutV vs lo hi)) hx hp
        exact k _ _ _ _ hg (.tup (.of upd_same) ((s.cut lo hi).mono al.xF)) al
  · cases r1 with
    | lst q s =>
      rename_i a vs
      refine ⟨_, sl_list, a, vs, rfl, .of (hx _ _ q), fun p hp => ?_⟩
      have al := Al.one (o := .lst (cutV vs lo hi)) hx hp
      exact k _ _ _ _ hg (.lst upd_same ((s.cut lo hi).mono al.xF)) al
  · cases r1
    exact ⟨_, sl_str, _, rfl, hg.1, k _ _ F H hg.2 (.str _) (.refl hx)⟩
  · exact hg.elim
theorem de_sl {p2 : Pos} (he : DE X e w) (hl : DO X lo wl) (hu : DO X hi wh) : DE X (.Subscript e (.Slice lo hi none p2) pos) (wSl w wl wh) := fun E => PE.imp (pe_slice sl_v (he E) (hl E) (hu E)) fun σ H Q => by
  rintro ⟨S, F, R, hR, hw, k⟩
  refine ⟨S, F, _, hR, hw, fun x S1 v1 F1 H1 hw1 r1 hR1 x1 => ?_⟩
  refine ⟨S1, F1, _, hR1, hw1, fun l S2 F2 H2 hw2 hR2 x2 => ?_⟩
  refine ⟨S2, F2, _, hR2, hw2, fun u S3 F3 H3 hw3 hR3 x3 => ?_⟩
  exact ⟨F3, x, _, hR3.g.ext, (r1.mono x2).mono x3, hw3, fun z v F' H' hz rz al => k z S3 v F' H' hz rz (hR3.al al) (((x1.trans x2).trans x3).trans al.xF)⟩
end

/-! ### targets -/
def gVar (i : Nat) : WG := fun d S R => R (S.st i (.f d))
abbrev WGs := List D → Sg → (Sg → Prop) → Prop
def gsNil : WGs := fun ds S R => match ds with
  | [] => R S
  | _ => False
def gsCons (g : WG) (gs : WGs) : WGs := fun ds S R => match ds with
  | d :: r => g d S fun S1 => gs r S1 R
  | [] => False
def gTp (n : Nat) (gs : WGs) : WG := fun d S R => match d with
  | .tup ds => ds.length = n ∧ gs ds S R
  | _ => False
/-- o[i] = .., o a known list -/
def gIxM (wo wi : WE) : WG := fun d S R => wo S fun x S1 => wi S1 fun y S2 => ∃ a ds j k, x = .obj a ∧ y = .int j ∧ S2.h a = some (.ml ds) ∧ ixN ds.length j = some k ∧ R (S2.ob a (.ml (ds.set k d)))
/-- x[i] = .., x owns its list -/
def gIxO (i : Nat) (wi : WE) : WG := fun d S R => (∃ e, S.s[i]? = some (.o e)) ∧ wi S fun y S1 => ∃ ds j k, S1.s[i]? = some (.o (.lst ds)) ∧ y = .int j ∧ ixN ds.length j = some k ∧ R (S1.st i (.o (.lst (ds.set k d))))
def LGs (K : PySem.W.Frag) (E : En) (g : WGs) : TGs := fun vs σ H Q => ∃ S F ds R, Rel K E F H σ S ∧ Reps K F vs ds ∧ g ds S R ∧ ∀ S' σ' F' H', R S' → Rel K E F' H' σ' S' → Ext F F' → Q σ' H'
def DGs (X : Cx) (es : List Expr) (g : WGs) : Prop := ∀ E, PGs X es (LGs X.K E g)
section
variable {X : Cx} {a b e o i : Expr} {es : List Expr} {w wo wi : WE} {g : WG} {gs : WGs} {pos p : Pos}
theorem PGs.imp {t t' : TGs} (h : PGs X es t) (hi : ∀ v σ H Q, t' v σ H Q → t v σ H Q) : PGs X es t' := ⟨fun pins s σ H v u Q I r q => h.run pins s σ H v u Q I r (hi _ _ _ _ q)⟩
theorem dg_var {x : Str} (i : Nat) (h : PG X (.Name x pos) (gName i)) : DG X (.Name x pos) (gVar i) := fun E => PG.imp h fun v σ H Q => by
  rintro ⟨S, F, d, R, hR, r, hg, k⟩
  exact k _ _ F H hg (hR.set r) (.refl _)
theorem dgs_nil : DGs X [] gsNil := fun E => PGs.imp pgs_nil fun v σ H Q => by
  rintro ⟨S, F, d, R, hR, r, hg, k⟩
  cases r with
  | nil => exact ⟨rfl, k S σ F H hg hR (.refl _)⟩
  | cons => exact hg.elim
theorem dgs_cons (h : DG X e g) (hs : DGs X es gs) (hh : (assignEach (e :: es) X.env).map (·.2) = assign e X.env :: (assignEach es X.env).map (·.2) := by rfl) : DGs X (e :: es) (gsCons g gs) := fun E => PGs.imp (pgs_cons (h E) (hs E) hh) fun v σ H Q => by
  rintro ⟨S, F, ds, R, hR, r, hg, k⟩
  cases r with
  | nil => exact hg.elim
  | cons r1 r2 =>
    refine ⟨_, _, rfl, S, F, _, _, hR, r1, hg, fun S1 σ1 F1 H1 hg1 hR1 x1 => ?_⟩
    exact ⟨S1, F1, _, R, hR1, r2.mono x1, hg1, fun S2 σ2 F2 H2 h2 hR2 x2 => k S2 σ2 F2 H2 h2 hR2 (x1.trans x2)⟩
theorem dg_tup {k n : Nat} (hc : X.calm = true) (h : DGs X es gs) (hn : (assignEach es X.env).length = n := by rfl) (hst : (assignEach es X.env).findIdx? (·.1) = none := by rfl) : DG X (.Tuple es k pos) (gTp n gs) := fun E => PG.imp (pg_tup hc (h E) hn hst) fun v σ H Q => by
  rintro ⟨S, F, d, R, hR, r, hg, k⟩
  cases r with
  | tup q s => exact ⟨_, _, rfl, hR.g.ext.sqT q, s.length.trans hg.1, S, F, _, R, hR, s, hg.2, k⟩
  | _ => exact hg.elim
theorem dg_ixM (ho : DE X o wo) (hi : DE X i wi) (ha : ∀ v, assign (.Subscript o i pos) X.env v = (do
      let ov ← holding [v] (eval o X.env)
      let iv ← holding [v, ov] (eval i X.env)
      standAt pos
      holding [v, ov, iv] (setItem ov iv v)
      release [v, ov, iv] []) := by intro _; rfl) : DG X (.Subscript o i pos) (gIxM wo wi) := fun E => PG.imp (pg_sub (ho E) (hi E) set_list ha) fun v σ H Q => by
  rintro ⟨S, F, d, R, hR, r, hg, k⟩
  refine ⟨S, F, _, hR, hg, fun x S1 v1 F1 H1 hw1 r1 hR1 x1 => ?_⟩
  refine ⟨S1, F1, _, hR1, hw1, fun y S2 v2 F2 H2 hw2 r2 hR2 x2 => ?_⟩
  obtain ⟨a, ds, j, m, rfl, rfl, h1, h2, h3⟩ := hw2
  cases r1; cases r2
  obtain ⟨vs, q, s⟩ := (hR2.g.obs _ _ h1).1
  refine ⟨a, vs, j, m, rfl, rfl, q, by rw [s.length]; exact h2, ?_⟩
  exact k _ _ F2 _ h3 (hR2.obput (by rw [h1]; simp) ⟨_, upd_same, s.set m ((r.mono x1).mono x2)⟩) (x1.trans x2)
theorem dg_ixO {x : Str} {px : Pos} (j : Nat) (h : PE X (.Name x px) (tVar j)) (hi : DE X i wi) (ha : ∀ v, assign (.Subscript (.Name x px) i pos) X.env v = (do
      let ov ← holding [v] (eval (.Name x px) X.env)
      let iv ← holding [v, ov] (eval i X.env)
      standAt pos
      holding [v, ov, iv] (setItem ov iv v)
      release [v, ov, iv] []) := by intro _; rfl) : DG X (.Subscript (.Name x px) i pos) (gIxO j wi) := fun E => PG.imp (pg_sub h (hi E) set_list ha) fun v σ H Q => by
  rintro ⟨S, F, d, R, hR, r, ⟨⟨e, he⟩, hg⟩, k⟩
  obtain ⟨p, h1, _⟩ := hR.own j e he
  refine ⟨_, h1, S, F, _, hR, hg, fun y S1 v1 F1 H1 hw1 r1 hR1 x1 => ?_⟩
  obtain ⟨ds, z, m, g1, rfl, g2, g3⟩ := hw1
  obtain ⟨p', h2, ⟨vs, q, s⟩, _⟩ := hR1.own j _ g1
  rw [h1] at h2
  cases h2
  cases r1
  refine ⟨_, vs, z, m, rfl, rfl, q, by rw [s.length]; exact g2, ?_⟩
  exact k _ _ F1 _ g3 (hR1.mut g1 h1 ⟨_, upd_same, s.set m (r.mono x1)⟩) x1
end

/-! ### iterables -/
def wRng1 (w : WA) : WA := fun S R => w S fun ds S1 => match ds with
  | [.int j] => (-(2 ^ 62) ≤ j ∧ j < 2 ^ 62) ∧ R ((List.range j.toNat).map fun i => .int (i : Nat)) S1
  | _ => False
def wRng2 (w : WA) : WA := fun S R => w S fun ds S1 => match ds with
  | [.int i, .int j] => (-(2 ^ 62) ≤ i ∧ i < 2 ^ 62 ∧ -(2 ^ 62) ≤ j ∧ j < 2 ^ 62) ∧ R ((List.range (j - i).toNat).map fun k => .int (i + (k : Nat))) S1
  | _ => False
def wItL (w : WE) : WA := fun S R => w S fun d S1 => match d with
  | .lst ds => R ds S1
  | _ => False
def wItT (w : WE) : WA := fun S R => w S fun d S1 => match d with
  | .tup ds => R ds S1
  | _ => False
def chars (x : Str) : List D := x.cps.toList.map fun c => .str ⟨#[c]⟩
def wItS (w : WE) : WA := fun S R => w S fun d S1 => match d with
  | .str x => R (chars x) S1
  | _ => False
def wZip (w : WA) : WA := fun S R => w S fun ds S1 => match ds with
  | [.lst xs, .lst ys] => R (List.zipWith (fun x y => .tup [x, y]) xs ys) S1
  | _ => False
def wEnum (w : WA) : WA := fun S R => w S fun ds S1 => match ds with
  | [.lst xs] => R (xs.zipIdx.map fun p => .tup [.int (p.2 : Nat), p.1]) S1
  | _ => False
section
variable {X : Cx} {a b e tg : Expr} {es : List Expr} {w : WE} {ws : WA} {n : Nat} {pos p : Pos} {K : PySem.W.Frag} {F H : Hp}
theorem feeds_list {c : Addr} {vs : List V} {ds : List D} (h : F c = some (.lst vs)) (s : Reps K F vs ds) : Feeds K (Itl K c) F ds := fun F' H' x1 x2 =>
  ⟨fun i d hd => by
    obtain ⟨v, h1, h2⟩ := s.get hd
    have hq : SqL K H' c vs := .of (x2 _ _ (x1 _ _ h))
    refine ⟨⟨vs, v, hq, h1⟩, fun x H3 hy => ?_⟩
    obtain ⟨rfl, hy⟩ := hy
    have e : x = v := Option.some.inj ((hy _ hq).symm.trans h1)
    subst e
    exact ⟨F', .refl x2, h2.mono x1⟩, fun i hi => ⟨vs, .of (x2 _ _ (x1 _ _ h)), by rw [s.length]; exact hi⟩⟩
theorem feeds_tup {c : Addr} {vs : List V} {ds : List D} (h : SqT K F c vs) (s : Reps K F vs ds) : Feeds K (Itt K c) F ds := fun F' H' x1 x2 =>
  ⟨fun i d hd => by
    obtain ⟨v, h1, h2⟩ := s.get hd
    have hq : SqT K H' c vs := x2.sqT (x1.sqT h)
    refine ⟨⟨vs, v, hq, h1⟩, fun x H3 hy => ?_⟩
    obtain ⟨rfl, hy⟩ := hy
    have e : x = v := Option.some.inj ((hy _ hq).symm.trans h1)
    subst e
    exact ⟨F', .refl x2, h2.mono x1⟩, fun i hi => ⟨vs, x2.sqT (x1.sqT h), by rw [s.length]; exact hi⟩⟩
theorem feeds_rng {lo : Int} {n : Nat} : Feeds K (Itr lo n) F ((List.range n).map fun k => .int (lo + (k : Nat))) := fun F' H' x1 x2 =>
  ⟨fun i d hd => by
    rw [List.getElem?_map] at hd
    cases e : (List.range n)[i]? with
    | none => rw [e] at hd; cases hd
    | some j =>
      rw [e] at hd
      have hi : i < n := by simpa using ix_lt e
      rw [List.getElem?_range hi] at e
      cases e
      cases hd
      refine ⟨hi, fun x H3 hy => ?_⟩
      obtain ⟨rfl, rfl⟩ := hy
      exact ⟨F', .refl x2, .int _⟩, fun i hi => (by simpa using hi : n ≤ i)⟩
theorem feeds_str {x : Str} : Feeds K (Its x) F (chars x) := fun F' H' x1 x2 =>
  ⟨fun i d hd => by
    unfold chars at hd
    rw [List.getElem?_map] at hd
    cases e : x.cps.toList[i]? with
    | none => rw [e] at hd; cases hd
    | some j =>
      rw [e] at hd
      cases hd
      have hi : i < x.cps.size := by simpa using ix_lt e
      refine ⟨hi, fun y H3 hy => ?_⟩
      obtain ⟨rfl, c, h1, rfl⟩ := hy
      have : x.cps[i]? = some j := by simpa using e
      rw [this] at h1
      cases h1
      exact ⟨F', .refl x2, .str _⟩, fun i hi => by
    have : x.cps.size ≤ i := by simpa [chars] using hi
    exact this⟩
theorem feeds_zip {a b : Addr} {vs us : List V} {ds es : List D} (h : F a = some (.lst vs)) (s : Reps K F vs ds) (h' : F b = some (.lst us)) (s' : Reps K F us es) : Feeds K (Itz K a b) F (List.zipWith (fun x y => .tup [x, y]) ds es) := fun F' H' x1 x2 => by
  have hq : SqL K H' a vs := .of (x2 _ _ (x1 _ _ h))
  have hq' : SqL K H' b us := .of (x2 _ _ (x1 _ _ h'))
  refine ⟨fun i d hd => ?_, fun i hi => ?_⟩
  · rw [List.getElem?_zipWith] at hd
    cases e1 : ds[i]? with
    | none => rw [e1] at hd; cases hd
    | some y =>
      cases e2 : es[i]? with
      | none => rw [e1, e2] at hd; cases hd
      | some z =>
        rw [e1, e2] at hd
        cases hd
        obtain ⟨v, h1, h2⟩ := s.get e1
        obtain ⟨u, h3, h4⟩ := s'.get e2
        refine ⟨⟨vs, us, v, u, hq, hq', h1, h3⟩, fun x H3 hy => ?_⟩
        obtain ⟨T, q, r, rfl, hT, rfl, f1, f2⟩ := hy
        have e1 : q = v := Option.some.inj ((f1 _ hq).symm.trans h1)
        have e2 : r = u := Option.some.inj ((f2 _ hq').symm.trans h3)
        subst e1
        subst e2
        have al := Al.one (o := .tup [q, r]) x2 hT
        exact ⟨_, al, .tup (.of upd_same) (((Reps.cons h2 (.one h4)).mono x1).mono al.xF)⟩
  · rw [List.length_zipWith] at hi
    refine ⟨vs, us, hq, hq', ?_⟩
    rw [s.length, s'.length]
    omega
theorem feeds_enum {a : Addr} {vs : List V} {ds : List D} (h : F a = some (.lst vs)) (s : Reps K F vs ds) : Feeds K (Ite K a) F (ds.zipIdx.map fun p => .tup [.int (p.2 : Nat), p.1]) := fun F' H' x1 x2 => by
  have hq : SqL K H' a vs := .of (x2 _ _ (x1 _ _ h))
  refine ⟨fun i d hd => ?_, fun i hi => ?_⟩
  · rw [List.getElem?_map, List.getElem?_zipIdx] at hd
    cases e1 : ds[i]? with
    | none => rw [e1] at hd; cases hd
    | some y =>
      rw [e1] at hd
      cases hd
      obtain ⟨v, h1, h2⟩ := s.get e1
      refine ⟨⟨vs, v, hq, h1⟩, fun x H3 hy => ?_⟩
      obtain ⟨T, q, rfl, hT, rfl, f1⟩ := hy
      have e1 : q = v := Option.some.inj ((f1 _ hq).symm.trans h1)
      subst e1
      have al := Al.one (o := .tup [.int (i : Nat), q]) x2 hT
      have z : 0 + i = i := Nat.zero_add i
      refine ⟨_, al, .tup (.of upd_same) (((Reps.cons ?_ (.one h2)).mono x1).mono al.xF)⟩
      show Rep K F (.int (i : Nat)) (.int ((0 + i : Nat) : Int))
      rw [z]
      exact .int _
  · rw [List.length_map, List.length_zipIdx] at hi
    exact ⟨vs, hq, by rw [s.length]; exact hi⟩
theorem di_list (he : DE X e w) : DI X tg e (wItL w) := fun E => PI.imp (pi_list (he E)) fun σ H Q => by
  rintro ⟨S, F, R, hR, hw, k⟩
  refine ⟨S, F, _, hR, hw, fun d S1 v F1 H1 hw1 r hR1 x1 => ?_⟩
  cases r with
  | lst q s => exact ⟨_, rfl, ⟨_, .of (hR1.g.ext _ _ q)⟩, k _ S1 _ F1 H1 hw1 (feeds_list q s) hR1 x1⟩
  | _ => exact hw1.elim
theorem di_tup (he : DE X e w) : DI X tg e (wItT w) := fun E => PI.imp (pi_tup (he E)) fun σ H Q => by
  rintro ⟨S, F, R, hR, hw, k⟩
  refine ⟨S, F, _, hR, hw, fun d S1 v F1 H1 hw1 r hR1 x1 => ?_⟩
  cases r with
  | tup q s => exact ⟨_, rfl, ⟨_, hR1.g.ext.sqT q⟩, k _ S1 _ F1 H1 hw1 (feeds_tup q s) hR1 x1⟩
  | _ => exact hw1.elim
theorem di_str (he : DE X e w) : DI X tg e (wItS w) := fun E => PI.imp (pi_str (he E)) fun σ H Q => by
  rintro ⟨S, F, R, hR, hw, k⟩
  refine ⟨S, F, _, hR, hw, fun d S1 v F1 H1 hw1 r hR1 x1 => ?_⟩
  cases r with
  | str => exact ⟨_, rfl, k _ S1 _ F1 H1 hw1 feeds_str hR1 x1⟩
  | _ => exact hw1.elim
theorem di_rng1 (hg : Gl X "range") (hm : X.mg "range" = none) (ha : DA X [a] n ws) (hs : starEach [a] X.env = [(false, eval a X.env)] := by rfl) : DI X tg (.Call (.Name "range" p) [a] [] pos) (wRng1 ws) := fun E => PI.imp (pi_range1 hg hm (ha E) hs) fun σ H Q => by
  rintro ⟨S, F, R, hR, hw, k⟩
  refine ⟨S, F, _, hR, hw, fun ds S1 vs F1 H1 hw1 l1 r1 hR1 x1 => ?_⟩
  split at hw1
  · obtain ⟨v, rfl, q⟩ := r1.one_of
    cases q
    rename_i j
    refine ⟨j, rfl, hw1.1.1, hw1.1.2, k _ S1 _ F1 H1 hw1.2 ?_ hR1 x1⟩
    have h := feeds_rng (K := X.K) (F := F1) (lo := 0) (n := j.toNat)
    simp only [Int.zero_add] at h
    exact h
  · exact hw1.elim
theorem di_rng2 (hg : Gl X "range") (hm : X.mg "range" = none) (ha : DA X [a, b] n ws) (hs : starEach [a, b] X.env = [(false, eval a X.env), (false, eval b X.env)] := by rfl) (hs2 : starEach [b] X.env = [(false, eval b X.env)] := by rfl) : DI X tg (.Call (.Name "range" p) [a, b] [] pos) (wRng2 ws) := fun E => PI.imp (pi_range2 hg hm (ha E) hs hs2) fun σ H Q => by
  rintro ⟨S, F, R, hR, hw, k⟩
  refine ⟨S, F, _, hR, hw, fun ds S1 vs F1 H1 hw1 l1 r1 hR1 x1 => ?_⟩
  split at hw1
  · obtain ⟨v, u, rfl, q, q2⟩ := r1.two_of
    cases q; cases q2
    exact ⟨_, _, rfl, hw1.1, k _ S1 _ F1 H1 hw1.2 feeds_rng hR1 x1⟩
  · exact hw1.elim
theorem di_zip {tpos : Pos} {elts : List Expr} {kk : Nat} (hg : Gl X "zip") (hm : X.mg "zip" = none) (ha : DA X [a, b] n ws) (hp : ∀ t, PA X [a, b] t → PI X (.Tuple elts kk tpos) (.Call (.Name "zip" p) [a, b] [] pos) (iZip X.K t)) : DI X (.Tuple elts kk tpos) (.Call (.Name "zip" p) [a, b] [] pos) (wZip ws) := fun E => PI.imp (hp _ (ha E)) fun σ H Q => by
  rintro ⟨S, F, R, hR, hw, k⟩
  refine ⟨S, F, _, hR, hw, fun ds S1 vs F1 H1 hw1 l1 r1 hR1 x1 => ?_⟩
  split at hw1
  · obtain ⟨v, u, rfl, q, q2⟩ := r1.two_of
    cases q with
    | lst h s =>
      cases q2 with
      | lst h' s' => exact ⟨_, _, _, _, rfl, .of (hR1.g.ext _ _ h), .of (hR1.g.ext _ _ h'), k _ S1 _ F1 H1 hw1 (feeds_zip h s h' s') hR1 x1⟩
  · exact hw1.elim
end
end VL

set_option Elab.async false
set_option linter.all false
set_option maxRecDepth 100000
set_option maxHeartbeats 4000000
/-! VL5: statements, comprehensions, defs. -/
namespace VL
open PySem PySem.Spec L2
/-! ### statements -/
def wNext : WS := fun D S => D.nx S
def wSeq (t u : WS) : WS := fun D S => t { D with nx := u D } S
def wBreak : WS := fun D S => D.bk S
def wCont : WS := fun D S => D.ct S
def wDrop (w : WE) : WS := fun D S => w S fun _ S1 => D.nx S1
def wRet (w : WE) : WS := fun D S => w S D.rt
def wRetN : WS := fun D S => D.rt .non S
def wIfS (t : WT) (u v : WS) : WS := fun D S => t S fun b S1 => Br b (u D S1) (v D S1)
def wAsg (w : WE) (g : WG) : WS := fun D S => w S fun d S1 => g d S1 D.nx
/-- x = a fresh container that the name owns -/
def wSetO (i : Nat) (w : WE) : WS := fun D S => w S fun d S1 => D.nx (S1.st i (.o d))
def obOf : D → Ob
  | .lst ds => .ml ds
  | .dct ks ds => .md ks ds
  | _ => .ml []
/-- x = a fresh container that becomes a known object -/
def wSetM (i : Nat) (w : WE) : WS := fun D S => w S fun d S1 => ∀ a, S1.h a = none → D.nx ((S1.ob a (obOf d)).st i (.f (.obj a)))
def wPar (i j : Nat) (w : WA) : WS := fun D S => w S fun ds S1 => match ds with
  | [d, e] => D.nx ((S1.st i (.f d)).st j (.f e))
  | _ => False
def wPar3 (i j l : Nat) (w : WA) : WS := fun D S => w S fun ds S1 => match ds with
  | [d, e, f] => D.nx (((S1.st i (.f d)).st j (.f e)).st l (.f f))
  | _ => False
/-- x op= e -/
def wAug (i : Nat) (g : O2) (w : WE) : WS := fun D S => match S.s[i]? with
  | some (.f d) => w S fun e S1 => g d e fun z => D.nx (S1.st i (.f z))
  | _ => False
/-- o[i] op= e, o a known list -/
def wAugM (wo wi : WE) (g : O2) (w : WE) : WS := fun D S => wo S fun x S1 => wi S1 fun y S2 => ∃ a ds j d, x = .obj a ∧ y = .int j ∧ S2.h a = some (.ml ds) ∧ atI ds j = some d ∧
  w S2 fun e S3 => g d e fun z => ∃ ds' k, S3.h a = some (.ml ds') ∧ ixN ds'.length j = some k ∧ D.nx (S3.ob a (.ml (ds'.set k z)))
/-- x[i] op= e, x owns its list -/
def wAugO (i : Nat) (wi : WE) (g : O2) (w : WE) : WS := fun D S => (∃ e, S.s[i]? = some (.o e)) ∧ wi S fun y S2 => ∃ ds j d, S2.s[i]? = some (.o (.lst ds)) ∧ y = .int j ∧ atI ds j = some d ∧
  w S2 fun e S3 => g d e fun z => ∃ ds' k, S3.s[i]? = some (.o (.lst ds')) ∧ ixN ds'.length j = some k ∧ D.nx (S3.st i (.o (.lst (ds'.set k z))))
/-- x.append(e), x owns its list -/
def wApp (i : Nat) (w : WE) : WS := fun D S => (∃ es, S.s[i]? = some (.o (.lst es))) ∧ w S fun d S1 => ∃ ds, S1.s[i]? = some (.o (.lst ds)) ∧ ds.length < sizeLine ∧ D.nx (S1.st i (.o (.lst (ds ++ [d]))))
def wForL (g : WG) (tb : WS) (T : We) : List D → Sg → Prop
  | [], S => T.nx S
  | x :: xs, S => g x S fun S1 => tb { T with nx := wForL g tb T xs, ct := wForL g tb T xs, bk := T.nx } S1
def wFor (wi : WA) (g : WG) (tb : WS) : WS := fun D S => wi S fun ds S1 => wForL g tb D ds S1
def wWhM (t : WT) (tb : WS) (T : We) : Nat → Sg → Prop
  | 0, _ => False
  | n + 1, S => t S fun b S1 => Br b (tb { T with nx := wWhM t tb T n, ct := wWhM t tb T n, bk := T.nx } S1) (T.nx S1)
@[irreducible] def wWhN (t : WT) (tb : WS) (T : We) : Nat → Sg → Prop := wWhM t tb T
theorem whn_eq (t : WT) (tb : WS) (T : We) : wWhN t tb T = wWhM t tb T := by unfold wWhN; rfl
theorem whn {t : WT} {tb : WS} {T : We} {n : Nat} {S : Sg} (h : t S fun b S1 => Br b (tb { T with nx := wWhN t tb T n, ct := wWhN t tb T n, bk := T.nx } S1) (T.nx S1)) : wWhN t tb T (n + 1) S := by
  simp only [whn_eq] at h ⊢
  exact h
theorem whn_out {t : WT} {tb : WS} {T : We} {n : Nat} {S : Sg} (h : wWhN t tb T (n + 1) S) : t S fun b S1 => Br b (tb { T with nx := wWhN t tb T n, ct := wWhN t tb T n, bk := T.nx } S1) (T.nx S1) := by
  simp only [whn_eq] at h ⊢
  exact h
theorem whn_no {t : WT} {tb : WS} {T : We} {S : Sg} (h : wWhN t tb T 0 S) : False := by
  simp only [whn_eq] at h
  exact h
def wWhile (t : WT) (tb : WS) : WS := fun D S => ∃ n, wWhN t tb D n S
section
variable {X : Cx} {a b c e o i : Expr} {es : List Expr} {st : Stmt} {sts body els : List Stmt} {w wo wi : WE} {ws : WA} {wt : WT} {t u tb : WS} {g : WG} {n : Nat} {pos p : Pos}
theorem dss_nil : DSs X [] wNext := fun E => PSs.imp pss_nil fun D σ H => by
  rintro ⟨S, F, R, hR, hw, k1, k2, k3, k4⟩
  exact k1 S σ F H hw hR (.refl _)
theorem LS.weak {K : PySem.W.Frag} {E : En} {w : WS} {σ : L2.St} {H F0 F : Hp} {S : Sg} {R : We} {D : Ends} (x0 : Ext F0 F) (hR : Rel K E F H σ S) (hw : w R S)
    (k1 : ∀ S' σ' F' H', R.nx S' → Rel K E F' H' σ' S' → Ext F F' → D.nx σ' H')
    (k2 : ∀ S' σ' F' H', R.bk S' → Rel K E F' H' σ' S' → Ext F0 F' → D.bk σ' H') (k3 : ∀ S' σ' F' H', R.ct S' → Rel K E F' H' σ' S' → Ext F0 F' → D.ct σ' H')
    (k4 : ∀ d S' v σ' F' H', R.rt d S' → Rep K F' v d → Rel K E F' H' σ' S' → Ext F0 F' → D.rt v H') : LS K E w D σ H :=
  ⟨S, F, R, hR, hw, k1, fun S' σ' F' H' q r x => k2 S' σ' F' H' q r (x0.trans x), fun S' σ' F' H' q r x => k3 S' σ' F' H' q r (x0.trans x), fun d S' v σ' F' H' q r r' x => k4 d S' v σ' F' H' q r r' (x0.trans x)⟩
theorem dss_cons (h1 : DS X st t) (h2 : DSs X sts u) : DSs X (st :: sts) (wSeq t u) := fun E => PSs.imp (pss_cons (h1 E) (h2 E)) fun D σ H => by
  rintro ⟨S, F, R, hR, hw, k1, k2, k3, k4⟩
  refine ⟨S, F, _, hR, hw, fun S1 σ1 F1 H1 hw1 hR1 x1 => ?_, k2, k3, k4⟩
  exact LS.weak x1 hR1 hw1 (fun S' σ' F' H' q r x => k1 S' σ' F' H' q r (x1.trans x)) k2 k3 k4
theorem dss_one (h1 : DS X st t) : DSs X [st] t := fun E => pss_one (h1 E)
theorem ds_pass : DS X (.Pass pos) wNext := fun E => PS.imp ps_pass fun D σ H => by
  rintro ⟨S, F, R, hR, hw, k1, k2, k3, k4⟩
  exact k1 S σ F H hw hR (.refl _)
theorem ds_break : DS X (.Break pos) wBreak := fun E => PS.imp ps_break fun D σ H => by
  rintro ⟨S, F, R, hR, hw, k1, k2, k3, k4⟩
  exact k2 S σ F H hw hR (.refl _)
theorem ds_cont : DS X (.Continue pos) wCont := fun E => PS.imp ps_continue fun D σ H => by
  rintro ⟨S, F, R, hR, hw, k1, k2, k3, k4⟩
  exact k3 S σ F H hw hR (.refl _)
theorem ds_expr (he : DE X e w) (hs : swapsWith e none pos.line X.env = pure false := by rfl) : DS X (.Expr e pos) (wDrop w) := fun E => PS.imp (ps_expr (he E) hs) fun D σ H => by
  rintro ⟨S, F, R, hR, hw, k1, k2, k3, k4⟩
  exact ⟨S, F, _, hR, hw, fun d S1 v F1 H1 hw1 r1 hR1 x1 => k1 S1 σ F1 H1 hw1 hR1 x1⟩
theorem ds_ret (he : DE X e w) : DS X (.Return (some e) pos) (wRet w) := fun E => PS.imp (ps_ret (he E)) fun D σ H => by
  rintro ⟨S, F, R, hR, hw, k1, k2, k3, k4⟩
  exact ⟨S, F, _, hR, hw, fun d S1 v F1 H1 hw1 r1 hR1 x1 => k4 d S1 v σ F1 H1 hw1 r1 hR1 x1⟩
theorem ds_retN : DS X (.Return none pos) wRetN := fun E => PS.imp ps_retN fun D σ H => by
  rintro ⟨S, F, R, hR, hw, k1, k2, k3, k4⟩
  exact k4 _ S _ σ F H hw .non hR (.refl _)
theorem ds_if (hc : DT X c wt) (ha : DSs X body t) (hb : DSs X els u) : DS X (.If c body els pos) (wIfS wt t u) := fun E => PS.imp (ps_if (hc E) (ha E) (hb E)) fun D σ H => by
  rintro ⟨S, F, R, hR, hw, k1, k2, k3, k4⟩
  refine ⟨S, F, _, hR, hw, fun b S1 F1 H1 hw1 hR1 x1 => ?_⟩
  cases b with
  | true => exact LS.weak x1 hR1 (br_t hw1) (fun S' σ' F' H' q r x => k1 S' σ' F' H' q r (x1.trans x)) k2 k3 k4
  | false => exact LS.weak x1 hR1 (br_f hw1) (fun S' σ' F' H' q r x => k1 S' σ' F' H' q r (x1.trans x)) k2 k3 k4
theorem ds_asg {tg : Expr} (he : DE X e w) (hg : DG X tg g) (hs : swapsWithSole [tg] e pos.line X.env = pure false := by rfl) (hw : swappedStores [tg] e X.env = pure none := by rfl)
    (h1 : (assignEach [tg] X.env).map (·.2) = [assign tg X.env] := by rfl) : DS X (.Assign [tg] e pos) (wAsg w g) := fun E => PS.imp (ps_asg (he E) (hg E) hs hw h1) fun D σ H => by
  rintro ⟨S, F, R, hR, hw, k1, k2, k3, k4⟩
  refine ⟨S, F, _, hR, hw, fun d S1 v F1 H1 hw1 r1 hR1 x1 => ?_⟩
  exact ⟨S1, F1, d, _, hR1, r1, hw1, fun S2 σ2 F2 H2 q r x2 => k1 S2 σ2 F2 H2 q r (x1.trans x2)⟩
/-- x = e by the rule ps_set -/
theorem ds_set {x : Str} {pos' : Pos} (i : Nat) (he : DE X e w) (h : ∀ te, PE X e te → PS X (.Assign [.Name x pos'] e pos) (tAsg te (L2.gName i))) : DS X (.Assign [.Name x pos'] e pos) (wAsg w (gVar i)) := fun E => PS.imp (h _ (he E)) fun D σ H => by
  rintro ⟨S, F, R, hR, hw, k1, k2, k3, k4⟩
  refine ⟨S, F, _, hR, hw, fun d S1 v F1 H1 hw1 r1 hR1 x1 => ?_⟩
  exact k1 _ _ F1 H1 hw1 (hR1.set r1) x1
theorem ds_setO {x : Str} {pos' : Pos} (i : Nat) (he : DN X e w) (h : ∀ te, PE X e te → PS X (.Assign [.Name x pos'] e pos) (tAsg te (L2.gName i))) : DS X (.Assign [.Name x pos'] e pos) (wSetO i w) := fun E => PS.imp (h _ (he E)) fun D σ H => by
  rintro ⟨S, F, R, hR, hw, k1, k2, k3, k4⟩
  refine ⟨S, F, _, hR, hw, fun d S1 q F1 H1 hw1 f hR1 x1 => ?_⟩
  exact k1 _ _ F1 H1 hw1 (hR1.setO f) x1
theorem ds_setM {x : Str} {pos' : Pos} (i : Nat) (he : DN X e w) (h : ∀ te, PE X e te → PS X (.Assign [.Name x pos'] e pos) (tAsg te (L2.gName i))) : DS X (.Assign [.Name x pos'] e pos) (wSetM i w) := fun E => PS.imp (h _ (he E)) fun D σ H => by
  rintro ⟨S, F, R, hR, hw, k1, k2, k3, k4⟩
  refine ⟨S, F, _, hR, hw, fun d S1 q F1 H1 hw1 f hR1 x1 => ?_⟩
  have ha : ObAt X.K F1 H1 q (obOf d) := by
    have z := f.at_
    cases d <;> first | exact z | exact z.elim
  exact k1 _ _ F1 H1 (hw1 q f.nh) ((hR1.obnew f ha).set (.obj q)) x1
theorem Reps.three_of {K : PySem.W.Frag} {F : Hp} {vs : List V} {d e f : D} (r : Reps K F vs [d, e, f]) : ∃ v u w, vs = [v, u, w] ∧ Rep K F v d ∧ Rep K F u e ∧ Rep K F w f := by
  cases r with
  | cons a b =>
    obtain ⟨u, w, rfl, q⟩ := b.two_of
    exact ⟨_, _, _, rfl, a, q⟩
theorem ds_par {x y : Str} {px py pt : Pos} {kt k2 : Nat} {pt2 : Pos} (i j : Nat) (ha : DA X [a, b] n ws) (h : ∀ ta, PA X [a, b] ta → PS X (.Assign [.Tuple [.Name x px, .Name y py] kt pt] (.Tuple [a, b] k2 pt2) pos) (tPar i j ta)) :
    DS X (.Assign [.Tuple [.Name x px, .Name y py] kt pt] (.Tuple [a, b] k2 pt2) pos) (wPar i j ws) := fun E => PS.imp (h _ (ha E)) fun D σ H => by
  rintro ⟨S, F, R, hR, hw, k1, k2, k3, k4⟩
  refine ⟨S, F, _, hR, hw, fun ds S1 vs F1 H1 hw1 l1 r1 hR1 x1 => ?_⟩
  split at hw1
  · obtain ⟨v, u, rfl, q1, q2⟩ := r1.two_of
    exact ⟨v, u, rfl, k1 _ _ F1 H1 hw1 ((hR1.set q1).set q2) x1⟩
  · exact hw1.elim
theorem ds_par3 {x y z : Str} {px py pz pt : Pos} {kt k2 : Nat} {pt2 : Pos} (i j l : Nat) (ha : DA X [a, b, c] n ws) (h : ∀ ta, PA X [a, b, c] ta → PS X (.Assign [.Tuple [.Name x px, .Name y py, .Name z pz] kt pt] (.Tuple [a, b, c] k2 pt2) pos) (tPar3 i j l ta)) :
    DS X (.Assign [.Tuple [.Name x px, .Name y py, .Name z pz] kt pt] (.Tuple [a, b, c] k2 pt2) pos) (wPar3 i j l ws) := fun E => PS.imp (h _ (ha E)) fun D σ H => by
  rintro ⟨S, F, R, hR, hw, k1, k2, k3, k4⟩
  refine ⟨S, F, _, hR, hw, fun ds S1 vs F1 H1 hw1 l1 r1 hR1 x1 => ?_⟩
  split at hw1
  · obtain ⟨v, u, w, rfl, q1, q2, q3⟩ := r1.three_of
    exact ⟨v, u, w, rfl, k1 _ _ F1 H1 hw1 (((hR1.set q1).set q2).set q3) x1⟩
  · exact hw1.elim
theorem ds_aug {x : Str} {pos' : Pos} {op : Operator} {g : O2} (i : Nat) (ho : OpV X (inplaceOp op) g) (he : DE X e w) (h : ∀ te ti, PE X e te → PIp X op ti → PS X (.AugAssign (.Name x pos') op e pos) (tAug i te ti)) : DS X (.AugAssign (.Name x pos') op e pos) (wAug i g w) := fun E => PS.imp (h _ _ (he E) ho) fun D σ H => by
  rintro ⟨S, F, R, hR, hw, k1, k2, k3, k4⟩
  unfold wAug at hw
  split at hw
  · rename_i d hd
    obtain ⟨v, h1, h2⟩ := hR.frz i d hd
    refine ⟨v, h1, S, F, _, hR, hw, fun e S1 v1 F1 H1 hw1 r1 hR1 x1 => ?_⟩
    exact ⟨F1, d, e, _, hR1.g.ext, h2.mono x1, r1, hw1, fun z v F' H' hz rz al => k1 _ _ F' H' hz ((hR1.al al).set rz) (x1.trans al.xF)⟩
  · exact hw.elim
theorem pget_list : PGet X (rIxL X.K) := fun pins s σ H o i ov iv Q I ro ri h => by
  obtain ⟨p, xs, j, v, rfl, rfl, hq, he, q⟩ := h
  cases ro
  obtain ⟨t, rfl⟩ := ri
  obtain ⟨its, r, pl, hz⟩ := I.list hq
  obtain ⟨m, h1, h2, h3, h4, h5⟩ := atI_get he
  obtain ⟨u, eu, ru⟩ := r.get h2
  have hl := r.length
  have hn := line63
  have fin : EP X pins σ Q u s := ⟨v, H, I, ru, q⟩
  have isl : s.heap.IsList p its.toArray := by
    obtain ⟨ob, n, e1, e2, e3, e4⟩ := pl
    exact ⟨ob, e1, e2, n, e4⟩
  by_cases h0 : 0 ≤ j
  · have hj : j.toNat = m := by
      rw [seqIndex_of h0 h5] at h1
      exact Option.some.inj h1
    exact wpAny_getItem_list isl h0 (by omega) (by rw [hj]; simpa using eu) fin
  · have hj : (j + (its.toArray.size : Int)).toNat = m := by
      rw [seqIndex_neg (by omega) h4] at h1
      rw [List.size_toArray, ← hl]
      exact Option.some.inj h1
    exact wpAny_getItem_list_neg isl (by omega) (by rw [List.size_toArray] <;> omega) (by omega) (by rw [hj]; simpa using eu) fin
theorem ds_augM {op : Operator} {g : O2} {tpos : Pos} (hp : OpV X (inplaceOp op) g) (ho : DE X o wo) (hi : DE X i wi) (he : DE X e w)
    (ha : ∀ ov iv new, augStore i ov iv new = (do holding [new, ov, iv] (setItem ov iv new); release [new, ov, iv] []; pure .next) := by intros; rfl) : DS X (.AugAssign (.Subscript o i tpos) op e pos) (wAugM wo wi g w) := fun E => PS.imp (ps_augS (ho E) (hi E) pget_list (he E) hp set_list ha) fun D σ H => by
  rintro ⟨S, F, R, hR, hw, k1, k2, k3, k4⟩
  refine ⟨S, F, _, hR, hw, fun x S1 v1 F1 H1 hw1 r1 hR1 x1 => ?_⟩
  refine ⟨S1, F1, _, hR1, hw1, fun y S2 v2 F2 H2 hw2 r2 hR2 x2 => ?_⟩
  obtain ⟨a, ds, j, d, rfl, rfl, h1, h2, hw2⟩ := hw2
  cases r1; cases r2
  obtain ⟨vs, q, s⟩ := (hR2.g.obs _ _ h1).1
  obtain ⟨v, h3, h4⟩ := s.at h2
  refine ⟨a, vs, j, v, rfl, rfl, .of q, h3, ?_⟩
  refine ⟨S2, F2, _, hR2, hw2, fun e S3 v3 F3 H3 hw3 r3 hR3 x3 => ?_⟩
  refine ⟨F3, d, e, _, hR3.g.ext, h4.mono x3, r3, hw3, fun z v F' H' hz rz al => ?_⟩
  obtain ⟨ds', k, g1, g2, g3⟩ := hz
  have hR4 := hR3.al al
  obtain ⟨us, q', s'⟩ := (hR4.g.obs _ _ g1).1
  refine ⟨a, us, j, k, rfl, rfl, q', by rw [s'.length]; exact g2, ?_⟩
  exact k1 _ _ F' _ g3 (hR4.obput (by rw [g1]; simp) ⟨_, upd_same, s'.set k rz⟩) (((x1.trans x2).trans x3).trans al.xF)
theorem ds_augO {op : Operator} {g : O2} {x : Str} {px tpos : Pos} (l : Nat) (hx : PE X (.Name x px) (tVar l)) (hp : OpV X (inplaceOp op) g) (hi : DE X i wi) (he : DE X e w)
    (ha : ∀ ov iv new, augStore i ov iv new = (do holding [new, ov, iv] (setItem ov iv new); release [new, ov, iv] []; pure .next) := by intros; rfl) : DS X (.AugAssign (.Subscript (.Name x px) i tpos) op e pos) (wAugO l wi g w) := fun E => PS.imp (ps_augS hx (hi E) pget_list (he E) hp set_list ha) fun D σ H => by
  rintro ⟨S, F, R, hR, ⟨⟨e0, he0⟩, hw⟩, k1, k2, k3, k4⟩
  obtain ⟨p, h0, _⟩ := hR.own l e0 he0
  refine ⟨_, h0, ?_⟩
  refine ⟨S, F, _, hR, hw, fun y S2 v2 F2 H2 hw2 r2 hR2 x2 => ?_⟩
  obtain ⟨ds, j, d, h1, rfl, h2, hw2⟩ := hw2
  cases r2
  obtain ⟨p', h0', ⟨vs, q, s⟩, _⟩ := hR2.own l _ h1
  rw [h0] at h0'
  cases h0'
  obtain ⟨v, h3, h4⟩ := s.at h2
  refine ⟨p, vs, j, v, rfl, rfl, .of q, h3, ?_⟩
  refine ⟨S2, F2, _, hR2, hw2, fun e S3 v3 F3 H3 hw3 r3 hR3 x3 => ?_⟩
  refine ⟨F3, d, e, _, hR3.g.ext, h4.mono x3, r3, hw3, fun z v F' H' hz rz al => ?_⟩
  obtain ⟨ds', k, g1, g2, g3⟩ := hz
  have hR4 := hR3.al al
  obtain ⟨p', h0', ⟨us, q', s'⟩, _⟩ := hR4.own l _ g1
  rw [h0] at h0'
  cases h0'
  refine ⟨p, us, j, k, rfl, rfl, q', by rw [s'.length]; exact g2, ?_⟩
  exact k1 _ _ F' _ g3 (hR4.mut g1 h0 ⟨_, upd_same, s'.set k rz⟩) ((x2.trans x3).trans al.xF)
/-- x.append(e) as a statement -/
theorem ds_app {x : Str} {px apos cpos : Pos} (l : Nat) (hx : PE X (.Name x px) (tVar l)) (he : DE X e w)
    (h : ∀ to t, PE X (.Name x px) to → PE X e t → PE X (.Call (.Attribute (.Name x px) "append" apos) [e] [] cpos) (tBM X.K "list" rAppend to (tCons t tNil)))
    (hs : swapsWith (.Call (.Attribute (.Name x px) "append" apos) [e] [] cpos) none pos.line X.env = pure false := by rfl) : DS X (.Expr (.Call (.Attribute (.Name x px) "append" apos) [e] [] cpos) pos) (wApp l w) := fun E => PS.imp (ps_expr (h _ _ hx (he E)) hs) fun D σ H => by
  rintro ⟨S, F, R, hR, ⟨⟨ds0, he0⟩, hw⟩, k1, k2, k3, k4⟩
  obtain ⟨p, h0, ⟨vs0, q0, _⟩, _⟩ := hR.own l _ he0
  refine ⟨_, h0, .inl ⟨rfl, _, .of q0⟩, ?_⟩
  refine ⟨S, F, _, hR, hw, fun d S1 v F1 H1 hw1 r1 hR1 x1 => ?_⟩
  obtain ⟨ds, g1, g2, g3⟩ := hw1
  obtain ⟨p', h0', ⟨vs, q, s⟩, _⟩ := hR1.own l _ g1
  rw [h0] at h0'
  cases h0'
  refine ⟨p, vs, v, rfl, rfl, q, by rw [s.length]; exact g2, ?_⟩
  exact k1 _ _ F1 _ g3 (hR1.mut g1 h0 ⟨_, upd_same, s.append (.one r1)⟩) x1
/-! ### loops -/
theorem ds_for {tg iter : Expr} (hp : PassesOwn (model X.prog X.w) X.A X.env X.xe) (hc : X.calm = true) (hi : DI X tg iter ws) (hg : DG X tg g) (hb : DSs X body tb)
    (hs : ∀ x, foldedSetIterable iter X.env x = pure x := by intro _; rfl) : DS X (.For tg iter body [] pos) (wFor ws g tb) := fun E => PS.imp (ps_for hp hc (hi E) (hg E) (hb E) hs) fun D σ H => by
  rintro ⟨S, F, R, hR, hw, k1, k2, k3, k4⟩
  refine ⟨S, F, _, hR, hw, fun ds S1 J F1 H1 hw1 fd hR1 x1 => ?_⟩
  refine ⟨fun i m σ H => m + i = ds.length ∧ ∃ F2 S2, Rel X.K E F2 H σ S2 ∧ Ext F1 F2 ∧ wForL g tb R (ds.drop i) S2, ⟨ds.length, rfl, F1, S1, hR1, .refl _, hw1⟩, fun i m σ2 H2 hW => ?_⟩
  obtain ⟨hm, F2, S2, hR2, x2, hw2⟩ := hW
  obtain ⟨go, stop⟩ := fd F2 H2 x2 hR2.g.ext
  by_cases hi : i < ds.length
  · have hd : ds[i]? = some ds[i] := List.getElem?_eq_getElem hi
    obtain ⟨h1, h2⟩ := go i _ hd
    rw [List.drop_eq_getElem_cons hi] at hw2
    refine .inr ⟨h1, fun σ' H' => ∃ F3 S3, Rel X.K E F3 H' σ' S3 ∧ Ext F1 F3 ∧ wForL g tb R (ds.drop (i + 1)) S3, fun σ' H' hN => ⟨m - 1, by omega, by omega, hN⟩, fun x H3 hy => ?_⟩
    obtain ⟨F3, al, rx⟩ := h2 x H3 hy
    refine ⟨S2, F3, _, _, hR2.al al, rx, hw2, fun S4 σ4 F4 H4 hw4 hR4 x4 => ?_⟩
    have x14 : Ext F1 F4 := (x2.trans al.xF).trans x4
    refine ⟨S4, F4, _, hR4, hw4, fun S' σ' F' H' q r x => ⟨F', S', r, x14.trans x, q⟩, fun S' σ' F' H' q r x => k1 S' σ' F' H' q r ((x1.trans x14).trans x), fun S' σ' F' H' q r x => ⟨F', S', r, x14.trans x, q⟩, fun d S' v σ' F' H' q r r' x => k4 d S' v σ' F' H' q r r' ((x1.trans x14).trans x)⟩
  · refine .inl ⟨stop i (by omega), ?_⟩
    rw [List.drop_eq_nil_of_le (by omega)] at hw2
    exact k1 S2 σ2 F2 H2 hw2 hR2 (x1.trans x2)
theorem ds_while (hp : PassesOwn (model X.prog X.w) X.A X.env X.xe) (hc : DT X c wt) (hb : DSs X body tb) : DS X (.While c body [] pos) (wWhile wt tb) := fun E => PS.imp (ps_while hp (hc E) (hb E)) fun D σ H => by
  rintro ⟨S, F, R, hR, ⟨n, hw⟩, k1, k2, k3, k4⟩
  refine ⟨fun m σ H => ∃ F2 S2, Rel X.K E F2 H σ S2 ∧ Ext F F2 ∧ wWhN wt tb R m S2, ⟨n, F, S, hR, .refl _, hw⟩, fun m σ2 H2 hW => ?_⟩
  obtain ⟨F2, S2, hR2, x2, hw2⟩ := hW
  cases m with
  | zero => exact (whn_no hw2).elim
  | succ m =>
    refine ⟨S2, F2, _, hR2, whn_out hw2, fun b S3 F3 H3 hw3 hR3 x3 => ?_⟩
    cases b with
    | true =>
      refine ⟨fun σ' H' => ∃ F4 S4, Rel X.K E F4 H' σ' S4 ∧ Ext F F4 ∧ wWhN wt tb R m S4, fun σ' H' hN => ⟨m, Nat.lt_succ_self m, hN⟩, ?_⟩
      have x13 : Ext F F3 := x2.trans x3
      exact ⟨S3, F3, _, hR3, br_t hw3, fun S' σ' F' H' q r x => ⟨F', S', r, x13.trans x, q⟩, fun S' σ' F' H' q r x => k1 S' σ' F' H' q r (x13.trans x), fun S' σ' F' H' q r x => ⟨F', S', r, x13.trans x, q⟩, fun d S' v σ' F' H' q r r' x => k4 d S' v σ' F' H' q r r' (x13.trans x)⟩
    | false => exact k1 S3 σ2 F3 H3 (br_f hw3) hR3 (x2.trans x3)
end

end VL

set_option Elab.async false
set_option linter.all false
set_option maxRecDepth 100000
set_option maxHeartbeats 4000000
/-! VL6: comprehensions, calls of defs, defs. -/
namespace VL
open PySem PySem.Spec L2
/-! ### comprehensions -/
def wipeS (s : List Sl) : List Nat → List Sl
  | [] => s
  | v :: vs => (wipeS s vs).set v .u
def noOwn (s : List Sl) (vs : List Nat) : Bool := vs.all fun v => match s[v]? with
  | some (.o _) => false
  | _ => true
def wYes : WT := fun S R => R true S
def wLcL (g : WG) (tt : WT) (te : WE) (vs : List Nat) (s0 : List Sl) (R : List D → Oh → Prop) : List D → Oh → List D → Prop
  | [], h, acc => R acc h
  | x :: xs, h, acc => g x ⟨wipeS s0 vs, h⟩ fun S1 => tt S1 fun b S2 => Br b
      (te S2 fun d S3 => wipeS S3.s vs = wipeS s0 vs ∧ wLcL g tt te vs s0 R xs S3.h (acc ++ [d])) (wipeS S2.s vs = wipeS s0 vs ∧ wLcL g tt te vs s0 R xs S2.h acc)
def wLc (wi : WA) (g : WG) (tt : WT) (te : WE) (vs : List Nat) : WE := fun S R => wi S fun ds S1 => noOwn S1.s vs = true ∧ ds.length ≤ 1000000 ∧ wLcL g tt te vs S1.s (fun acc h => R (.lst acc) ⟨S1.s, h⟩) ds S1.h []
theorem wipe_get {σ : L2.St} {vs : List Nat} {i : Nat} (h : i ∉ vs) : (wipe σ vs)[i]? = σ[i]? := by
  induction vs with
  | nil => rfl
  | cons v vs ih =>
    have h1 : v ≠ i := fun z => h (by rw [z]; exact List.mem_cons_self)
    show ((wipe σ vs).set v none)[i]? = _
    rw [List.getElem?_set_ne h1]
    exact ih fun z => h (List.mem_cons_of_mem _ z)
theorem wipeS_get {s : List Sl} {vs : List Nat} {i : Nat} (h : i ∉ vs) : (wipeS s vs)[i]? = s[i]? := by
  induction vs with
  | nil => rfl
  | cons v vs ih =>
    have h1 : v ≠ i := fun z => h (by rw [z]; exact List.mem_cons_self)
    show ((wipeS s vs).set v .u)[i]? = _
    rw [List.getElem?_set_ne h1]
    exact ih fun z => h (List.mem_cons_of_mem _ z)
theorem wipeS_len (s : List Sl) : ∀ vs, (wipeS s vs).length = s.length
  | [] => rfl
  | v :: vs => by
    show ((wipeS s vs).set v .u).length = _
    rw [List.length_set, wipeS_len s vs]
theorem wipeS_in {s : List Sl} {vs : List Nat} {i : Nat} {x : Sl} (h : i ∈ vs) (e : (wipeS s vs)[i]? = some x) : x = .u := by
  induction vs with
  | nil => cases h
  | cons v vs ih =>
    have e' : ((wipeS s vs).set v .u)[i]? = some x := e
    rcases set_get e' with ⟨_, q, _⟩ | ⟨n, q⟩
    · exact q.symm
    · rcases List.mem_cons.mp h with z | z
      · exact absurd z n
      · exact ih z q
theorem wipe_in {σ : L2.St} {vs : List Nat} {i : Nat} {x : V} (h : i ∈ vs) : (wipe σ vs)[i]? ≠ some (some x) := fun e => (wipe_some e).2 h
theorem wipe_set {σ : L2.St} {vs : List Nat} {i : Nat} {x : Option V} (h : i ∈ vs) : wipe (σ.set i x) vs = wipe σ vs := by
  induction vs with
  | nil => cases h
  | cons v vs ih =>
    show (wipe (σ.set i x) vs).set v none = (wipe σ vs).set v none
    by_cases e : i = v
    · subst e
      by_cases hi : i ∈ vs
      · rw [ih hi]
      · apply List.ext_getElem?
        intro j
        by_cases hj : j = i
        · subst hj
          by_cases hl : j < σ.length
          · rw [List.getElem?_set_self (by rw [wipe_length, List.length_set]; exact hl), List.getElem?_set_self (by rw [wipe_length]; exact hl)]
          · rw [List.getElem?_eq_none (by rw [List.length_set, wipe_length, List.length_set]; omega), List.getElem?_eq_none (by rw [List.length_set, wipe_length]; omega)]
        · rw [List.getElem?_set_ne (Ne.symm hj), List.getElem?_set_ne (Ne.symm hj)]
          by_cases hv : j ∈ vs
          · have key : ∀ (τ : L2.St) (vs : List Nat), j ∈ vs → (wipe τ vs)[j]? = if j < τ.length then some none else none := by
              intro τ vs
              induction vs with
              | nil => intro h; cases h
              | cons u us ihu =>
                intro h
                show ((wipe τ us).set u none)[j]? = _
                by_cases hju : j = u
                · subst hju
                  by_cases hl : j < τ.length
                  · rw [List.getElem?_set_self (by rw [wipe_length]; exact hl), if_pos hl]
                  · rw [List.getElem?_eq_none (by rw [List.length_set, wipe_length]; omega), if_neg hl]
                · rw [List.getElem?_set_ne (Ne.symm hju)]
                  exact ihu ((List.mem_cons.mp h).resolve_left hju)
            rw [key _ _ hv, key _ _ hv, List.length_set]
          · rw [wipe_get hv, wipe_get hv, List.getElem?_set_ne (Ne.symm hj)]
    · rw [ih ((List.mem_cons.mp h).resolve_left e)]
theorem wipe_wipe {σ : L2.St} : ∀ {vs us : List Nat}, (∀ v ∈ vs, v ∈ us) → wipe (wipe σ vs) us = wipe σ us
  | [], _, _ => rfl
  | v :: vs, us, h => by
    show wipe ((wipe σ vs).set v none) us = _
    rw [wipe_set (h v List.mem_cons_self)]
    exact wipe_wipe fun x hx => h x (List.mem_cons_of_mem _ hx)
section
variable {X : Cx} {K : PySem.W.Frag} {E : En} {F F' F2 H H' H2 : Hp} {σ σ' : L2.St} {S : Sg} {p : Addr} {o : HO} {d : D} {v : V} {i : Nat} {vs : List Nat}
/-- within a block: its own names are unset -/
theorem Rel.wipe (R : Rel K E F H σ S) (vs : List Nat) : Rel K E F H (wipe σ vs) ⟨wipeS S.s vs, S.h⟩ := by
  have at_ : ∀ (i : Nat) (x : Sl), x ≠ .u → (wipeS S.s vs)[i]? = some x → S.s[i]? = some x ∧ i ∉ vs := fun i x nu h => by
    by_cases hi : i ∈ vs
    · exact absurd (wipeS_in hi h) nu
    · rw [wipeS_get hi] at h
      exact ⟨h, hi⟩
  refine ⟨R.g, by show (wipeS S.s vs).length = _; rw [wipeS_len, wipe_length]; exact R.len, fun i d h => ?_, fun i d h => ?_, fun i j d e p h1 h2 h3 h4 => ?_⟩
  · obtain ⟨h, hi⟩ := at_ i (.f d) (fun z => nomatch z) h
    rw [wipe_get hi]
    exact R.frz i d h
  · obtain ⟨h, hi⟩ := at_ i (.o d) (fun z => nomatch z) h
    rw [wipe_get hi]
    exact R.own i d h
  · obtain ⟨h1, i1⟩ := at_ i (.o d) (fun z => nomatch z) h1
    obtain ⟨h2, i2⟩ := at_ j (.o e) (fun z => nomatch z) h2
    rw [wipe_get i1] at h3
    rw [wipe_get i2] at h4
    exact R.inj i j d e p h1 h2 h3 h4
/-- behind a block's turn -/
theorem Rel.back {S3 : Sg} (R : Rel K E F H σ S) (ho : noOwn S.s vs = true) (hs : wipeS S3.s vs = wipeS S.s vs) (hσ : L2.wipe σ' vs = L2.wipe σ vs)
    (xF : Ext F F') (R3 : Rel K ⟨F2, H2, S.h, owns (L2.wipe σ vs) ⟨wipeS S.s vs, S.h⟩⟩ F' H' σ' S3) (gr : Gr K E F2 H2 S.h) : Rel K E F' H' σ ⟨S.s, S3.h⟩ := by
  have eqs : ∀ i, i ∉ vs → S3.s[i]? = S.s[i]? := fun i hi => by
    have := congrArg (fun l : List Sl => l[i]?) hs
    simp only [wipeS_get hi] at this
    exact this
  have eqσ : ∀ i, i ∉ vs → σ'[i]? = σ[i]? := fun i hi => by
    have := congrArg (fun l : L2.St => l[i]?) hσ
    simp only [wipe_get hi] at this
    exact this
  have now : ∀ (i : Nat) (d : D), S.s[i]? = some (.o d) → i ∉ vs := fun i d h hi => by
    have := List.all_eq_true.mp ho i hi
    rw [h] at this
    cases this
  refine ⟨Gr.then gr (fun p hp => ?_) R3.g, R.len, fun i d h => ?_, fun i d h => ?_, R.inj⟩
  · obtain ⟨j, e, h1, h2⟩ := hp
    have hj : j ∉ vs := fun z => by
      have := wipeS_in z h1
      cases this
    have h1' : S.s[j]? = some (.o e) := by rw [← wipeS_get hj]; exact h1
    have h2' : σ[j]? = some (some (.ref p)) := by rw [← wipe_get hj]; exact h2
    exact R.ownE ⟨j, e, h1', h2'⟩
  · by_cases hi : i ∈ vs
    · obtain ⟨v, h1, h2⟩ := R.frz i d h
      exact ⟨v, h1, h2.mono xF⟩
    · obtain ⟨v, h1, h2⟩ := R3.frz i d (by rw [eqs i hi]; exact h)
      rw [eqσ i hi] at h1
      exact ⟨v, h1, h2⟩
  · have hi := now i d h
    obtain ⟨q, h1, h2, h3, h4, _⟩ := R3.own i d (by rw [eqs i hi]; exact h)
    rw [eqσ i hi] at h1
    exact ⟨q, h1, h2, h3, h4, R.ownE ⟨i, d, h, h1⟩⟩
/-- a fresh container changes -/
theorem Rel.mutN {e : D} (R : Rel K E F H σ S) (f : Fresh K E F H σ S p d) (ha : OwAt K F (upd H p o) p e) : Rel K E F (upd H p o) σ S ∧ Fresh K E F (upd H p o) σ S p e := by
  have ne : ∀ b, F b ≠ none → b ≠ p := fun b hb z => hb (z ▸ f.nF)
  refine ⟨⟨⟨fun b u q => ?_, R.g.gF, R.g.gN, fun b u q1 q2 q3 => ?_, fun b q => ?_, R.g.gO, fun a ob q => ?_⟩, R.len, R.frz, fun j e' h => ?_, R.inj⟩, ⟨ha, f.nF, f.nh, f.nE, f.no⟩⟩
  · rw [upd_ne (ne b (by rw [q]; simp))]; exact R.g.ext _ _ q
  · have : b ≠ p := fun z => by rw [z, f.nE] at q1; cases q1
    rw [upd_ne this]; exact R.g.gH b u q1 q2 q3
  · by_cases hb : b = p
    · subst hb; rw [upd_same]; simp
    · rw [upd_ne hb]; exact R.g.gP b q
  · obtain ⟨q1, q2⟩ := R.g.obs a ob q
    have na : a ≠ p := fun z => by rw [z, f.nh] at q; cases q
    exact ⟨q1.mono (.refl _) (upd_ne na), q2⟩
  · obtain ⟨u, q1, q2, q3, q4, q5⟩ := R.own j e' h
    have nu : u ≠ p := fun z => f.no j e' h (z ▸ q1)
    exact ⟨u, q1, q2.mono (.refl _) (upd_ne nu), q3, q4, q5⟩
/-- a target of plain names of a block -/
def TgN (K : PySem.W.Frag) (gt : TG) (g : WG) (vs : List Nat) : Prop := ∀ (E : En) (v : V) (σ : L2.St) (S : Sg) (F H : Hp) (d : D) (R : Sg → Prop) (Q : L2.St → Hp → Prop), Rel K E F H σ S → Rep K F v d → g d S R →
  (∀ σ' S', Rel K E F H σ' S' → L2.wipe σ' vs = L2.wipe σ vs → R S' → Q σ' H) → gt v σ H Q
theorem tg_one (hi : i ∈ vs) : TgN K (L2.gName i) (gVar i) vs := fun E v σ S F H d R Q hR r hg k => k _ _ (hR.set r) (wipe_set hi) hg
def namesG : List Nat → TGs
  | [] => gNil
  | i :: is => gCons (L2.gName i) (namesG is)
def namesW : List Nat → WGs
  | [] => gsNil
  | i :: is => gsCons (gVar i) (namesW is)
theorem tg_names : ∀ (is : List Nat), (∀ i ∈ is, i ∈ vs) → ∀ (E : En) (us : List V) (σ : L2.St) (S : Sg) (F H : Hp) (ds : List D) (R : Sg → Prop) (Q : L2.St → Hp → Prop), Rel K E F H σ S → Reps K F us ds → namesW is ds S R →
    (∀ σ' S', Rel K E F H σ' S' → L2.wipe σ' vs = L2.wipe σ vs → R S' → Q σ' H) → namesG is us σ H Q
  | [], _, E, us, σ, S, F, H, ds, R, Q, hR, r, hg, k => by
    cases r with
    | nil => exact ⟨rfl, k σ S hR rfl hg⟩
    | cons => exact hg.elim
  | i :: is, hi, E, us, σ, S, F, H, ds, R, Q, hR, r, hg, k => by
    cases r with
    | nil => exact hg.elim
    | cons r1 r2 =>
      refine ⟨_, _, rfl, ?_⟩
      exact tg_names is (fun j hj => hi j (List.mem_cons_of_mem _ hj)) E _ _ _ F H _ R Q (hR.set r1) r2 hg fun σ' S' hR' hw hr => k σ' S' hR' (hw.trans (wipe_set (hi i List.mem_cons_self))) hr
theorem tg_tup {n : Nat} (is : List Nat) (hi : ∀ i ∈ is, i ∈ vs) : TgN K (gTup K n (namesG is)) (gTp n (namesW is)) vs := fun E v σ S F H d R Q hR r hg k => by
  cases r with
  | tup q s => exact ⟨_, _, rfl, hR.g.ext.sqT q, s.length.trans hg.1, tg_names is hi E _ σ S F H _ R Q hR s hg.2 k⟩
  | _ => exact hg.elim
def LTx (K : PySem.W.Frag) (w : WT) : TT := fun σ H Q => ∃ E, LT K E w σ H Q
def LEx (K : PySem.W.Frag) (w : WE) : TE := fun σ H Q => ∃ E, LE K E w σ H Q
theorem pt_x {a : Expr} {w : WT} (h : DT X a w) : PT X a (LTx X.K w) := ⟨fun pins s σ H Q I q => let ⟨E, q⟩ := q; (h E).run pins s σ H Q I q⟩
theorem pe_x {a : Expr} {w : WE} (h : DE X a w) : PE X a (LEx X.K w) := ⟨fun pins s σ H Q I q => let ⟨E, q⟩ := q; (h E).run pins s σ H Q I q⟩
theorem pts_x0 : PTs X [] (LTx X.K wYes) := ⟨fun pins s σ H Q I q => by
  obtain ⟨E, S, F, R, hR, hw, k⟩ := q
  exact pts_nil.run pins s σ H Q I (k true S F H hw hR (.refl _))⟩
theorem pts_x1 {a : Expr} {w : WT} (h : DT X a w) : PTs X [a] (LTx X.K w) := pts_one (pt_x h)
theorem lc_read {wi : WA} {gt : TG} {g : WG} {tt : WT} {te : WE} {Q : VK} (ht : TgN K gt g vs) (hq : LN K E (wLc wi g tt te vs) σ H Q) : tLc (LI K E wi) gt (LTx K tt) (LEx K te) vs σ H Q := by
  obtain ⟨S, F, R, hR, hw, k⟩ := hq
  refine ⟨S, F, _, hR, hw, fun ds S1 J F1 H1 hw1 fd hR1 x1 D0 hD => ?_⟩
  obtain ⟨no, hl, hw1⟩ := hw1
  obtain ⟨f0, hR1'⟩ := fresh_of hR1 hD (K := K) (E := E) (F := F1) (vs := []) (ds := []) .nil
  refine ⟨fun i m H => m + i = ds.length ∧ ∃ F2 h2 acc, Rel K E F2 H σ ⟨S1.s, h2⟩ ∧ Ext F1 F2 ∧ Fresh K E F2 H σ ⟨S1.s, h2⟩ D0 (.lst acc) ∧ acc.length ≤ i ∧ wLcL g tt te vs S1.s (fun acc h => R (.lst acc) ⟨S1.s, h⟩) (ds.drop i) h2 acc,
    ⟨ds.length, rfl, F1, S1.h, [], hR1', .refl _, f0, Nat.le_refl _, hw1⟩, fun i m H2 hW => ?_⟩
  obtain ⟨hm, F2, h2, acc, hR2, x2, f2, la, hw2⟩ := hW
  obtain ⟨go, stop⟩ := fd F2 H2 x2 hR2.g.ext
  by_cases hi : i < ds.length
  · have hd : ds[i]? = some ds[i] := List.getElem?_eq_getElem hi
    obtain ⟨g1, g2⟩ := go i _ hd
    rw [List.drop_eq_getElem_cons hi] at hw2
    refine .inr ⟨g1, fun H' => ∃ F3 h3 acc', Rel K E F3 H' σ ⟨S1.s, h3⟩ ∧ Ext F1 F3 ∧ Fresh K E F3 H' σ ⟨S1.s, h3⟩ D0 (.lst acc') ∧ acc'.length ≤ i + 1 ∧ wLcL g tt te vs S1.s (fun acc h => R (.lst acc) ⟨S1.s, h⟩) (ds.drop (i + 1)) h3 acc', fun H' hN => ⟨m - 1, by omega, by omega, hN⟩, fun x H3 hy => ?_⟩
    obtain ⟨F3, al, rx⟩ := g2 x H3 hy
    have hR3 := hR2.al al
    have hRw := (hR3.wipe vs).enter
    refine ht _ x (L2.wipe σ vs) _ F3 H3 _ _ _ hRw rx hw2 fun σ4 S4 hR4 hσ4 hw4 => ?_
    have hσ4' : L2.wipe σ4 vs = L2.wipe σ vs := hσ4.trans (wipe_wipe fun _ h => h)
    refine ⟨hσ4', _, S4, F3, _, hR4, hw4, fun b S5 F5 H5 hw5 hR5 x5 => ?_⟩
    have nown : ¬ owns (L2.wipe σ vs) ⟨wipeS S1.s vs, h2⟩ D0 := fun ⟨j, e, q1, q2⟩ => by
      have hj : j ∉ vs := fun z => by cases wipeS_in z q1
      have q1' : (wipeS S1.s vs)[j]? = some (.o e) := q1
      rw [wipeS_get hj] at q1'
      rw [wipe_get hj] at q2
      exact f2.no j e q1' q2
    have hD3 : ∃ u, H3 D0 = some u := Option.ne_none_iff_exists'.mp (by rw [al.xH.ne f2.at_.there]; exact f2.at_.there)
    obtain ⟨u, hu⟩ := hD3
    have fin : ∀ F6 H6 S6, Rel K ⟨F3, H3, h2, owns (L2.wipe σ vs) ⟨wipeS S1.s vs, h2⟩⟩ F6 H6 σ4 S6 → Ext F3 F6 → wipeS S6.s vs = wipeS S1.s vs → Rel K E F6 H6 σ ⟨S1.s, S6.h⟩ ∧ Fresh K E F6 H6 σ ⟨S1.s, S6.h⟩ D0 (.lst acc) := fun F6 H6 S6 hR6 x6 hs6 => by
      have hR7 := hR3.back (S3 := S6) no hs6 hσ4' x6 hR6 hR3.g
      have e6 : H6 D0 = some u := hR6.g.gH D0 u hu f2.nh nown
      have n6 : F6 D0 = none := hR6.g.gN D0 (al.new D0 f2.nF f2.at_.there) (by show H3 D0 ≠ none; rw [hu]; simp) nown
      have h6 : S6.h D0 = none := by
        cases q : S6.h D0 with
        | none => rfl
        | some y =>
          rcases hR6.g.gO D0 (by rw [q]; simp) with z | z
          · exact absurd f2.nh z
          · have z' : H3 D0 = none := z
            rw [hu] at z'; cases z'
      exact ⟨hR7, f2.at_.mono (al.xF.trans x6) (by rw [e6, ← hu]; exact al.xH.ne f2.at_.there), n6, h6, f2.nE, f2.no⟩
    cases b with
    | true =>
      refine L2.iteT ?_
      refine ⟨_, S5, F5, _, hR5, br_t hw5, fun d S6 y F6 H6 hw6 r6 hR6 x6 => ?_⟩
      obtain ⟨hs6, hw6⟩ := hw6
      obtain ⟨hR7, f7⟩ := fin F6 H6 S6 hR6 (x5.trans x6) hs6
      obtain ⟨avs, ea, ra⟩ := f7.at_
      refine ⟨avs, ea, ?_, ?_⟩
      · have := ra.length
        have hz : (1000000 : Nat) < sizeLine := by decide
        omega
      · obtain ⟨hR8, f8⟩ := hR7.mutN (o := .lst (avs ++ [y])) (e := .lst (acc ++ [d])) f7 ⟨_, upd_same, ra.append (.one r6)⟩
        exact ⟨F6, S6.h, _, hR8, ((x2.trans al.xF).trans x5).trans x6, f8, by rw [List.length_append]; exact Nat.succ_le_succ la, hw6⟩
    | false =>
      refine L2.iteF ?_
      obtain ⟨hs6, hw6⟩ := br_f hw5
      obtain ⟨hR7, f7⟩ := fin F5 H5 S5 hR5 x5 hs6
      exact ⟨F5, S5.h, acc, hR7, (x2.trans al.xF).trans x5, f7, Nat.le_succ_of_le la, hw6⟩
  · refine .inl ⟨stop i (by omega), ?_⟩
    rw [List.drop_eq_nil_of_le (by omega)] at hw2
    exact k _ _ D0 F2 H2 hw2 f2 hR2 (x1.trans x2)
theorem dn_lc {gt : TG} {elt tg iter : Expr} {ifs : List Expr} {scope : Scope} {own : List (Str × Nat)} {pos : Pos} {wi : WA} {g : WG} {tt : WT} {te : WE} (hc : X.calm = true) (hN : X.N.Nodup) (hi : DI X tg iter wi) (ok : BlkOk X.N X.env.scope scope own)
    (hT : TgN X.K gt g (own.map (·.2)))
    (hg : ∀ (s : Shared) (H : Hp) (C : Addr) (cl : List (Str × Addr)) (fp : List Addr), PG (X.blk s H scope (compEnvC scope cl C X.env) fp) tg gt) (ht : ∀ (s : Shared) (H : Hp) (C : Addr) (cl : List (Str × Addr)) (fp : List Addr), PTs (X.blk s H scope (compEnvC scope cl C X.env) fp) ifs (LTx X.K tt))
    (he : ∀ (s : Shared) (H : Hp) (C : Addr) (cl : List (Str × Addr)) (fp : List Addr), DE (X.blk s H scope (compEnvC scope cl C X.env) fp) elt te) (hs : ∀ x, foldedSetIterable iter X.env x = pure x := by intro _; rfl) :
    DN X (.ListComp elt [⟨tg, iter, ifs, 0⟩] scope pos) (wLc wi g tt te (own.map (·.2))) := fun E => PE.imp (pe_lc hc hN (hi E) ok hg ht (fun s H C cl fp => pe_x (he s H C cl fp)) hs) fun σ H Q => lc_read hT
/-- y = [..] on one line, y a local -/
theorem ds_setLc {gt : TG} {i : Nat} {y : Str} {py : Pos} {elt tg iter : Expr} {ifs : List Expr} {scope : Scope} {own : List (Str × Nat)} {pos spos : Pos} {wi : WA} {g : WG} {tt : WT} {te : WE} (hc : X.calm = true) (hN : X.N.Nodup) (hy : X.N[i]? = some y) (hyl : X.env.scope.names.lookup y = some .local)
    (hsw : swapsWith (.ListComp elt [⟨tg, iter, ifs, 0⟩] scope pos) (some (.Name y py)) spos.line X.env = pure true) (hi : DI X tg iter wi) (ok : BlkOk X.N X.env.scope scope own)
    (hT : TgN X.K gt g (own.map (·.2)))
    (hg : ∀ (s : Shared) (H : Hp) (C : Addr) (cl : List (Str × Addr)) (fp : List Addr), PG (X.blk s H scope (compEnvC scope cl C X.env) fp) tg gt) (ht : ∀ (s : Shared) (H : Hp) (C : Addr) (cl : List (Str × Addr)) (fp : List Addr), PTs (X.blk s H scope (compEnvC scope cl C X.env) fp) ifs (LTx X.K tt))
    (he : ∀ (s : Shared) (H : Hp) (C : Addr) (cl : List (Str × Addr)) (fp : List Addr), DE (X.blk s H scope (compEnvC scope cl C X.env) fp) elt te) (hs : ∀ x, foldedSetIterable iter X.env x = pure x := by intro _; rfl) :
    DS X (.Assign [.Name y py] (.ListComp elt [⟨tg, iter, ifs, 0⟩] scope pos) spos) (wSetO i (wLc wi g tt te (own.map (·.2)))) := fun E => PS.imp (ps_setLc hc hN hy hyl hsw (hi E) ok hg ht (fun s H C cl fp => pe_x (he s H C cl fp)) hs) fun D σ H => by
  rintro ⟨S, F, R, hR, hw, k1, k2, k3, k4⟩
  refine lc_read (E := E) hT ⟨S, F, _, hR, hw, fun d S1 q F1 H1 hw1 f hR1 x1 => ?_⟩
  exact k1 _ _ F1 H1 hw1 (hR1.setO f) x1
/-- .. frozen at once -/
theorem ds_setLcF {gt : TG} {i : Nat} {y : Str} {py : Pos} {elt tg iter : Expr} {ifs : List Expr} {scope : Scope} {own : List (Str × Nat)} {pos spos : Pos} {wi : WA} {g : WG} {tt : WT} {te : WE} (hc : X.calm = true) (hN : X.N.Nodup) (hy : X.N[i]? = some y) (hyl : X.env.scope.names.lookup y = some .local)
    (hsw : swapsWith (.ListComp elt [⟨tg, iter, ifs, 0⟩] scope pos) (some (.Name y py)) spos.line X.env = pure true) (hi : DI X tg iter wi) (ok : BlkOk X.N X.env.scope scope own)
    (hT : TgN X.K gt g (own.map (·.2)))
    (hg : ∀ (s : Shared) (H : Hp) (C : Addr) (cl : List (Str × Addr)) (fp : List Addr), PG (X.blk s H scope (compEnvC scope cl C X.env) fp) tg gt) (ht : ∀ (s : Shared) (H : Hp) (C : Addr) (cl : List (Str × Addr)) (fp : List Addr), PTs (X.blk s H scope (compEnvC scope cl C X.env) fp) ifs (LTx X.K tt))
    (he : ∀ (s : Shared) (H : Hp) (C : Addr) (cl : List (Str × Addr)) (fp : List Addr), DE (X.blk s H scope (compEnvC scope cl C X.env) fp) elt te) (hs : ∀ x, foldedSetIterable iter X.env x = pure x := by intro _; rfl) :
    DS X (.Assign [.Name y py] (.ListComp elt [⟨tg, iter, ifs, 0⟩] scope pos) spos) (wAsg (wLc wi g tt te (own.map (·.2))) (gVar i)) := fun E => PS.imp (ps_setLc hc hN hy hyl hsw (hi E) ok hg ht (fun s H C cl fp => pe_x (he s H C cl fp)) hs) fun D σ H => by
  rintro ⟨S, F, R, hR, hw, k1, k2, k3, k4⟩
  refine lc_read (E := E) hT ⟨S, F, _, hR, hw, fun d S1 q F1 H1 hw1 f hR1 x1 => ?_⟩
  obtain ⟨o, ho⟩ := Option.ne_none_iff_exists'.mp f.at_.there
  exact k1 _ _ _ H1 hw1 ((hR1.freezeN f ho).set (f.at_.rep ho f.nF)) (x1.trans (.new f.nF))
end

/-! ### defs and their calls -/
def NX : XC := fun _ _ _ => False
/-- a promise about data, as a promise about values -/
def spOf (K : PySem.W.Frag) (n : Nat) (sp : Spc) : Sp := fun vs H Q _ => ∃ F ds h R, ds.length = n ∧ Ext F H ∧ Reps K F vs ds ∧ (∀ a ob, h a = some ob → ObAt K F H a ob ∧ F a = none) ∧ sp ds h R NX ∧
  ∀ r h' v F' H', R r h' → Rep K F' v r → Gr K ⟨F, H, h, fun _ => False⟩ F' H' h' → Q v H'
def wCall (sp : Spc) (ws : WA) : WE := fun S R => ws S fun ds S1 => sp ds S1.h (fun r h' => R r ⟨S1.s, h'⟩) NX
theorem Rel.after {K : PySem.W.Frag} {E : En} {F F' H H' : Hp} {σ : L2.St} {S : Sg} {h' : Oh} (R : Rel K E F H σ S) (g : Gr K ⟨F, H, S.h, fun _ => False⟩ F' H' h') : Rel K E F' H' σ ⟨S.s, h'⟩ := by
  refine ⟨R.g.then (fun p hp => hp.elim) g, R.len, fun i d h => ?_, fun i d h => ?_, R.inj⟩
  · obtain ⟨v, h1, h2⟩ := R.frz i d h
    exact ⟨v, h1, h2.mono g.gF⟩
  · obtain ⟨p, h1, h2, h3, h4, h5⟩ := R.own i d h
    obtain ⟨u, hu⟩ := Option.ne_none_iff_exists'.mp h2.there
    have e : H' p = some u := g.gH p u hu h4 id
    refine ⟨p, h1, h2.mono g.gF (by rw [e, hu]), g.gN p h3 h2.there id, ?_, h5⟩
    show h' p = none
    cases q : h' p with
    | none => rfl
    | some y =>
      rcases g.gO p (by rw [q]; simp) with z | z
      · exact absurd h4 z
      · have z' : H p = none := z
        rw [hu] at z'; cases z'
section
variable {X : Cx} {k n : Nat} {f : Addr} {fd : FuncData} {ps : List Str} {spc : Spc} {x : Str} {p pos : Pos} {e : Expr} {es : List Expr} {ws : WA}
theorem de_call (F : FnOk X.prog X.w X.K X.mg X.base CX0 k f fd ps (spOf X.K n spc)) (hr : Room k X.A) (hg : Gl X x) (hm : X.mg x = some (.ref f)) (hk : PySem.W.keepIn X.K (.ref f) = true) (hb : Binds X.K fd ps []) (ha : DA X (e :: es) n ws)
    (hdb : (x == ("__debug__" : Str)) = false := by decide) (he : starEach (e :: es) X.env = (false, eval e X.env) :: starEach es X.env := by rfl) (hpl : (backTo pos (starEach es X.env)).any (·.1) = false := by rfl) :
    DE X (.Call (.Name x p) (e :: es) [] pos) (wCall spc ws) := fun E => PE.imp (pe_call F hr hg hm hk hb .nil pass0 (ha E) hdb he hpl) fun σ H Q => by
  rintro ⟨S, F, R, hR, hw, k⟩
  refine ⟨S, F, _, hR, hw, fun ds S1 vs F1 H1 hw1 l1 r1 hR1 x1 => ?_⟩
  show spOf X.K n spc (vs ++ []) H1 Q E0
  rw [List.append_nil]
  exact ⟨F1, ds, S1.h, _, l1, hR1.g.ext, r1, hR1.g.obs, hw1, fun r h' v F' H' hr rv g => k r _ v F' H' hr rv (hR1.after g) (x1.trans g.gF)⟩
theorem de_call0 (F : FnOk X.prog X.w X.K X.mg X.base CX0 k f fd ps (spOf X.K 0 spc)) (hr : Room k X.A) (hg : Gl X x) (hm : X.mg x = some (.ref f)) (hk : PySem.W.keepIn X.K (.ref f) = true) (hb : Binds X.K fd ps [])
    (hdb : (x == ("__debug__" : Str)) = false := by decide) : DE X (.Call (.Name x p) [] [] pos) (wCall spc wNil) := fun E => PE.imp (pe_call0 F hr hg hm hk hb .nil pass0 hdb) fun σ H Q => by
  rintro ⟨S, F, R, hR, hw, k⟩
  exact ⟨F, [], S.h, _, rfl, hR.g.ext, .nil, hR.g.obs, hw, fun r h' v F' H' hr rv g => k r _ v F' H' hr rv (hR.after g) g.gF⟩
end
theorem start_get {N : List Str} {vs : List V} {i : Nat} {v : V} (h : vs[i]? = some v) : (L2.start N vs)[i]? = some (some v) := by
  unfold L2.start
  have hl : i < (vs.map some).length := by rw [List.length_map]; exact ix_lt h
  rw [List.getElem?_append_left hl, List.getElem?_map, h]
  rfl
/-- what is wanted behind a body -/
def Fi (R : D → Oh → Prop) : We := ⟨fun S => R .non S.h, fun d S => R d S.h, fun _ => False, fun _ => False⟩
/-- the body w keeps the promise sp: n arguments, u other names -/
def Pk (n u : Nat) (sp : Spc) (w : WS) : Prop := ∀ ds h R, ds.length = n → sp ds h R NX → w (Fi R) ⟨ds.map .f ++ List.replicate u .u, h⟩
/-- a def keeps a promise about data, by its body -/
theorem fn_ok {P : Program} {w : World} {K : PySem.W.Frag} {mg : Str → Option Value} {base : Heap} {x qual : Str} {st : Stmt} {f : Addr} {fd : FuncData} {N ps : List Str} {k n : Nat} {ws : WS} {spc : Spc} (F : Fun K x qual st f fd) (S : FnScope N ps (defScope st)) (hn : ps.length = n)
    (hb : ∀ (cdv : Value) (A : Around) (outer : List Env) (s : Shared) (H : Hp) (E : XK), Room k (A.deeper (PyProof.Rows.envOfC qual (defScope st) s.heap.objs.size f cdv)) → DSs (cxOf CX0 P w K mg base N qual (defScope st) f cdv A outer s H E).nox (defBody st) ws)
    (hw : Pk n (N.length - n) spc ws) : FnOk P w K mg base CX0 (k + 1) f fd ps (spOf K n spc) := by
  refine F.ok S (fun vs H Q E h => ?_) (fun cdv A outer s H vs Q E hr h => ?_)
  · obtain ⟨F, ds, h, R, h1, _, h2, _⟩ := h
    rw [h2.length, h1, hn]
  · obtain ⟨F, ds, h, R, h1, h2, h3, h4, h5, h6⟩ := h
    refine ⟨_, hb cdv A outer s H E hr ⟨F, H, h, fun _ => False⟩, _, F, _, ?_, hw ds h R h1 h5, fun S' σ' F' H' q r x => h6 _ _ _ F' H' q .non r.g, fun _ _ _ _ q => q.elim, fun _ _ _ _ q => q.elim, fun d S' v σ' F' H' q r' r x => h6 d _ v F' H' q r' r.g⟩
    have nof : ∀ (i : Nat) (d : D), (ds.map Sl.f ++ List.replicate (N.length - n) Sl.u)[i]? ≠ some (.o d) := fun i d e => by
      rcases Nat.lt_or_ge i (ds.map Sl.f).length with hl | hl
      · rw [List.getElem?_append_left hl, List.getElem?_map] at e
        cases q : ds[i]? with
        | none => rw [q] at e; cases e
        | some y => rw [q] at e; cases e
      · rw [List.getElem?_append_right hl] at e
        have := List.mem_of_getElem? e
        have := List.eq_of_mem_replicate this
        cases this
    refine ⟨⟨h2, .refl _, fun _ q _ _ => q, fun _ _ q _ _ => q, fun _ q => q, fun _ q => .inl q, h4⟩, ?_, fun i d e => ?_, fun i d e => absurd e (nof i d), fun i j d e p q => absurd q (nof i d)⟩
    · unfold L2.start
      rw [List.length_append, List.length_append, List.length_map, List.length_map, List.length_replicate, List.length_replicate, h3.length, h1]
    · rcases Nat.lt_or_ge i (ds.map Sl.f).length with hl | hl
      · rw [List.getElem?_append_left hl, List.getElem?_map] at e
        cases q : ds[i]? with
        | none => rw [q] at e; cases e
        | some y =>
          rw [q] at e
          cases e
          obtain ⟨v, q1, q2⟩ := h3.get q
          exact ⟨v, start_get q1, q2⟩
      · rw [List.getElem?_append_right hl] at e
        have := List.eq_of_mem_replicate (List.mem_of_getElem? e)
        cases this
end VL
namespace VL
open PySem PySem.Spec L2
/-- a def of the text as the top has left it -/
structure DefAt (K : PySem.W.Frag) (mg : Str → Option Value) (x : Str) (st : Stmt) (ps : List Str) (f : Addr) (fd : FuncData) : Prop where
  fn : Fun K x x st f fd
  bd : Binds K fd ps []
  gl : mg x = some (.ref f)
/-- a constant of the text -/
def Cst (K : PySem.W.Frag) (mg : Str → Option Value) (x : Str) (d : D) : Prop := ∃ v u, mg x = some u ∧ RelV v u ∧ ∀ F, Rep K F v d
theorem Cst.de {X : Cx} {x : Str} {d : D} {pos : Pos} (c : Cst X.K X.mg x d) (hg : Gl X x) (hd : (x == ("__debug__" : Str)) = false := by decide) : DE X (.Name x pos) (wC d) :=
  let ⟨_, _, h1, h2, h3⟩ := c
  de_glob hg h1 h2 h3 hd
theorem law_in {K : PySem.W.Frag} {H : Hp} {a : Addr} {ns : List Int} {sp : Spc} (hS : SqL K H a (ns.map V.int)) (h : sp [.scr ns] (fun _ => none) (fun d _ => d = .bl true) NX) : spOf K 1 sp [.ref a] H (fun v _ => v = .bl true) fun _ _ _ => False :=
  ⟨H, [.scr ns], fun _ => none, fun d _ => d = .bl true, rfl, .refl _, .cons (.scr hS) .nil, (fun _ _ q => nomatch q), h, fun r h' v F' H' hr rv _ => by
    subst hr
    cases rv
    rfl⟩
theorem rv_int {i : Int} {t : Tok} : RelV (.int i) (.int i t) := ⟨_, rfl⟩
theorem rv_str {i : Str} {t : Tok} : RelV (.str i) (.str i t) := ⟨_, rfl⟩
/-! ### fresh lists by operators -/
def opRep : O2
  | .lst xs, .int k, R => -(2 ^ 63) ≤ k ∧ k < 2 ^ 63 ∧ xs.length * k.toNat ≤ sizeLine ∧ R (.lst (List.replicate k.toNat xs).flatten)
  | _, _, _ => False
def opCat : O2
  | .lst xs, .lst ys, R => xs.length + ys.length ≤ sizeLine ∧ R (.lst (xs ++ ys))
  | _, _, _ => False
def rVN2 (K : PySem.W.Frag) (g : O2) : R2 := fun x y H Q => ∃ F d e R, Ext F H ∧ Rep K F x d ∧ Rep K F y e ∧ g d e R ∧ ∀ es vs p, R (.lst es) → Reps K F vs es → H p = none → Q (.ref p) (upd H p (.lst vs))
section
variable {X : Cx} {a b : Expr} {wa wb : WE} {pos : Pos}
theorem on_rep : OpR X (binaryOp .Mult) (rVN2 X.K opRep) := OpR.any fun x y H Q => by
  rintro ⟨F, d, e, R, hx, r1, r2, hg, k⟩
  cases r1 with
  | lst h1 s1 =>
    cases r2 with
    | int j =>
      have l1 := s1.length
      obtain ⟨q1, q2, q3, q4⟩ := hg
      rename_i a1 vs1 ds1
      exact ⟨_, op_rep, a1, j, vs1, rfl, rfl, hx _ _ h1, q1, q2, by rw [l1]; exact q3, fun p hp => k _ _ p q4 (s1.rep _) hp⟩
    | _ => exact hg.elim
  | _ => cases r2 <;> exact hg.elim
theorem on_cat : OpR X (binaryOp .Add) (rVN2 X.K opCat) := OpR.any fun x y H Q => by
  rintro ⟨F, d, e, R, hx, r1, r2, hg, k⟩
  cases r1 with
  | lst h1 s1 =>
    cases r2 with
    | lst h2 s2 =>
      have l1 := s1.length
      have l2 := s2.length
      have q1 := hg.1
      rename_i a1 vs1 ds1 a2 vs2 ds2
      exact ⟨_, op_cat, a1, a2, vs1, vs2, rfl, rfl, hx _ _ h1, hx _ _ h2, by omega, fun p hp => k _ _ p hg.2 (s1.append s2) hp⟩
    | _ => exact hg.elim
  | _ => cases r2 <;> exact hg.elim
theorem dn_op {op : Operator} {g : O2} (ho : OpR X (binaryOp op) (rVN2 X.K g)) (ha : DE X a wa) (hb : DE X b wb) : DN X (.BinOp a op b pos) (wOp g wa wb) := fun E => PE.imp (pe_op ho (ha E) (hb E)) fun σ H Q => by
  rintro ⟨S, F, R, hR, hw, k⟩
  refine ⟨S, F, _, hR, hw, fun x S1 v1 F1 H1 hw1 r1 hR1 x1 => ?_⟩
  refine ⟨S1, F1, _, hR1, hw1, fun y S2 v2 F2 H2 hw2 r2 hR2 x2 => ?_⟩
  refine ⟨F2, x, y, _, hR2.g.ext, r1.mono x2, r2, hw2, fun es vs p hz rz hp => ?_⟩
  obtain ⟨f, hR'⟩ := fresh_of hR2 hp rz
  exact k _ S2 p F2 _ hz f hR' (x1.trans x2)
end
end VL

set_option Elab.async false
set_option linter.all false
set_option maxRecDepth 100000
/-! VL7: x in data of any depth; zip of a tuple and a str. -/
namespace VL
open PySem PySem.Spec L2

theorem Room65 {k : Nat} {A : Around} (r : Room k A) : A.units + 65 < cLine := by have := r.un; omega

def rInDT (K : PySem.W.Frag) : R2 := fun x y H Q => ∃ d ds, Dp K H x d ∧ Dp K H y (.tuple ds) ∧ SeqAt.shaped d = true ∧ SeqAt.shaped (.tuple ds) = true ∧ Q (.bl (ds.any fun z => PyData.eqv z d)) H
def rNotInDT (K : PySem.W.Frag) : R2 := fun x y H Q => ∃ d ds, Dp K H x d ∧ Dp K H y (.tuple ds) ∧ SeqAt.shaped d = true ∧ SeqAt.shaped (.tuple ds) = true ∧ Q (.bl (!ds.any fun z => PyData.eqv z d)) H
section
variable {X : Cx}
theorem op_inDT (hu : X.A.units + 65 < cLine) : OpR X (compareOp .In) (rInDT X.K) := by
  intro pins s σ H x y v u Q I rx ry h
  obtain ⟨d, ds, hd, he, sd, se, q⟩ := h
  obtain ⟨as, r1⟩ := Dp.reads I d x v hd rx
  obtain ⟨bs, r2⟩ := Dp.reads I (.tuple ds) y u he ry
  exact SeqAt.in_tuple_reads r2 r1 (SeqAt.canLay_of_shaped se) (SeqAt.canLay_of_shaped sd) (PyProof.Rows.room_in_shaped sd hu) ⟨.bl _, H, I, rfl, q⟩
theorem op_notInDT (hu : X.A.units + 65 < cLine) : OpR X (compareOp .NotIn) (rNotInDT X.K) := by
  intro pins s σ H x y v u Q I rx ry h
  obtain ⟨d, ds, hd, he, sd, se, q⟩ := h
  obtain ⟨as, r1⟩ := Dp.reads I d x v hd rx
  obtain ⟨bs, r2⟩ := Dp.reads I (.tuple ds) y u he ry
  exact SeqAt.notIn_tuple_reads r2 r1 (SeqAt.canLay_of_shaped se) (SeqAt.canLay_of_shaped sd) (PyProof.Rows.room_in_shaped sd hu) ⟨.bl _, H, I, rfl, q⟩
end
def inOk (x : D) (ds : List D) : Bool := (flat x && ds.all flat) || (shD 7 x && ds.all (shD 7))
/-- x in a list or tuple, data of any depth -/
def opInD : O2
  | x, .tup ds, R => inOk x ds = true ∧ R (.bl (inD x ds))
  | x, .lst ds, R => inOk x ds = true ∧ R (.bl (inD x ds))
  | .str x, .str y, R => R (.bl (!(Builtin.Str.occurrences y x 0 y.length 1).isEmpty))
  | _, _, _ => False
def opNotInD : O2
  | x, .tup ds, R => inOk x ds = true ∧ R (.bl (!inD x ds))
  | x, .lst ds, R => inOk x ds = true ∧ R (.bl (!inD x ds))
  | .str x, .str y, R => R (.bl (!(!(Builtin.Str.occurrences y x 0 y.length 1).isEmpty)))
  | _, _, _ => False
theorem inD_pd {x : D} (h : shD 7 x = true) : ∀ {ds : List D}, ds.all (shD 7) = true → ((D.pds ds).any fun z => PyData.eqv z x.pd) = inD x ds
  | [], _ => rfl
  | d :: ds, h' => by
    rw [List.all_cons, Bool.and_eq_true] at h'
    show (PyData.eqv d.pd x.pd || (D.pds ds).any fun z => PyData.eqv z x.pd) = (eqD d x || inD x ds)
    rw [eqD_pd 7 d x h'.1 h, inD_pd h h'.2]
section
variable {X : Cx}
theorem ov_inD (hu : X.A.units + 65 < cLine) : OpV X (compareOp .In) opInD := OpR.any fun x y H Q => by
  rintro ⟨F, d, e, R, hx, r1, r2, hg, k⟩
  unfold opInD at hg
  split at hg
  · obtain ⟨f, q⟩ := hg
    rcases (Bool.or_eq_true _ _).mp f with f | f
    · rw [Bool.and_eq_true] at f
      exact ⟨_, ov_in, F, _, _, R, hx, r1, r2, ⟨f.1, f.2, q⟩, k⟩
    · rw [Bool.and_eq_true] at f
      refine ⟨_, op_inDT hu, _, _, r1.dp hx f.1, r2.dp (n := 8) hx f.2, shaped_sh f.1 (by decide), shaped_sh (n := 8) (d := .tup _) f.2 (by decide), ?_⟩
      rw [inD_pd f.1 f.2]
      exact k _ _ F H q (.bl _) (.refl hx)
  · obtain ⟨f, q⟩ := hg
    rcases (Bool.or_eq_true _ _).mp f with f | f
    · rw [Bool.and_eq_true] at f
      exact ⟨_, ov_in, F, _, _, R, hx, r1, r2, ⟨f.1, f.2, q⟩, k⟩
    · rw [Bool.and_eq_true] at f
      refine ⟨_, op_inD hu, _, _, r1.dp hx f.1, r2.dp (n := 8) hx f.2, shaped_sh f.1 (by decide), shaped_sh (n := 8) (d := .lst _) f.2 (by decide), ?_⟩
      rw [inD_pd f.1 f.2]
      exact k _ _ F H q (.bl _) (.refl hx)
  · exact ⟨_, ov_in, F, _, _, R, hx, r1, r2, hg, k⟩
  · exact hg.elim
theorem ov_notInD (hu : X.A.units + 65 < cLine) : OpV X (compareOp .NotIn) opNotInD := OpR.any fun x y H Q => by
  rintro ⟨F, d, e, R, hx, r1, r2, hg, k⟩
  unfold opNotInD at hg
  split at hg
  · obtain ⟨f, q⟩ := hg
    rcases (Bool.or_eq_true _ _).mp f with f | f
    · rw [Bool.and_eq_true] at f
      exact ⟨_, ov_notIn, F, _, _, R, hx, r1, r2, ⟨f.1, f.2, q⟩, k⟩
    · rw [Bool.and_eq_true] at f
      refine ⟨_, op_notInDT hu, _, _, r1.dp hx f.1, r2.dp (n := 8) hx f.2, shaped_sh f.1 (by decide), shaped_sh (n := 8) (d := .tup _) f.2 (by decide), ?_⟩
      rw [inD_pd f.1 f.2]
      exact k _ _ F H q (.bl _) (.refl hx)
  · obtain ⟨f, q⟩ := hg
    rcases (Bool.or_eq_true _ _).mp f with f | f
    · rw [Bool.and_eq_true] at f
      exact ⟨_, ov_notIn, F, _, _, R, hx, r1, r2, ⟨f.1, f.2, q⟩, k⟩
    · rw [Bool.and_eq_true] at f
      refine ⟨_, op_notInD hu, _, _, r1.dp hx f.1, r2.dp (n := 8) hx f.2, shaped_sh f.1 (by decide), shaped_sh (n := 8) (d := .lst _) f.2 (by decide), ?_⟩
      rw [inD_pd f.1 f.2]
      exact k _ _ F H q (.bl _) (.refl hx)
  · exact ⟨_, ov_notIn, F, _, _, R, hx, r1, r2, hg, k⟩
  · exact hg.elim
end

/-! ### zip of a tuple and a str -/
def ItZts (K : PySem.W.Frag) (a : Addr) (xs : List V) (x : Str) : It :=
  ⟨fun i H => SqT K H a xs ∧ i < xs.length ∧ i < x.cps.size,
    fun i H v H' => ∃ T y c, v = .ref T ∧ H T = none ∧ H' = upd H T (.tup [y, .str ⟨#[c]⟩]) ∧ xs[i]? = some y ∧ x.cps[i]? = some c,
    fun i H => SqT K H a xs ∧ (xs.length ≤ i ∨ x.cps.size ≤ i)⟩
theorem sep_zts {z TI TO i1 i2 a : Addr} (D : ZipApart z TI TO i1 i2 a a) : ZipSep2 z TI TO i1 i2 [i1, a] [i2] where
  TIz := D.TIz
  TOz := D.TOz
  TITO := D.TITO
  TIi1 := D.TIi1
  mem1 := by simp
  zf1 := by simpa using ⟨D.i1z.symm, D.l1z.symm⟩
  Tf1 := by simpa using ⟨D.TOi1, D.l1TO.symm⟩
  TIi2 := D.TIi2
  mem2 := by simp
  zf2 := by simpa using D.i2z.symm
  Tf2 := by simpa using D.TOi2
  sep1_2 := by simpa using D.i12
  sep2_1 := by simpa using ⟨D.i12.symm, D.l1i2.symm⟩
theorem turn_zts {P : Program} {w : World} {K : PySem.W.Frag} {elts : List Expr} {kk : Nat} {tpos : Pos} {a z TI TO i1 i2 : Addr} {xs : List V} {x : Str} {t : Tok} (D : ZipApart z TI TO i1 i2 a a) :
    Turn P w K (.Tuple elts kk tpos) (ItZts K a xs x) [z, TI, TO, i1, i2] z (fun i h => (i ≤ xs.length ∧ i ≤ x.cps.size) ∧ IsZip h z TI TO .none ∧ IsTupOf2 h TI (.ref i1) (.ref i2) ∧ (∃ x y, IsTupOf2 h TO x y) ∧ h.IsTupleIter i1 a i ∧ h.IsStrIter i2 (strIterType x) x t i) where
  mem := by simp
  obj := fun i h st c hc => by
    obtain ⟨_, hz, hTI, ⟨x, y, hTO⟩, ⟨o1, e1, _, d1⟩, ⟨o2, e2, _, d2⟩⟩ := st
    have e' : c = z ∨ c = TI ∨ c = TO ∨ c = i1 ∨ c = i2 := by simpa using hc
    rcases e' with q | q | q | q | q
    · rw [q]; exact ⟨_, hz, fun v q => nomatch q⟩
    · rw [q]; exact ⟨_, hTI, fun v q => nomatch q⟩
    · rw [q]; exact ⟨_, hTO, fun v q => nomatch q⟩
    · rw [q]; exact ⟨o1, e1, fun v q => by rw [d1] at q; cases q⟩
    · rw [q]; exact ⟨o2, e2, fun v q => by rw [d2] at q; cases q⟩
  keep := fun i h h' st k => by
    obtain ⟨hi, hz, hTI, ⟨x, y, hTO⟩, h1, h2⟩ := st
    exact ⟨hi, k z (by simp) _ hz, k TI (by simp) _ hTI, ⟨x, y, k TO (by simp) _ hTO⟩, h1.at fun o q => k i1 (by simp) o q, let ⟨o, ho, r⟩ := h2; ⟨o, k i2 (by simp) o ho, r⟩⟩
  item := by
    intro X hP hw hK hc i pins s σ H E I hf st hg
    subst hP hw hK
    obtain ⟨hi, hz, hTI, ⟨x0, y0, hTO⟩, h1, h2⟩ := st
    obtain ⟨hq, l1, l2⟩ := hg
    obtain ⟨its, rv, p, _⟩ := I.tuple hq
    have hzl : z < s.heap.objs.size := Heap.lt_size hz
    have ll : its.toArray.size = xs.length := by rw [List.size_toArray]; exact rv.length.symm
    refine wpAny_pyNext_zipD2_item (sep_zts D) (Draws.tuple (show X.A.in1.handled = none from I.ok.hd hc) i1 a D.l1i1 its.toArray) (Draws.text (show X.A.in1.handled = none from I.ok.hd hc) i2 x t) hz hTI hTO ⟨h1, p⟩ h2 (by omega) l2 fun x1 x2 h' tk y1 y2 z' TO' h1' h2' hT hsz hk => ?_
    obtain ⟨c, u, hcx, rfl⟩ := y2
    have hx : xs[i]? = some xs[i] := List.getElem?_eq_getElem l1
    obtain ⟨u1, hu1, ru1⟩ := rv.get hx
    have e1 : x1 = u1 := by
      have q : its.toArray[i]? = some x1 := y1
      rw [List.getElem?_toArray] at q
      exact Option.some.inj (q.symm.trans hu1)
    subst e1
    refine ⟨_, rfl, wpAny_letOwnedTupleGo_zip (s := { s with heap := h', toks := tk }) z' fun h'' z'' sb => ?_⟩
    have hT2 : h''.get? s.heap.objs.size = some { cls := .type "tuple", data := .seq #[x1, .str ⟨#[c]⟩ u] } := (sb.2 _ (Nat.ne_of_gt hzl)).trans hT
    have new : ObjOk X.prog X.w (upd H s.heap.objs.size (.tup [xs[i], .str ⟨#[c]⟩])) h'' s.heap.objs.size (.tup [xs[i], .str ⟨#[c]⟩]) :=
      ⟨by show 2 ≤ sizeLine; decide, [x1, .str ⟨#[c]⟩ u], .cons ru1 (.cons ⟨u, rfl⟩ .nil), ⟨_, hT2, rfl, _, rfl⟩⟩
    have I1 : Inv X pins σ (upd H s.heap.objs.size (.tup [xs[i], .str ⟨#[c]⟩])) { s with heap := h'', toks := tk } :=
      I.turnedNew (t' := tk) (ch := [z, TI, TO, i1, i2]) (fun c o hb q => (sb.2 c (fun q' => hb (by simp [q']))).trans (hk c o (fun q' => hb (by simp [q'])) (fun q' => hb (by simp [q'])) (fun q' => hb (by simp [q'])) (fun q' => hb (by simp [q'])) q)) hf (Nat.le_refl _) new
    refine ⟨.ref s.heap.objs.size, _, I1, rfl, ⟨_, xs[i], c, rfl, I.hok.fresh (Nat.le_refl _), rfl, hx, hcx⟩, ⟨⟨l1, l2⟩, z'', ?_, ⟨x1, .str ⟨#[c]⟩ u, ?_⟩, ?_, ?_⟩, fun b hcm => ?_⟩
    · exact (sb.2 _ D.TIz).trans (hk _ _ D.TIz D.TITO D.TIi1 D.TIi2 hTI)
    · exact (sb.2 _ D.TOz).trans TO'
    · exact h1'.1.at fun o q => (sb.2 _ D.i1z).trans q
    · exact let ⟨o, ho, r⟩ := h2'; ⟨o, (sb.2 _ D.i2z).trans ho, r⟩
    · have hlt : b < s.heap.objs.size := by
        have e' : b = z ∨ b = TI ∨ b = TO ∨ b = i1 ∨ b = i2 := by simpa using hcm
        rcases e' with q | q | q | q | q
        · rw [q]; exact hzl
        · rw [q]; exact Heap.lt_size hTI
        · rw [q]; exact Heap.lt_size hTO
        · rw [q]; obtain ⟨_, e1, _⟩ := h1; exact Heap.lt_size e1
        · rw [q]; obtain ⟨_, e2, _⟩ := h2; exact Heap.lt_size e2
      rw [upd_ne (Nat.ne_of_lt hlt)]
      exact (hf b hcm).1
  done := by
    intro X hP hw hK hc i pins s σ H E I hf st hg
    subst hP hw hK
    obtain ⟨hi, hz, hTI, ⟨x0, y0, hTO⟩, h1, h2⟩ := st
    obtain ⟨hq, hend⟩ := hg
    obtain ⟨its, rv, p, _⟩ := I.tuple hq
    have ll : its.toArray.size = xs.length := by rw [List.size_toArray]; exact rv.length.symm
    exact wpAny_pyNext_zipD2_end (sep_zts D) (Draws.tuple (show X.A.in1.handled = none from I.ok.hd hc) i1 a D.l1i1 its.toArray) (Draws.text (show X.A.in1.handled = none from I.ok.hd hc) i2 x t) hz hTI hTO ⟨h1, p⟩ h2 (by omega) hi.2 (by omega) fun h' tk hk => ⟨rfl, I.turnedL (t' := tk) (ch := [z, TI, TO, i1, i2]) (fun c o hb q =>
      hk c o (fun q' => hb (by simp [q'])) (fun q' => hb (by simp [q'])) (fun q' => hb (by simp [q'])) (fun q' => hb (by simp [q'])) q) hf⟩
  self := fun A i s Q E st h => wpAny_pyIter_zip st.2.1 h
def iZts (K : PySem.W.Frag) (ta : TA) : TI := fun σ H R => ta σ H fun vs H1 => ∃ a xs x, vs = [.ref a, .str x] ∧ SqT K H1 a xs ∧ R (ItZts K a xs x) H1
theorem pi_zts {X : Cx} {e e2 : Expr} {ta : TA} {p pos tpos : Pos} {elts : List Expr} {kk : Nat} (hg : Gl X "zip") (hm : X.mg "zip" = none) (ha : PA X [e, e2] ta)
    (hs : starEach [e, e2] X.env = (false, eval e X.env) :: starEach [e2] X.env := by rfl) (hpl : (backTo pos (starEach [e2] X.env)).any (·.1) = false := by rfl) :
    PI X (.Tuple elts kk tpos) (.Call (.Name "zip" p) [e, e2] [] pos) (iZts X.K ta) := by
  refine ⟨fun pins s σ H R I h => ?_⟩
  refine PyProof.Rows.Call_ (ld_blt I hg hm PyProof.Rows.boot_zip (PyProof.Rows.callWith_type1 (thn (ha.run pos pins s σ H _ I h) fun us s1 ⟨vs, H1, I1, r1, q1⟩ => ?_) hs hpl))
  obtain ⟨a, xs, x, ex, hq, q⟩ := q1
  subst ex
  cases r1 with
  | cons r rr =>
    cases rr with
    | cons r' rr =>
      cases rr
      cases r
      obtain ⟨t, rfl⟩ := r'
      have fresh5 : ∀ c, c ∈ [s1.heap.objs.size + 4, s1.heap.objs.size + 2, s1.heap.objs.size + 3, s1.heap.objs.size, s1.heap.objs.size + 1] → FpOk X pins H1 c := fun c hcm => by
        have e' : c = s1.heap.objs.size + 4 ∨ c = s1.heap.objs.size + 2 ∨ c = s1.heap.objs.size + 3 ∨ c = s1.heap.objs.size ∨ c = s1.heap.objs.size + 1 := by simpa using hcm
        have hle : s1.heap.objs.size ≤ c := by
          rcases e' with z | z | z | z | z
          · rw [z]; exact Nat.le_add_right _ _
          · rw [z]; exact Nat.le_add_right _ _
          · rw [z]; exact Nat.le_add_right _ _
          · rw [z]; exact Nat.le_refl _
          · rw [z]; exact Nat.le_add_right _ _
        exact I1.fpOk hle (I1.hok.fresh hle)
      obtain ⟨its, rv, p1, _⟩ := I1.tuple hq
      obtain ⟨o1, ho1, _⟩ := id p1
      refine zip_begins2 (begins_tuple a its.toArray) (begins_text x t) p1 trivial fun h' hz hTI hTO h1 h2 hsz hk => wpAny_pyIter_zip hz ?_
      have I2 : Inv X pins σ H1 { s1 with heap := h' } := I1.kept (t' := s1.toks) hk
      exact ⟨s1.heap.objs.size + 4, [s1.heap.objs.size + 4, s1.heap.objs.size + 2, s1.heap.objs.size + 3, s1.heap.objs.size, s1.heap.objs.size + 1], _, _, H1, rfl, I2, turn_zts (t := t) (PySem.W.ktu_apart s1.heap.objs.size a a (Heap.lt_size ho1) (Heap.lt_size ho1)), ⟨⟨Nat.zero_le _, Nat.zero_le _⟩, hz, hTI, ⟨_, _, hTO⟩, ⟨_, h1, rfl, rfl⟩, ⟨_, h2, rfl, rfl⟩⟩, fresh5, q⟩
/-- a tuple beside a text -/
def wZts (w : WA) : WA := fun S R => w S fun ds S1 => match ds with
  | [.tup xs, .str x] => R (List.zipWith (fun x y => .tup [x, y]) xs (chars x)) S1
  | _ => False
section
variable {X : Cx} {a b e tg : Expr} {es : List Expr} {w : WE} {ws : WA} {n : Nat} {pos p : Pos} {K : PySem.W.Frag} {F H : Hp}
theorem feeds_zts {a : Addr} {vs : List V} {ds : List D} {x : Str} (h : SqT K F a vs) (s : Reps K F vs ds) : Feeds K (ItZts K a vs x) F (List.zipWith (fun x y => .tup [x, y]) ds (chars x)) := fun F' H' x1 x2 => by
  have hq : SqT K H' a vs := x2.sqT (x1.sqT h)
  have lc : (chars x).length = x.cps.size := by simp [chars]
  refine ⟨fun i d hd => ?_, fun i hi => ?_⟩
  · rw [List.getElem?_zipWith] at hd
    cases e1 : ds[i]? with
    | none => rw [e1] at hd; cases hd
    | some y =>
      cases e2 : (chars x)[i]? with
      | none => rw [e1, e2] at hd; cases hd
      | some z =>
        rw [e1, e2] at hd
        cases hd
        obtain ⟨v, h1, h2⟩ := s.get e1
        obtain ⟨k1, _⟩ := List.getElem?_eq_some_iff.mp h1
        obtain ⟨k2, _⟩ := List.getElem?_eq_some_iff.mp e2
        refine ⟨⟨hq, k1, by omega⟩, fun u H3 hy => ?_⟩
        obtain ⟨T, q, c, rfl, hT, rfl, f1, f2⟩ := hy
        have e3 : q = v := Option.some.inj (f1.symm.trans h1)
        subst e3
        have e4 : z = .str ⟨#[c]⟩ := by
          have e5 : x.cps.toList[i]? = some c := by rw [Array.getElem?_toList]; exact f2
          have e6 : (chars x)[i]? = some (.str ⟨#[c]⟩) := by unfold chars; rw [List.getElem?_map, e5]; rfl
          exact Option.some.inj (e2.symm.trans e6)
        subst e4
        have al := Al.one (o := .tup [q, .str ⟨#[c]⟩]) x2 hT
        exact ⟨_, al, .tup (.of upd_same) (((Reps.cons h2 (.one (.str _))).mono x1).mono al.xF)⟩
  · rw [List.length_zipWith] at hi
    refine ⟨hq, ?_⟩
    rw [s.length]
    omega
theorem di_zts {tpos : Pos} {elts : List Expr} {kk : Nat} (hg : Gl X "zip") (hm : X.mg "zip" = none) (ha : DA X [a, b] n ws) (hp : ∀ t, PA X [a, b] t → PI X (.Tuple elts kk tpos) (.Call (.Name "zip" p) [a, b] [] pos) (iZts X.K t)) : DI X (.Tuple elts kk tpos) (.Call (.Name "zip" p) [a, b] [] pos) (wZts ws) := fun E => PI.imp (hp _ (ha E)) fun σ H Q => by
  rintro ⟨S, F, R, hR, hw, k⟩
  refine ⟨S, F, _, hR, hw, fun ds S1 vs F1 H1 hw1 l1 r1 hR1 x1 => ?_⟩
  split at hw1
  · obtain ⟨v, u, rfl, q, q2⟩ := r1.two_of
    cases q with
    | tup h s =>
      cases q2 with
      | str => exact ⟨_, _, _, rfl, hR1.g.ext.sqT h, k _ S1 _ F1 H1 hw1 (feeds_zts h s) hR1 x1⟩
  · exact hw1.elim
end
end VL

set_option Elab.async false
set_option linter.all false
set_option maxRecDepth 100000
set_option maxHeartbeats 4000000
/-! VT: the tape, and what all laws share -/
namespace VL
open PySem PySem.Spec L2
/-- a tape: the script's numbers, the next place, what is left of a great number, the state of the drawing -/
def Tp (h : Oh) (a : Addr) : Prop := ∃ (ns : List Int) (i r s : Int), h a = some (.ml [.lst (ns.map .int), .int i, .int r, .int s]) ∧ ns.length ≤ 63 ∧ 0 ≤ i ∧ 0 ≤ r ∧ 0 ≤ s ∧ s < 2147483647
/-- nothing but the tape has changed -/
def But (a : Addr) (h h' : Oh) : Prop := ∀ b, b ≠ a → h' b = h b
theorem But.refl (a : Addr) (h : Oh) : But a h h := fun _ _ => rfl
theorem But.trans {a : Addr} {h h1 h2 : Oh} (x : But a h h1) (y : But a h1 h2) : But a h h2 := fun b n => (y b n).trans (x b n)
theorem But.put (a : Addr) (h : Oh) (o : Ob) : But a h (h.put a o) := fun b n => Oh.put_ne n
@[irreducible] def sp_next : Spc := fun ds h R _ => ∃ a m, ds = [.obj a, .int m] ∧ Tp h a ∧ 0 < m ∧ m < 2 ^ 60 ∧ ∀ v h', 0 ≤ v → v < m → Tp h' a → But a h h' → R (.int v) h'
theorem sp_next_out {ds : List D} {h : Oh} {R : D → Oh → Prop} {E : XC} (q : sp_next ds h R E) : ∃ a m, ds = [.obj a, .int m] ∧ Tp h a ∧ 0 < m ∧ m < 2 ^ 60 ∧ ∀ v h', 0 ≤ v → v < m → Tp h' a → But a h h' → R (.int v) h' := by
  unfold sp_next at q
  exact q
theorem draw {h : Oh} {a : Addr} {m : Int} {R : D → Oh → Prop} {E : XC} (hT : Tp h a) (h1 : 0 < m) (h2 : m < 2 ^ 60) (k : ∀ v h', 0 ≤ v → v < m → Tp h' a → But a h h' → R (.int v) h') : sp_next [.obj a, .int m] h R E := by
  unfold sp_next
  exact ⟨a, m, rfl, hT, h1, h2, k⟩
/-- law: the script goes in, True comes out -/
def sp_true : Spc := fun ds h R _ => ∃ ns : List Int, ds = [.scr ns] ∧ ns.length ≤ 63 ∧ ∀ h', R (.bl true) h'
theorem atI_map {α β : Type} {f : α → β} {xs : List α} {i : Int} (h0 : 0 ≤ i) (h : i < xs.length) : ∃ x, xs[i.toNat]? = some x ∧ atI (xs.map f) i = some (f x) := by
  have hi : i.toNat < xs.length := by omega
  refine ⟨xs[i.toNat], List.getElem?_eq_getElem hi, ?_⟩
  unfold atI ixN
  rw [if_pos h0, if_pos (by rw [List.length_map]; exact h)]
  show (xs.map f)[i.toNat]? = _
  rw [List.getElem?_map, List.getElem?_eq_getElem hi]
  rfl
theorem cdiv {i j : Int} (h : 0 < j) (h2 : j < 2 ^ 60) : CDivW i j := wide_div h (b := 60) (by omega) (by decide) (by decide)
theorem cdiv2 {i : Int} : CDivW i 2 := cdiv (by decide) (by decide)
theorem cmul {i j : Int} (a b : Nat) (ha : i.natAbs < 2 ^ a) (hb : j.natAbs < 2 ^ b) (h : a + b ≤ 134217728) : CMulX i j := mulx_ok ha hb h
theorem forc {g : WG} {tb : WS} {T : We} {x : D} {xs : List D} {S : Sg} (h : g x S fun S1 => tb { T with nx := wForL g tb T xs, ct := wForL g tb T xs, bk := T.nx } S1) : wForL g tb T (x :: xs) S := h
theorem forv {i : Nat} {tb : WS} {T : We} {x : D} {xs : List D} {S : Sg} (h : tb { T with nx := wForL (gVar i) tb T xs, ct := wForL (gVar i) tb T xs, bk := T.nx } (S.st i (.f x))) : wForL (gVar i) tb T (x :: xs) S := h
open PyProof.Rows
def w_next_6 : WS :=
  (wRet (wOp opMod (wCB bInt (wCons (wOp opDiv (wOp opMod (wOp opMul (wIx (wVar 0) (wC (.int 3))) (wC (.int 16807))) (wC (.int 2147483647))) (wC (.int 7))) wNil)) (wVar 1)))
def w_next_5 : WS :=
  (wSeq (wAsg (wOp opMod (wCB bInt (wCons (wOp opAdd (wOp opAdd (wOp opMul (wIx (wVar 0) (wC (.int 3))) (wC (.int 48271))) (wOp opMul (wVar 3) (wC (.int 69621)))) (wC (.int 11))) wNil)) (wC (.int 2147483647))) (gIxM (wVar 0) (wC (.int 3))))
  w_next_6)
def w_next_4 : WS :=
  (wSeq (wIfS (wBb (wOp opGe (wVar 3) (wOp opPow (wC (.int 10)) (wC (.int 18))))) (wSeq (wAsg (wOp opDiv (wVar 3) (wVar 1)) (gIxM (wVar 0) (wC (.int 2))))
  (wRet (wOp opMod (wCB bInt (wCons (wVar 3) wNil)) (wVar 1)))) wNext)
  w_next_5)
def w_next_3 : WS :=
  (wSeq (wIfS (wBb (wOp opLt (wIx (wVar 0) (wC (.int 1))) (wCB bLen (wCons (wIx (wVar 0) (wC (.int 0))) wNil)))) (wSeq (wAsg (wCB bAbs (wCons (wIx (wIx (wVar 0) (wC (.int 0))) (wIx (wVar 0) (wC (.int 1)))) wNil)) (gVar 3))
  (wAugM (wVar 0) (wC (.int 1)) opAddI (wC (.int 1)))) wNext)
  w_next_4)
def w_next_2 : WS :=
  (wSeq (wAsg (wC (.int 0)) (gVar 3))
  w_next_3)
def w_next_1 : WS :=
  (wSeq (wIfS (wBb (wOp opGt (wVar 2) (wC (.int 0)))) (wSeq (wAsg (wOp opDiv (wVar 2) (wVar 1)) (gIxM (wVar 0) (wC (.int 2))))
  (wRet (wOp opMod (wCB bInt (wCons (wVar 2) wNil)) (wVar 1)))) wNext)
  w_next_2)
def w_next : WS :=
  (wSeq (wAsg (wIx (wVar 0) (wC (.int 2))) (gVar 2))
  w_next_1)
theorem pk_next : Pk 2 2 sp_next w_next := by
  intro ds h R _ q
  obtain ⟨a, m, rfl, ⟨ns, i, r, s, hT, hn, hi, hr, hs, hs2⟩, hm, hm2, hR⟩ := sp_next_out q
  refine ⟨_, _, hT, rfl, ?_⟩
  refine br (fun e => ?_) (fun e => ?_)
  · refine ⟨cdiv hm hm2, a, _, 2, 2, rfl, rfl, hT, rfl, hm, ?_⟩
    refine hR _ _ (Int.emod_nonneg _ (by omega)) (Int.emod_lt_of_pos _ hm) ⟨ns, i, r / m, s, Oh.put_same, hn, hi, Int.ediv_nonneg hr (by omega), hs, hs2⟩ (But.put _ _ _)
  -- the rest, from any cell
  have rest : ∀ (h1 : Oh) (i1 c : Int), 0 ≤ c → h1 a = some (.ml [.lst (ns.map .int), .int i1, .int r, .int s]) → 0 ≤ i1 → But a h h1 →
      w_next_4 (Fi R) ⟨[.f (.obj a), .f (.int m), .f (.int r), .f (.int c)], h1⟩ := fun h1 i1 c hc hT1 hi1 hb => by
    refine ⟨⟨by decide, by decide, by decide⟩, ?_⟩
    refine br (fun e2 => ?_) (fun e2 => ?_)
    · refine ⟨cdiv hm hm2, a, _, 2, 2, rfl, rfl, hT1, rfl, hm, ?_⟩
      refine hR _ _ (Int.emod_nonneg _ (by omega)) (Int.emod_lt_of_pos _ hm) ⟨ns, i1, c / m, s, Oh.put_same, hn, hi1, Int.ediv_nonneg hc (by omega), hs, hs2⟩ (hb.trans (But.put _ _ _))
    · have hc2 : c < 10 ^ 18 := by
        have := of_decide_eq_false e2
        have e3 : ((10 : Int) ^ (18 : Int).toNat) = 10 ^ 18 := rfl
        rw [e3] at this
        omega
      refine ⟨_, _, hT1, rfl, cmul 32 17 (by omega) (by decide) (by decide), cmul 60 18 (by omega) (by decide) (by decide), ?_⟩
      refine ⟨(by decide : (0 : Int) < 2147483647), a, _, 3, 3, rfl, rfl, hT1, rfl, ?_⟩
      have b1 : 0 ≤ (s * 48271 + c * 69621 + 11) % 2147483647 := Int.emod_nonneg _ (by decide)
      have b2 : (s * 48271 + c * 69621 + 11) % 2147483647 < 2147483647 := Int.emod_lt_of_pos _ (by decide)
      refine ⟨_, _, Oh.put_same, rfl, cmul 32 17 (by omega) (by decide) (by decide), (by decide : (0 : Int) < 2147483647), wide_div (b := 4) (by decide) (by decide) (by decide) (by decide), hm, ?_⟩
      exact hR _ _ (Int.emod_nonneg _ (by omega)) (Int.emod_lt_of_pos _ hm) ⟨ns, i1, r, _, Oh.put_same, hn, hi1, hr, b1, b2⟩ (hb.trans (But.put _ _ _))
  refine ⟨_, _, hT, rfl, _, _, hT, rfl, ?_⟩
  refine br (fun e2 => ?_) (fun e2 => ?_)
  · have e3 : i < ns.length := by
      have := of_decide_eq_true e2
      rw [List.length_map] at this
      exact this
    obtain ⟨x, hx, ha⟩ := atI_map (f := D.int) hi e3
    refine ⟨_, _, hT, rfl, _, _, hT, rfl, _, ha, ?_⟩
    refine ⟨a, _, 1, _, rfl, rfl, hT, rfl, _, 1, hT, rfl, ?_⟩
    exact rest _ (i + 1) _ (by split <;> omega) Oh.put_same (by omega) (But.put _ _ _)
  · exact rest h i 0 (by decide) hT hi (But.refl _ _)
end VL

set_option Elab.async false
set_option linter.all false
/-! operations and faults: what each def of the text promises -/
namespace K08
open PySem PySem.Spec L2 VL
def k_ONE_QUBIT : D := (.tup [(.str "zero"), (.str "plus"), (.str "mz"), (.str "mx"), (.str "wait"), (.str "give")])
def k_PAIRS : D := (.tup [(.str "IX"), (.str "IY"), (.str "IZ"), (.str "XI"), (.str "XX"), (.str "XY"), (.str "XZ"), (.str "YI"), (.str "YX"), (.str "YY"), (.str "YZ"), (.str "ZI"), (.str "ZX"), (.str "ZY"), (.str "ZZ")])
/-- a part of a value -/
inductive Sim : D → Prop
  | non : Sim .non
  | bl (b : Bool) : Sim (.bl b)
  | int (i : Int) : Sim (.int i)
  | str (x : Str) : Sim (.str x)
  | unit : Sim (.tup [])
/-- a value that is asked about -/
inductive Val : D → Prop
  | sim {d : D} : Sim d → Val d
  | tup {ds : List D} : (∀ d ∈ ds, Sim d) → Val (.tup ds)
  | lst {ds : List D} : (∀ d ∈ ds, Sim d) → Val (.lst ds)
def isInt : D → Bool
  | .int i => decide (0 ≤ i)
  | _ => false
def one6 : List D := [.str "zero", .str "plus", .str "mz", .str "mx", .str "wait", .str "give"]
def three : List D := [.str "X", .str "Y", .str "Z"]
def prs : List D := [(.str "IX"), (.str "IY"), (.str "IZ"), (.str "XI"), (.str "XX"), (.str "XY"), (.str "XZ"), (.str "YI"), (.str "YX"), (.str "YY"), (.str "YZ"), (.str "ZI"), (.str "ZX"), (.str "ZY"), (.str "ZZ")]
/-- what follows an operation's name -/
def one? : List D → Bool
  | [x] => isInt x
  | _ => false
def cp? : List D → Bool
  | [x, y, z] => isInt x && isInt y && !eqD x y && inD z three
  | _ => false
def opT (k : D) (r : List D) : Bool :=
  if inD k one6 then one? r else if eqD k (.str "cp") then cp? r else false
def isOpD : D → Bool
  | .tup (k :: x :: r) => opT k (x :: r)
  | _ => false
def isStr : D → Bool
  | .str _ => true
  | _ => false
def isFlD : D → Bool
  | .tup [x, y, z] => isInt x && isInt y && isStr z && inD z (prs ++ [.str "X", .str "Y", .str "Z", .str "flip"])
  | _ => false
/-- an operation as it is drawn -/
inductive OpV : D → Prop
  | one (k : D) (a : Int) : k ∈ one6 → 0 ≤ a → OpV (.tup [k, .int a])
  | cp (a b : Int) (z : D) : z ∈ three → 0 ≤ a → 0 ≤ b → OpV (.tup [.str "cp", .int a, .int b, z])
def wordsD : D → List D
  | .tup (.str k :: _) => if k == "cp" then prs else if k == "mz" || k == "mx" then [.str "flip"] else if k == "give" then [] else three
  | _ => []
def lettersD : D → D → List D
  | .tup (_ :: r), .str w => if w == "flip" then [] else (List.zipWith (fun x y => .tup [x, y]) (r.take 2) (chars w)).filter fun p => match p with
      | .tup [_, .str c] => !(c == "I")
      | _ => false
  | _, _ => []
def sp_is_integer : Spc := fun ds h R _ => ∃ v, ds = [v] ∧ Sim v ∧ R (.bl (isInt v)) h
def sp_is_op : Spc := fun ds h R _ => ∃ v, ds = [v] ∧ Val v ∧ R (.bl (isOpD v)) h
def sp_words_of : Spc := fun ds h R _ => ∃ v, ds = [v] ∧ OpV v ∧ R (.lst (wordsD v)) h
def sp_letters_of : Spc := fun ds h R _ => ∃ v w, ds = [v, w] ∧ OpV v ∧ w ∈ wordsD v ∧ R (.lst (lettersD v w)) h
def sp_is_fault : Spc := fun ds h R _ => ∃ v, ds = [v] ∧ Val v ∧ R (.bl (isFlD v)) h
abbrev sp__law_next : Spc := sp_next
def sp__law_pairs : Spc := fun ds h R _ => ds = [] ∧ R (.lst prs) h
abbrev sp__law_is_count : Spc := sp_is_integer
abbrev sp__law_is_op : Spc := sp_is_op
def sp__law_op : Spc := fun ds h R _ => ∃ a, ds = [.obj a] ∧ Tp h a ∧ ∀ v h', OpV v → Tp h' a → But a h h' → R v h'
def sp__law_bent : Spc := fun ds h R _ => ∃ a xs, ds = [.obj a, .tup xs] ∧ (∀ x ∈ xs, Sim x) ∧ 0 < xs.length ∧ xs.length < 9 ∧ Tp h a ∧ ∀ v h', Val v → Tp h' a → But a h h' → R v h'
abbrev sp__law_words : Spc := sp_words_of
abbrev sp__law_letters : Spc := sp_letters_of
abbrev sp__law_is_fault : Spc := sp_is_fault
abbrev sp_law : Spc := sp_true
end K08

set_option Elab.async false
set_option linter.all false
set_option maxRecDepth 100000
namespace K08
open PySem PySem.Spec L2 VL

def w_is_integer : WS :=
  (wRet (wAndV (wCB bIsi (wCons (wVar 0) (wCons (wC (.ty .tint)) wNil))) (wAndV (wNotV (wCB bIsi (wCons (wVar 0) (wCons (wC (.ty .tbool)) wNil)))) (wOp opGe (wVar 0) (wC (.int 0))))))
def w_is_op_3 : WS :=
  (wRet (wAndV (wOp opNe (wIx (wVar 0) (wC (.int 1))) (wIx (wVar 0) (wC (.int 2)))) (wOp opInD (wIx (wVar 0) (wC (.int 3))) (wTup (wCons (wC (.str "X")) (wCons (wC (.str "Y")) (wCons (wC (.str "Z")) wNil)))))))
def w_is_op_2 : WS :=
  (wSeq (wIfS (wOr (wBb (wOp opNe (wIx (wVar 0) (wC (.int 0))) (wC (.str "cp")))) (wOr (wBb (wOp opNe (wCB bLen (wCons (wVar 0) wNil)) (wC (.int 4)))) (wOr (wNot (wB (wCall sp_is_integer (wCons (wIx (wVar 0) (wC (.int 1))) wNil)))) (wNot (wB (wCall sp_is_integer (wCons (wIx (wVar 0) (wC (.int 2))) wNil))))))) (wRet (wC (.bl false))) wNext)
  w_is_op_3)
def w_is_op_1 : WS :=
  (wSeq (wIfS (wBb (wOp opInD (wIx (wVar 0) (wC (.int 0))) (wC k_ONE_QUBIT))) (wRet (wAndV (wOp opEq (wCB bLen (wCons (wVar 0) wNil)) (wC (.int 2))) (wCall sp_is_integer (wCons (wIx (wVar 0) (wC (.int 1))) wNil)))) wNext)
  w_is_op_2)
def w_is_op : WS :=
  (wSeq (wIfS (wOr (wNot (wB (wCB bIsi (wCons (wVar 0) (wCons (wC (.ty .ttup)) wNil))))) (wOr (wBb (wOp opLt (wCB bLen (wCons (wVar 0) wNil)) (wC (.int 2)))) (wNot (wB (wCB bIsi (wCons (wIx (wVar 0) (wC (.int 0))) (wCons (wC (.ty .tstr)) wNil))))))) (wRet (wC (.bl false))) wNext)
  w_is_op_1)
def w_words_of_3 : WS :=
  (wRet (wLst (wCons (wC (.str "X")) (wCons (wC (.str "Y")) (wCons (wC (.str "Z")) wNil)))))
def w_words_of_2 : WS :=
  (wSeq (wIfS (wBb (wOp opEq (wIx (wVar 0) (wC (.int 0))) (wC (.str "give")))) (wRet (wLst wNil)) wNext)
  w_words_of_3)
def w_words_of_1 : WS :=
  (wSeq (wIfS (wBb (wOp opInD (wIx (wVar 0) (wC (.int 0))) (wTup (wCons (wC (.str "mz")) (wCons (wC (.str "mx")) wNil))))) (wRet (wLst (wCons (wC (.str "flip")) wNil))) wNext)
  w_words_of_2)
def w_words_of : WS :=
  (wSeq (wIfS (wBb (wOp opEq (wIx (wVar 0) (wC (.int 0))) (wC (.str "cp")))) (wRet (wCB bLst (wCons (wC k_PAIRS) wNil))) wNext)
  w_words_of_1)
def w_letters_of_1 : WS :=
  (wRet (wLc (wZts (wCons (wSl (wVar 0) (wPart (wC (.int 1))) (wPart (wC (.int 3)))) (wCons (wVar 1) wNil))) (gTp 2 (namesW [2, 3])) (wBb (wOp opNe (wVar 3) (wC (.str "I")))) (wTup (wCons (wVar 2) (wCons (wVar 3) wNil))) [2, 3]))
def w_letters_of : WS :=
  (wSeq (wIfS (wBb (wOp opEq (wVar 1) (wC (.str "flip")))) (wRet (wLst wNil)) wNext)
  w_letters_of_1)
def w_is_fault_1 : WS :=
  (wRet (wAndV (wCB bIsi (wCons (wIx (wVar 0) (wC (.int 2))) (wCons (wC (.ty .tstr)) wNil))) (wOp opInD (wIx (wVar 0) (wC (.int 2))) (wOp opAdd (wC k_PAIRS) (wTup (wCons (wC (.str "X")) (wCons (wC (.str "Y")) (wCons (wC (.str "Z")) (wCons (wC (.str "flip")) wNil)))))))))
def w_is_fault : WS :=
  (wSeq (wIfS (wOr (wNot (wB (wCB bIsi (wCons (wVar 0) (wCons (wC (.ty .ttup)) wNil))))) (wOr (wBb (wOp opNe (wCB bLen (wCons (wVar 0) wNil)) (wC (.int 3)))) (wOr (wNot (wB (wCall sp_is_integer (wCons (wIx (wVar 0) (wC (.int 0))) wNil)))) (wNot (wB (wCall sp_is_integer (wCons (wIx (wVar 0) (wC (.int 1))) wNil))))))) (wRet (wC (.bl false))) wNext)
  w_is_fault_1)
def w__law_next_6 : WS :=
  (wRet (wOp opMod (wCB bInt (wCons (wOp opDiv (wOp opMod (wOp opMul (wIx (wVar 0) (wC (.int 3))) (wC (.int 16807))) (wC (.int 2147483647))) (wC (.int 7))) wNil)) (wVar 1)))
def w__law_next_5 : WS :=
  (wSeq (wAsg (wOp opMod (wCB bInt (wCons (wOp opAdd (wOp opAdd (wOp opMul (wIx (wVar 0) (wC (.int 3))) (wC (.int 48271))) (wOp opMul (wVar 3) (wC (.int 69621)))) (wC (.int 11))) wNil)) (wC (.int 2147483647))) (gIxM (wVar 0) (wC (.int 3))))
  w__law_next_6)
def w__law_next_4 : WS :=
  (wSeq (wIfS (wBb (wOp opGe (wVar 3) (wOp opPow (wC (.int 10)) (wC (.int 18))))) (wSeq (wAsg (wOp opDiv (wVar 3) (wVar 1)) (gIxM (wVar 0) (wC (.int 2))))
  (wRet (wOp opMod (wCB bInt (wCons (wVar 3) wNil)) (wVar 1)))) wNext)
  w__law_next_5)
def w__law_next_3 : WS :=
  (wSeq (wIfS (wBb (wOp opLt (wIx (wVar 0) (wC (.int 1))) (wCB bLen (wCons (wIx (wVar 0) (wC (.int 0))) wNil)))) (wSeq (wAsg (wCB bAbs (wCons (wIx (wIx (wVar 0) (wC (.int 0))) (wIx (wVar 0) (wC (.int 1)))) wNil)) (gVar 3))
  (wAugM (wVar 0) (wC (.int 1)) opAddI (wC (.int 1)))) wNext)
  w__law_next_4)
def w__law_next_2 : WS :=
  (wSeq (wAsg (wC (.int 0)) (gVar 3))
  w__law_next_3)
def w__law_next_1 : WS :=
  (wSeq (wIfS (wBb (wOp opGt (wVar 2) (wC (.int 0)))) (wSeq (wAsg (wOp opDiv (wVar 2) (wVar 1)) (gIxM (wVar 0) (wC (.int 2))))
  (wRet (wOp opMod (wCB bInt (wCons (wVar 2) wNil)) (wVar 1)))) wNext)
  w__law_next_2)
def w__law_next : WS :=
  (wSeq (wAsg (wIx (wVar 0) (wC (.int 2))) (gVar 2))
  w__law_next_1)
def w__law_pairs_b1 : WS :=
  (wAsg (wOp opAdd (wVar 0) (wLc (wItS (wC (.str "IXYZ"))) (gVar 2) wYes (wOp opAdd (wVar 1) (wVar 2)) [2])) (gVar 0))
def w__law_pairs_2 : WS :=
  (wRet (wSl (wVar 0) (wPart (wC (.int 1))) wNoPart))
def w__law_pairs_1 : WS :=
  (wSeq (wFor (wItS (wC (.str "IXYZ"))) (gVar 1) w__law_pairs_b1)
  w__law_pairs_2)
def w__law_pairs : WS :=
  (wSeq (wAsg (wLst wNil) (gVar 0))
  w__law_pairs_1)
def w__law_is_count : WS :=
  (wRet (wAndV (wCB bIsi (wCons (wVar 0) (wCons (wC (.ty .tint)) wNil))) (wAndV (wNotV (wCB bIsi (wCons (wVar 0) (wCons (wC (.ty .tbool)) wNil)))) (wOp opGe (wVar 0) (wC (.int 0))))))
def w__law_is_op_3 : WS :=
  (wRet (wAndV (wOp opNe (wIx (wVar 0) (wC (.int 1))) (wIx (wVar 0) (wC (.int 2)))) (wOp opInD (wIx (wVar 0) (wC (.int 3))) (wTup (wCons (wC (.str "X")) (wCons (wC (.str "Y")) (wCons (wC (.str "Z")) wNil)))))))
def w__law_is_op_2 : WS :=
  (wSeq (wIfS (wOr (wBb (wOp opNe (wIx (wVar 0) (wC (.int 0))) (wC (.str "cp")))) (wOr (wBb (wOp opNe (wCB bLen (wCons (wVar 0) wNil)) (wC (.int 4)))) (wOr (wNot (wB (wCall sp__law_is_count (wCons (wIx (wVar 0) (wC (.int 1))) wNil)))) (wNot (wB (wCall sp__law_is_count (wCons (wIx (wVar 0) (wC (.int 2))) wNil))))))) (wRet (wC (.bl false))) wNext)
  w__law_is_op_3)
def w__law_is_op_1 : WS :=
  (wSeq (wIfS (wBb (wOp opInD (wIx (wVar 0) (wC (.int 0))) (wTup (wCons (wC (.str "zero")) (wCons (wC (.str "plus")) (wCons (wC (.str "mz")) (wCons (wC (.str "mx")) (wCons (wC (.str "wait")) (wCons (wC (.str "give")) wNil))))))))) (wRet (wAndV (wOp opEq (wCB bLen (wCons (wVar 0) wNil)) (wC (.int 2))) (wCall sp__law_is_count (wCons (wIx (wVar 0) (wC (.int 1))) wNil)))) wNext)
  w__law_is_op_2)
def w__law_is_op : WS :=
  (wSeq (wIfS (wOr (wNot (wB (wCB bIsi (wCons (wVar 0) (wCons (wC (.ty .ttup)) wNil))))) (wBb (wOp opLt (wCB bLen (wCons (wVar 0) wNil)) (wC (.int 2))))) (wRet (wC (.bl false))) wNext)
  w__law_is_op_1)
def w__law_op_3 : WS :=
  (wRet (wTup (wCons (wC (.str "cp")) (wCons (wVar 2) (wCons (wCall sp__law_next (wCons (wVar 0) (wCons (wC (.int 30)) wNil))) (wCons (wIx (wTup (wCons (wC (.str "X")) (wCons (wC (.str "Y")) (wCons (wC (.str "Z")) wNil)))) (wOp opSub (wVar 1) (wC (.int 6)))) wNil))))))
def w__law_op_2 : WS :=
  (wSeq (wIfS (wBb (wOp opLt (wVar 1) (wC (.int 6)))) (wRet (wTup (wCons (wIx (wTup (wCons (wC (.str "zero")) (wCons (wC (.str "plus")) (wCons (wC (.str "mz")) (wCons (wC (.str "mx")) (wCons (wC (.str "wait")) (wCons (wC (.str "give")) wNil))))))) (wVar 1)) (wCons (wVar 2) wNil)))) wNext)
  w__law_op_3)
def w__law_op_1 : WS :=
  (wSeq (wAsg (wCall sp__law_next (wCons (wVar 0) (wCons (wC (.int 30)) wNil))) (gVar 2))
  w__law_op_2)
def w__law_op : WS :=
  (wSeq (wAsg (wCall sp__law_next (wCons (wVar 0) (wCons (wC (.int 9)) wNil))) (gVar 1))
  w__law_op_1)
def w__law_bent_6 : WS :=
  (wRet (wIx (wLst (wCons (wCB bLst (wCons (wVar 1) wNil)) (wCons (wC .non) (wCons (wIx (wVar 1) (wC (.int 0))) (wCons (wVar 1) wNil))))) (wCall sp__law_next (wCons (wVar 0) (wCons (wC (.int 4)) wNil)))))
def w__law_bent_5 : WS :=
  (wSeq (wIfS (wBb (wOp opEq (wVar 4) (wC (.int 2)))) (wRet (wOp opAdd (wVar 1) (wTup (wCons (wVar 3) wNil)))) wNext)
  w__law_bent_6)
def w__law_bent_4 : WS :=
  (wSeq (wIfS (wBb (wOp opEq (wVar 4) (wC (.int 1)))) (wRet (wOp opAdd (wSl (wVar 1) wNoPart (wPart (wVar 2))) (wSl (wVar 1) (wPart (wOp opAdd (wVar 2) (wC (.int 1)))) wNoPart))) wNext)
  w__law_bent_5)
def w__law_bent_3 : WS :=
  (wSeq (wIfS (wBb (wOp opEq (wVar 4) (wC (.int 0)))) (wRet (wOp opAdd (wOp opAdd (wSl (wVar 1) wNoPart (wPart (wVar 2))) (wTup (wCons (wVar 3) wNil))) (wSl (wVar 1) (wPart (wOp opAdd (wVar 2) (wC (.int 1)))) wNoPart))) wNext)
  w__law_bent_4)
def w__law_bent_2 : WS :=
  (wSeq (wAsg (wCall sp__law_next (wCons (wVar 0) (wCons (wC (.int 4)) wNil))) (gVar 4))
  w__law_bent_3)
def w__law_bent_1 : WS :=
  (wSeq (wAsg (wIx (wLst (wCons (wC .non) (wCons (wUn opNeg (wC (.int 1))) (wCons (wC (.bl true)) (wCons (wC (.str "I")) (wCons (wC (.str "cz")) (wCons (wC (.int 3)) (wCons (wC (.str "X")) (wCons (wTup wNil) (wCons (wC (.str "wait")) wNil)))))))))) (wCall sp__law_next (wCons (wVar 0) (wCons (wC (.int 9)) wNil)))) (gVar 3))
  w__law_bent_2)
def w__law_bent : WS :=
  (wSeq (wAsg (wCall sp__law_next (wCons (wVar 0) (wCons (wCB bLen (wCons (wVar 1) wNil)) wNil))) (gVar 2))
  w__law_bent_1)
def w__law_words_2 : WS :=
  (wRet (wOp opMul (wLst (wCons (wC (.str "X")) (wCons (wC (.str "Y")) (wCons (wC (.str "Z")) wNil)))) (wCB bInt (wCons (wOp opNe (wIx (wVar 0) (wC (.int 0))) (wC (.str "give"))) wNil))))
def w__law_words_1 : WS :=
  (wSeq (wIfS (wBb (wOp opInD (wIx (wVar 0) (wC (.int 0))) (wTup (wCons (wC (.str "mz")) (wCons (wC (.str "mx")) wNil))))) (wRet (wLst (wCons (wC (.str "flip")) wNil))) wNext)
  w__law_words_2)
def w__law_words : WS :=
  (wSeq (wIfS (wBb (wOp opEq (wIx (wVar 0) (wC (.int 0))) (wC (.str "cp")))) (wRet (wCall sp__law_pairs wNil)) wNext)
  w__law_words_1)
def w__law_letters_1 : WS :=
  (wRet (wLc (wRng1 (wCons (wCB bLen (wCons (wVar 1) wNil)) wNil)) (gVar 2) (wBb (wOp opNe (wIx (wVar 1) (wVar 2)) (wC (.str "I")))) (wTup (wCons (wIx (wVar 0) (wOp opAdd (wC (.int 1)) (wVar 2))) (wCons (wIx (wVar 1) (wVar 2)) wNil))) [2]))
def w__law_letters : WS :=
  (wSeq (wIfS (wBb (wOp opEq (wVar 1) (wC (.str "flip")))) (wRet (wLst wNil)) wNext)
  w__law_letters_1)
def w__law_is_fault_1 : WS :=
  (wRet (wAndV (wCB bIsi (wCons (wIx (wVar 0) (wC (.int 2))) (wCons (wC (.ty .tstr)) wNil))) (wOp opInD (wIx (wVar 0) (wC (.int 2))) (wOp opAdd (wCall sp__law_pairs wNil) (wLst (wCons (wC (.str "X")) (wCons (wC (.str "Y")) (wCons (wC (.str "Z")) (wCons (wC (.str "flip")) wNil)))))))))
def w__law_is_fault : WS :=
  (wSeq (wIfS (wOr (wNot (wB (wCB bIsi (wCons (wVar 0) (wCons (wC (.ty .ttup)) wNil))))) (wOr (wBb (wOp opNe (wCB bLen (wCons (wVar 0) wNil)) (wC (.int 3)))) (wOr (wNot (wB (wCall sp__law_is_count (wCons (wIx (wVar 0) (wC (.int 0))) wNil)))) (wNot (wB (wCall sp__law_is_count (wCons (wIx (wVar 0) (wC (.int 1))) wNil))))))) (wRet (wC (.bl false))) wNext)
  w__law_is_fault_1)
def w_law_b2_1 : WS :=
  (wIfS (wOr (wNot (wB (wCB bIsi (wCons (wVar 7) (wCons (wC (.ty .tbool)) wNil))))) (wBb (wOp opNe (wVar 7) (wCall sp__law_is_op (wCons (wVar 4) wNil))))) (wRet (wC (.bl false))) wNext)
def w_law_b2 : WS :=
  (wSeq (wAsg (wCall sp_is_op (wCons (wVar 4) wNil)) (gVar 7))
  w_law_b2_1)
def w_law_b3 : WS :=
  (wIfS (wBb (wOp opNe (wCall sp_letters_of (wCons (wVar 3) (wCons (wVar 5) wNil))) (wCall sp__law_letters (wCons (wVar 3) (wCons (wVar 5) wNil))))) (wRet (wC (.bl false))) wNext)
def w_law_b4_1 : WS :=
  (wIfS (wOr (wNot (wB (wCB bIsi (wCons (wVar 7) (wCons (wC (.ty .tbool)) wNil))))) (wBb (wOp opNe (wVar 7) (wCall sp__law_is_fault (wCons (wVar 4) wNil))))) (wRet (wC (.bl false))) wNext)
def w_law_b4 : WS :=
  (wSeq (wAsg (wCall sp_is_fault (wCons (wVar 4) wNil)) (gVar 7))
  w_law_b4_1)
def w_law_b1_5 : WS :=
  (wFor (wItT (wTup (wCons (wVar 6) (wCons (wCall sp__law_bent (wCons (wVar 1) (wCons (wVar 6) wNil))) wNil)))) (gVar 4) w_law_b4)
def w_law_b1_4 : WS :=
  (wSeq (wAsg (wTup (wCons (wCall sp__law_next (wCons (wVar 1) (wCons (wC (.int 9)) wNil))) (wCons (wCall sp__law_next (wCons (wVar 1) (wCons (wC (.int 300)) wNil))) (wCons (wVar 5) wNil)))) (gVar 6))
  w_law_b1_5)
def w_law_b1_3 : WS :=
  (wSeq (wAsg (wIx (wOp opAdd (wCall sp__law_pairs wNil) (wLst (wCons (wC (.str "X")) (wCons (wC (.str "Y")) (wCons (wC (.str "Z")) (wCons (wC (.str "flip")) (wCons (wC (.str "II")) (wCons (wC (.str "I")) (wCons (wC (.str "")) wNil))))))))) (wCall sp__law_next (wCons (wVar 1) (wCons (wC (.int 22)) wNil)))) (gVar 5))
  w_law_b1_4)
def w_law_b1_2 : WS :=
  (wSeq (wIfS (wB (wCall sp__law_is_op (wCons (wVar 3) wNil))) (wSeq (wIfS (wBb (wOp opNe (wCall sp_words_of (wCons (wVar 3) wNil)) (wCall sp__law_words (wCons (wVar 3) wNil)))) (wRet (wC (.bl false))) wNext)
  (wFor (wItL (wCall sp_words_of (wCons (wVar 3) wNil))) (gVar 5) w_law_b3)) wNext)
  w_law_b1_3)
def w_law_b1_1 : WS :=
  (wSeq (wFor (wItT (wTup (wCons (wVar 3) (wCons (wCall sp__law_bent (wCons (wVar 1) (wCons (wVar 3) wNil))) wNil)))) (gVar 4) w_law_b2)
  w_law_b1_2)
def w_law_b1 : WS :=
  (wSeq (wAsg (wCall sp__law_op (wCons (wVar 1) wNil)) (gVar 3))
  w_law_b1_1)
def w_law_2 : WS :=
  (wRet (wAndV (wNotV (wCall sp_is_op (wCons (wC (.str "cp")) wNil))) (wNotV (wCall sp_is_fault (wCons (wC .non) wNil)))))
def w_law_1 : WS :=
  (wSeq (wFor (wRng1 (wCons (wOp opAdd (wC (.int 2)) (wCall sp__law_next (wCons (wVar 1) (wCons (wC (.int 12)) wNil)))) wNil)) (gVar 2) w_law_b1)
  w_law_2)
def w_law : WS :=
  (wSeq (wSetM 1 (wLst (wCons (wCB bLst (wCons (wVar 0) wNil)) (wCons (wC (.int 0)) (wCons (wC (.int 0)) (wCons (wC (.int 23)) wNil))))))
  w_law_1)
end K08

set_option Elab.async false
set_option linter.all false
set_option maxRecDepth 100000
set_option maxHeartbeats 4000000
namespace K08
open PySem PySem.Spec PyProof.Rows L2 VL
local macro_rules | `(tactic| walk_at "n") => `(tactic| try dsimp only [Sg.st, Sg.ob, wipeS, List.set, List.map, List.replicate, List.cons_append, List.nil_append])
local macro_rules | `(tactic| walk_at "s") => `(tactic| first
  | refine VL.brT rfl ?_
  | refine VL.brF rfl ?_
  | refine ⟨rfl, ?_⟩
  | refine ⟨by decide, ?_⟩
  | refine ⟨_, rfl, ?_⟩)
local macro_rules | `(tactic| walk_at "t") => `(tactic| (walk_at "s"; walk_at "n"))
local macro_rules | `(tactic| walk_at "r") => `(tactic| repeat (walk_at "s"; walk_at "n"))
theorem pk__law_next : Pk 2 2 sp__law_next w__law_next := pk_next
theorem pk_is_integer : Pk 1 0 sp_is_integer w_is_integer := by
  rintro ds h R _ ⟨v, rfl, hv, hR⟩
  cases hv with
  | int i => exact ⟨_, rfl, brT rfl ⟨_, rfl, brT rfl hR⟩⟩
  | bl b => exact ⟨_, rfl, brT rfl ⟨_, rfl, brF rfl hR⟩⟩
  | _ => exact ⟨_, rfl, brF rfl hR⟩
theorem pk__law_is_count : Pk 1 0 sp__law_is_count w__law_is_count := pk_is_integer
theorem sim_sh {d : D} (h : Sim d) : inOk d one6 = true := by
  cases h with
  | str x => rfl
  | unit => decide +kernel
  | _ => rfl
theorem sim_three {d : D} (h : Sim d) : inOk d three = true := by
  cases h with
  | str x => rfl
  | unit => decide +kernel
  | _ => rfl
theorem isint_of {d : D} (h : isInt d = true) : ∃ i : Int, d = .int i := by
  cases d <;> first | exact ⟨_, rfl⟩ | cases h
theorem at0 {x : D} {xs : List D} : atI (x :: xs) 0 = some x := by
  unfold atI ixN
  rw [if_pos (by decide), if_pos (by rw [List.length_cons]; omega)]
  rfl
theorem at1 {x y : D} {xs : List D} : atI (x :: y :: xs) 1 = some y := by
  unfold atI ixN
  rw [if_pos (by decide), if_pos (by rw [List.length_cons, List.length_cons]; omega)]
  rfl
/-- the row of signs beside an op's name -/
def nameIn (k : Str) : Bool := inD (.str k) one6
theorem op1 {k : Str} {x : D} {r : List D} {h : Oh} {R : D → Oh → Prop} (hx : Sim x) (hr : ∀ d ∈ r, Sim d) (hR : R (.bl (opT (.str k) (x :: r))) h) : w_is_op_1 (Fi R) ⟨[.f (.tup (.str k :: x :: r))], h⟩ := by
  unfold opT at hR
  refine ⟨.str k, at0, rfl, ?_⟩
  refine br (fun e => ?_) (fun e => ?_)
  · have e' : inD (.str k) one6 = true := e
    rw [if_pos e'] at hR
    cases r with
    | nil => exact brT rfl ⟨x, at1, x, rfl, hx, hR⟩
    | cons y r => exact brF (decide_eq_false (p := (((y :: r).length + 2 : Nat) : Int) = 2) (by rw [List.length_cons]; omega)) hR
  · have e' : inD (.str k) one6 = false := e
    rw [if_neg (by rw [e']; decide)] at hR
    refine ⟨.str k, at0, ?_⟩
    refine br (fun e2 => ?_) (fun e2 => ?_)
    · have e3 : eqD (.str k) (.str "cp") = false := (Bool.not_eq_true' _).mp e2
      rw [if_neg (by rw [e3]; decide)] at hR
      exact brT rfl hR
    · have e3 : eqD (.str k) (.str "cp") = true := (Bool.not_eq_false' _).mp e2
      rw [if_pos e3] at hR
      have long : ∀ n : Nat, n ≠ 4 → R (.bl false) h → w_is_op_3 (Fi R) ⟨[.f (.tup (.str k :: x :: r))], h⟩ → True := fun _ _ _ _ => trivial
      match r, hr, hR with
      | [], _, hR => exact brT rfl (brT rfl hR)
      | [y], _, hR => exact brT rfl (brT rfl hR)
      | y :: z :: u :: r, _, hR => exact brT (Bool.not_eq_true' _ |>.mpr (beq_false_of_ne (a := (((y :: z :: u :: r).length + 2 : Nat) : Int)) (b := 4) (by simp only [List.length_cons]; omega))) (brT rfl hR)
      | [y, z], hr, hR =>
        have hy := hr y (by simp)
        have hz := hr z (by simp)
        refine brF rfl ⟨x, rfl, x, rfl, hx, ?_⟩
        refine br (fun e4 => ?_) (fun e4 => ?_)
        · have e5 : isInt x = false := (Bool.not_eq_true' _).mp e4
          have hR' : R (.bl (isInt x && isInt y && !eqD x y && inD z three)) h := hR
          rw [e5] at hR'
          exact brT rfl hR'
        · have e5 : isInt x = true := (Bool.not_eq_false' _).mp e4
          refine ⟨y, rfl, y, rfl, hy, ?_⟩
          refine br (fun e6 => ?_) (fun e6 => ?_)
          · have e7 : isInt y = false := (Bool.not_eq_true' _).mp e6
            have hR' : R (.bl (isInt x && isInt y && !eqD x y && inD z three)) h := hR
            rw [e5, e7] at hR'
            exact hR'
          · have e7 : isInt y = true := (Bool.not_eq_false' _).mp e6
            have hR' : R (.bl (isInt x && isInt y && !eqD x y && inD z three)) h := hR
            rw [e5, e7] at hR'
            obtain ⟨a, rfl⟩ := isint_of e5
            obtain ⟨b, rfl⟩ := isint_of e7
            refine ⟨_, rfl, _, rfl, ?_⟩
            refine br (fun e8 => ?_) (fun e8 => ?_)
            · have e9 : eqD (.int a) (.int b) = false := (Bool.not_eq_true' _).mp e8
              rw [e9] at hR'
              exact ⟨z, rfl, sim_three hz, hR'⟩
            · have e9 : eqD (.int a) (.int b) = true := (Bool.not_eq_false' _).mp e8
              rw [e9] at hR'
              exact hR'
theorem pk_is_op : Pk 1 0 sp_is_op w_is_op := by
  rintro ds h R _ ⟨v, rfl, hv, hR⟩
  cases hv with
  | sim hs => cases hs <;> first
    | exact ⟨_, rfl, brT rfl (brT rfl hR)⟩
    | exact ⟨_, rfl, brF rfl (brT rfl (brT rfl hR))⟩
  | lst => exact ⟨_, rfl, brT rfl (brT rfl hR)⟩
  | @tup ds hd =>
    match ds, hd, hR with
    | [], _, hR => exact ⟨_, rfl, brF rfl (brT rfl (brT rfl hR))⟩
    | [x], _, hR => exact ⟨_, rfl, brF rfl (brT rfl (brT rfl hR))⟩
    | k :: x :: r, hd, hR =>
      have hk := hd k (by simp)
      have hx := hd x (by simp)
      have hr : ∀ d ∈ r, Sim d := fun d hd' => hd d (by simp [hd'])
      refine ⟨_, rfl, brF rfl (brF (decide_eq_false (p := ((r.length + 2 : Nat) : Int) < 2) (by omega)) ⟨k, at0, ?_⟩)⟩
      cases hk with
      | str k => exact ⟨_, rfl, brF rfl (op1 hx hr hR)⟩
      | _ => exact ⟨_, rfl, brT rfl hR⟩
theorem pk__law_is_op : Pk 1 0 sp__law_is_op w__law_is_op := by
  rintro ds h R _ ⟨v, rfl, hv, hR⟩
  cases hv with
  | sim hs => cases hs <;> first
    | exact ⟨_, rfl, brT rfl (brT rfl hR)⟩
    | exact ⟨_, rfl, brF rfl (brT rfl hR)⟩
  | lst => exact ⟨_, rfl, brT rfl (brT rfl hR)⟩
  | @tup ds hd =>
    match ds, hd, hR with
    | [], _, hR => exact ⟨_, rfl, brF rfl (brT rfl hR)⟩
    | [x], _, hR => exact ⟨_, rfl, brF rfl (brT rfl hR)⟩
    | k :: x :: r, hd, hR =>
      have hk := hd k (by simp)
      have hx := hd x (by simp)
      have hr : ∀ d ∈ r, Sim d := fun d hd' => hd d (by simp [hd'])
      refine ⟨_, rfl, brF rfl (brF (decide_eq_false (p := ((r.length + 2 : Nat) : Int) < 2) (by omega)) ?_)⟩
      cases hk with
      | str k => exact op1 hx hr hR
      | _ => exact ⟨_, at0, sim_sh (by constructor), brF rfl ⟨_, at0, rfl, by decide +kernel, brT rfl (brT rfl hR)⟩⟩
theorem fl19 : (prs ++ [.str "X", .str "Y", .str "Z", .str "flip"] : List D).all flat = true := by decide +kernel
theorem pk_is_fault : Pk 1 0 sp_is_fault w_is_fault := by
  rintro ds h R _ ⟨v, rfl, hv, hR⟩
  cases hv with
  | sim hs => cases hs <;> first
    | exact ⟨_, rfl, brT rfl (brT rfl hR)⟩
    | exact ⟨_, rfl, brF rfl (brT rfl (brT rfl hR))⟩
  | lst => exact ⟨_, rfl, brT rfl (brT rfl hR)⟩
  | @tup ds hd =>
    match ds, hd, hR with
    | [], _, hR => exact ⟨_, rfl, brF rfl (brT rfl (brT rfl hR))⟩
    | [x], _, hR => exact ⟨_, rfl, brF rfl (brT rfl (brT rfl hR))⟩
    | [x, y], _, hR => exact ⟨_, rfl, brF rfl (brT rfl (brT rfl hR))⟩
    | x :: y :: z :: u :: r, _, hR => exact ⟨_, rfl, brF rfl (brT (Bool.not_eq_true' _ |>.mpr (beq_false_of_ne (a := (((x :: y :: z :: u :: r).length : Nat) : Int)) (b := 3) (by simp only [List.length_cons]; omega))) (brT rfl hR))⟩
    | [x, y, z], hd, hR =>
      have hx := hd x (by simp)
      have hy := hd y (by simp)
      have hz := hd z (by simp)
      have hR' : R (.bl (isInt x && isInt y && isStr z && inD z (prs ++ [.str "X", .str "Y", .str "Z", .str "flip"]))) h := hR
      refine ⟨_, rfl, brF rfl (brF rfl ⟨x, rfl, x, rfl, hx, ?_⟩)⟩
      refine br (fun e4 => ?_) (fun e4 => ?_)
      · have e5 : isInt x = false := (Bool.not_eq_true' _).mp e4
        rw [e5] at hR'
        exact brT rfl hR'
      · have e5 : isInt x = true := (Bool.not_eq_false' _).mp e4
        refine ⟨y, rfl, y, rfl, hy, ?_⟩
        refine br (fun e6 => ?_) (fun e6 => ?_)
        · have e7 : isInt y = false := (Bool.not_eq_true' _).mp e6
          rw [e5, e7] at hR'
          exact hR'
        · have e7 : isInt y = true := (Bool.not_eq_false' _).mp e6
          rw [e5, e7] at hR'
          cases hz with
          | str z => exact ⟨_, rfl, _, rfl, brT rfl ⟨_, rfl, by decide, rfl, hR'⟩⟩
          | _ => exact ⟨_, rfl, _, rfl, brF rfl hR'⟩
theorem pk_words_of : Pk 1 0 sp_words_of w_words_of := by
  rintro ds h R _ ⟨v, rfl, hv, hR⟩
  cases hv with
  | one k a hk ha =>
    simp only [one6, List.mem_cons, List.not_mem_nil, or_false] at hk
    rcases hk with rfl | rfl | rfl | rfl | rfl | rfl
    · exact ⟨_, rfl, brF rfl ⟨_, rfl, rfl, brF rfl ⟨_, rfl, brF rfl hR⟩⟩⟩
    · exact ⟨_, rfl, brF rfl ⟨_, rfl, rfl, brF rfl ⟨_, rfl, brF rfl hR⟩⟩⟩
    · exact ⟨_, rfl, brF rfl ⟨_, rfl, rfl, brT rfl hR⟩⟩
    · exact ⟨_, rfl, brF rfl ⟨_, rfl, rfl, brT rfl hR⟩⟩
    · exact ⟨_, rfl, brF rfl ⟨_, rfl, rfl, brF rfl ⟨_, rfl, brF rfl hR⟩⟩⟩
    · exact ⟨_, rfl, brF rfl ⟨_, rfl, rfl, brF rfl ⟨_, rfl, brT rfl hR⟩⟩⟩
  | cp a b z hz ha hb => exact ⟨_, rfl, brT rfl hR⟩
theorem pairs_turn {T : We} {h : Oh} {f : List D} {c : Nat} (hf : f.length ≤ 100) (k : T.nx ⟨[.f (.lst (f ++ [.str (⟨#[c]⟩ ++ "I"), .str (⟨#[c]⟩ ++ "X"), .str (⟨#[c]⟩ ++ "Y"), .str (⟨#[c]⟩ ++ "Z")])), .f (.str ⟨#[c]⟩), .u], h⟩) :
    w__law_pairs_b1 T ⟨[.f (.lst f), .f (.str ⟨#[c]⟩), .u], h⟩ := by
  have l1 : (⟨#[c]⟩ : Str).length + 1 ≤ sizeLine := by show 2 ≤ sizeLine; decide
  refine ⟨rfl, by decide, brT rfl ⟨l1, rfl, brT rfl ⟨l1, rfl, brT rfl ⟨l1, rfl, brT rfl ⟨l1, rfl, ?_⟩⟩⟩⟩⟩
  refine ⟨?_, k⟩
  show f.length + 4 ≤ sizeLine
  have := sizeLine_eq
  omega
theorem pk__law_pairs : Pk 0 3 sp__law_pairs w__law_pairs := by
  rintro ds h R _ ⟨rfl, hR⟩
  change wForL (gVar 1) w__law_pairs_b1 { Fi R with nx := w__law_pairs_2 (Fi R) } [.str ⟨#[73]⟩, .str ⟨#[88]⟩, .str ⟨#[89]⟩, .str ⟨#[90]⟩] ⟨[.f (.lst []), .u, .u], h⟩
  dsimp only
  refine forv ?_
  refine pairs_turn ?_ ?_
  · decide
  dsimp only
  refine forv ?_
  refine pairs_turn ?_ ?_
  · decide
  dsimp only
  refine forv ?_
  refine pairs_turn ?_ ?_
  · decide
  dsimp only
  refine forv ?_
  refine pairs_turn ?_ ?_
  · decide
  exact hR
theorem pk__law_words : Pk 1 0 sp__law_words w__law_words := by
  rintro ds h R _ ⟨v, rfl, hv, hR⟩
  cases hv with
  | one k a hk ha =>
    simp only [one6, List.mem_cons, List.not_mem_nil, or_false] at hk
    rcases hk with rfl | rfl | rfl | rfl | rfl | rfl
    · exact ⟨_, rfl, brF rfl ⟨_, rfl, rfl, brF rfl ⟨_, rfl, by decide, by decide, by decide, hR⟩⟩⟩
    · exact ⟨_, rfl, brF rfl ⟨_, rfl, rfl, brF rfl ⟨_, rfl, by decide, by decide, by decide, hR⟩⟩⟩
    · exact ⟨_, rfl, brF rfl ⟨_, rfl, rfl, brT rfl hR⟩⟩
    · exact ⟨_, rfl, brF rfl ⟨_, rfl, rfl, brT rfl hR⟩⟩
    · exact ⟨_, rfl, brF rfl ⟨_, rfl, rfl, brF rfl ⟨_, rfl, by decide, by decide, by decide, hR⟩⟩⟩
    · exact ⟨_, rfl, brF rfl ⟨_, rfl, rfl, brF rfl ⟨_, rfl, by decide, by decide, by decide, hR⟩⟩⟩
  | cp a b z hz ha hb => exact ⟨_, rfl, brT rfl ⟨rfl, hR⟩⟩
theorem pk__law_op : Pk 1 2 sp__law_op w__law_op := by
  rintro ds h R _ ⟨a, rfl, hT, hR⟩
  refine draw hT (by decide) (by decide) fun k h1 k0 k1 hT1 b1 => ?_
  refine draw hT1 (by decide) (by decide) fun q h2 q0 q1 hT2 b2 => ?_
  change w__law_op_2 (Fi R) ⟨[.f (.obj a), .f (.int k), .f (.int q)], h2⟩
  refine br (fun e => ?_) (fun e => ?_)
  · have e' : k < 6 := of_decide_eq_true e
    have c : k = 0 ∨ k = 1 ∨ k = 2 ∨ k = 3 ∨ k = 4 ∨ k = 5 := by omega
    rcases c with rfl | rfl | rfl | rfl | rfl | rfl <;> exact ⟨_, rfl, hR _ _ (.one _ _ (by simp [one6]) q0) hT2 (b1.trans b2)⟩
  · have e' : ¬ k < 6 := of_decide_eq_false e
    refine draw hT2 (by decide) (by decide) fun u h3 u0 u1 hT3 b3 => ?_
    have c : k = 6 ∨ k = 7 ∨ k = 8 := by omega
    rcases c with rfl | rfl | rfl <;> exact ⟨_, rfl, hR _ _ (.cp _ _ _ (by simp [three]) q0 u0) hT3 ((b1.trans b2).trans b3)⟩
end K08

set_option Elab.async false
set_option linter.all false
set_option maxRecDepth 100000
set_option maxHeartbeats 4000000
namespace K08
open PySem PySem.Spec PyProof.Rows L2 VL
def let1 (a : Int) (c : Nat) : List D := if c = 73 then [] else [.tup [.int a, .str ⟨#[c]⟩]]
theorem one_w (k : D) (a : Int) (c : Nat) (hc : c = 88 ∨ c = 89 ∨ c = 90) {h : Oh} {R : D → Oh → Prop} (hR : R (.lst (let1 a c)) h) : w_letters_of (Fi R) ⟨[.f (.tup [k, .int a]), .f (.str ⟨#[c]⟩), .u, .u], h⟩ := by
  refine brF (by rcases hc with rfl | rfl | rfl <;> decide +kernel) ?_
  refine ⟨rfl, (by show 1 ≤ 1000000; decide), ?_⟩
  rcases hc with rfl | rfl | rfl <;> exact ⟨rfl, brT rfl ⟨rfl, hR⟩⟩
theorem two_w (k z : D) (a b : Int) (c d : Nat) (hc : c = 73 ∨ c = 88 ∨ c = 89 ∨ c = 90) (hd : d = 73 ∨ d = 88 ∨ d = 89 ∨ d = 90) {h : Oh} {R : D → Oh → Prop} (hR : R (.lst (let1 a c ++ let1 b d)) h) :
    w_letters_of (Fi R) ⟨[.f (.tup [k, .int a, .int b, z]), .f (.str ⟨#[c, d]⟩), .u, .u], h⟩ := by
  refine brF (by rcases hc with rfl | rfl | rfl | rfl <;> rcases hd with rfl | rfl | rfl | rfl <;> decide +kernel) ?_
  refine ⟨rfl, (by show 2 ≤ 1000000; decide), ?_⟩
  rcases hc with rfl | rfl | rfl | rfl <;> rcases hd with rfl | rfl | rfl | rfl <;> first
    | exact ⟨rfl, brT rfl ⟨rfl, rfl, brT rfl ⟨rfl, hR⟩⟩⟩
    | exact ⟨rfl, brF rfl ⟨rfl, rfl, brT rfl ⟨rfl, hR⟩⟩⟩
    | exact ⟨rfl, brT rfl ⟨rfl, rfl, brF rfl ⟨rfl, hR⟩⟩⟩
    | exact ⟨rfl, brF rfl ⟨rfl, rfl, brF rfl ⟨rfl, hR⟩⟩⟩
theorem one_l (k : D) (a : Int) (c : Nat) (hc : c = 88 ∨ c = 89 ∨ c = 90) {h : Oh} {R : D → Oh → Prop} (hR : R (.lst (let1 a c)) h) : w__law_letters (Fi R) ⟨[.f (.tup [k, .int a]), .f (.str ⟨#[c]⟩), .u], h⟩ := by
  have l1 : (⟨#[c]⟩ : Str).length ≤ sizeLine := by show 1 ≤ sizeLine; decide
  refine brF (by rcases hc with rfl | rfl | rfl <;> decide +kernel) ?_
  have e1 : (((⟨#[c]⟩ : Str).length : Nat) : Int) = 1 := rfl
  refine ⟨l1, ⟨by rw [e1]; decide, by rw [e1]; decide⟩, rfl, (by show 1 ≤ 1000000; decide), ?_⟩
  rcases hc with rfl | rfl | rfl <;> exact ⟨l1, _, rfl, brT rfl ⟨_, rfl, l1, _, rfl, rfl, hR⟩⟩
theorem two_l (k z : D) (a b : Int) (c d : Nat) (hc : c = 73 ∨ c = 88 ∨ c = 89 ∨ c = 90) (hd : d = 73 ∨ d = 88 ∨ d = 89 ∨ d = 90) {h : Oh} {R : D → Oh → Prop} (hR : R (.lst (let1 a c ++ let1 b d)) h) :
    w__law_letters (Fi R) ⟨[.f (.tup [k, .int a, .int b, z]), .f (.str ⟨#[c, d]⟩), .u], h⟩ := by
  have l1 : (⟨#[c, d]⟩ : Str).length ≤ sizeLine := by show 2 ≤ sizeLine; decide
  refine brF (by rcases hc with rfl | rfl | rfl | rfl <;> rcases hd with rfl | rfl | rfl | rfl <;> decide +kernel) ?_
  have e1 : (((⟨#[c, d]⟩ : Str).length : Nat) : Int) = 2 := rfl
  refine ⟨l1, ⟨by rw [e1]; decide, by rw [e1]; decide⟩, rfl, (by show 2 ≤ 1000000; decide), ?_⟩
  rcases hc with rfl | rfl | rfl | rfl <;> rcases hd with rfl | rfl | rfl | rfl <;> first
    | exact ⟨l1, _, rfl, brT rfl ⟨_, rfl, l1, _, rfl, rfl, l1, _, rfl, brT rfl ⟨_, rfl, l1, _, rfl, rfl, hR⟩⟩⟩
    | exact ⟨l1, _, rfl, brF rfl ⟨rfl, l1, _, rfl, brT rfl ⟨_, rfl, l1, _, rfl, rfl, hR⟩⟩⟩
    | exact ⟨l1, _, rfl, brT rfl ⟨_, rfl, l1, _, rfl, rfl, l1, _, rfl, brF rfl ⟨rfl, hR⟩⟩⟩
    | exact ⟨l1, _, rfl, brF rfl ⟨rfl, l1, _, rfl, brF rfl ⟨rfl, hR⟩⟩⟩
/-- an operation and one of its words: the letters are told by one or two signs -/
theorem word_cases {v w : D} (hv : OpV v) (hw : w ∈ wordsD v) (P : D → D → D → Prop) (hf : ∀ v, P v (.str "flip") (.lst []))
    (h1 : ∀ (k : D) (a : Int) (c : Nat), c = 88 ∨ c = 89 ∨ c = 90 → P (.tup [k, .int a]) (.str ⟨#[c]⟩) (.lst (let1 a c)))
    (h2 : ∀ (k z : D) (a b : Int) (c d : Nat), (c = 73 ∨ c = 88 ∨ c = 89 ∨ c = 90) → (d = 73 ∨ d = 88 ∨ d = 89 ∨ d = 90) → P (.tup [k, .int a, .int b, z]) (.str ⟨#[c, d]⟩) (.lst (let1 a c ++ let1 b d))) : P v w (.lst (lettersD v w)) := by
  cases hv with
  | one k a hk ha =>
    simp only [one6, List.mem_cons, List.not_mem_nil, or_false] at hk
    have three_ : ∀ k : Str, w ∈ three → P (.tup [.str k, .int a]) w (.lst (lettersD (.tup [.str k, .int a]) w)) := fun k hw => by
      simp only [three, List.mem_cons, List.not_mem_nil, or_false] at hw
      rcases hw with rfl | rfl | rfl
      · exact h1 _ a 88 (by simp)
      · exact h1 _ a 89 (by simp)
      · exact h1 _ a 90 (by simp)
    rcases hk with rfl | rfl | rfl | rfl | rfl | rfl
    · exact three_ _ hw
    · exact three_ _ hw
    · cases List.mem_singleton.mp hw; exact hf _
    · cases List.mem_singleton.mp hw; exact hf _
    · exact three_ _ hw
    · cases hw
  | cp a b z hz ha hb =>
    have hw' : w ∈ prs := hw
    simp only [prs, List.mem_cons, List.not_mem_nil, or_false] at hw'
    rcases hw' with rfl | rfl | rfl | rfl | rfl | rfl | rfl | rfl | rfl | rfl | rfl | rfl | rfl | rfl | rfl
    · exact h2 _ z a b 73 88 (by simp) (by simp)
    · exact h2 _ z a b 73 89 (by simp) (by simp)
    · exact h2 _ z a b 73 90 (by simp) (by simp)
    · exact h2 _ z a b 88 73 (by simp) (by simp)
    · exact h2 _ z a b 88 88 (by simp) (by simp)
    · exact h2 _ z a b 88 89 (by simp) (by simp)
    · exact h2 _ z a b 88 90 (by simp) (by simp)
    · exact h2 _ z a b 89 73 (by simp) (by simp)
    · exact h2 _ z a b 89 88 (by simp) (by simp)
    · exact h2 _ z a b 89 89 (by simp) (by simp)
    · exact h2 _ z a b 89 90 (by simp) (by simp)
    · exact h2 _ z a b 90 73 (by simp) (by simp)
    · exact h2 _ z a b 90 88 (by simp) (by simp)
    · exact h2 _ z a b 90 89 (by simp) (by simp)
    · exact h2 _ z a b 90 90 (by simp) (by simp)
theorem pk_letters_of : Pk 2 2 sp_letters_of w_letters_of := by
  rintro ds h R _ ⟨v, w, rfl, hv, hw, hR⟩
  exact word_cases hv hw (fun v w l => R l h → w_letters_of (Fi R) ⟨[.f v, .f w, .u, .u], h⟩) (fun v hR => brT (by decide +kernel) hR) (fun k a c hc hR => one_w k a c hc hR) (fun k z a b c d hc hd hR => two_w k z a b c d hc hd hR) hR
theorem pk__law_letters : Pk 2 1 sp__law_letters w__law_letters := by
  rintro ds h R _ ⟨v, w, rfl, hv, hw, hR⟩
  exact word_cases hv hw (fun v w l => R l h → w__law_letters (Fi R) ⟨[.f v, .f w, .u], h⟩) (fun v hR => brT (by decide +kernel) hR) (fun k a c hc hR => one_l k a c hc hR) (fun k z a b c d hc hd hR => two_l k z a b c d hc hd hR) hR
end K08

set_option Elab.async false
set_option linter.all false
set_option maxRecDepth 100000
set_option maxHeartbeats 4000000
namespace K08
open PySem PySem.Spec PyProof.Rows L2 VL
theorem cut_mem {xs : List D} {lo hi : Option Int} {d : D} (h : d ∈ VL.cutD xs lo hi) : d ∈ xs := List.mem_of_mem_drop (List.mem_of_mem_take h)
theorem cut_len {xs : List D} {lo hi : Option Int} : (VL.cutD xs lo hi).length ≤ xs.length := by
  unfold VL.cutD
  rw [List.length_take, List.length_drop]
  omega
def odds : List D := [.non, .int (-1), .bl true, .str "I", .str "cz", .int 3, .str "X", .tup [], .str "wait"]
theorem odd_at {v : Int} (h0 : 0 ≤ v) (h1 : v < 9) : ∃ d, atI odds v = some d ∧ Sim d := by
  have c : v = 0 ∨ v = 1 ∨ v = 2 ∨ v = 3 ∨ v = 4 ∨ v = 5 ∨ v = 6 ∨ v = 7 ∨ v = 8 := by omega
  rcases c with rfl | rfl | rfl | rfl | rfl | rfl | rfl | rfl | rfl
  · exact ⟨_, rfl, .non⟩
  · exact ⟨_, rfl, .int _⟩
  · exact ⟨_, rfl, .bl _⟩
  · exact ⟨_, rfl, .str _⟩
  · exact ⟨_, rfl, .str _⟩
  · exact ⟨_, rfl, .int _⟩
  · exact ⟨_, rfl, .str _⟩
  · exact ⟨_, rfl, .unit⟩
  · exact ⟨_, rfl, .str _⟩
theorem pk__law_bent : Pk 2 3 sp__law_bent w__law_bent := by
  rintro ds h R _ ⟨a, xs, rfl, hs, h0, h9, hT, hR⟩
  have hsz := sizeLine_eq
  refine draw hT (by omega) (by omega) fun at_ h1 a0 a1 hT1 b1 => ?_
  refine draw hT1 (by decide) (by decide) fun q h2 q0 q1 hT2 b2 => ?_
  obtain ⟨odd, hodd, so⟩ := odd_at q0 q1
  refine ⟨odd, hodd, ?_⟩
  refine draw hT2 (by decide) (by decide) fun k h3 k0 k1 hT3 b3 => ?_
  have b := (b1.trans b2).trans b3
  change w__law_bent_3 (Fi R) ⟨[.f (.obj a), .f (.tup xs), .f (.int at_), .f odd, .f (.int k)], h3⟩
  refine br (fun e => ?_) (fun e => ?_)
  · refine ⟨?_, ?_, hR _ _ (.tup fun d hd => ?_) hT3 b⟩
    · have := cut_len (xs := xs) (lo := none) (hi := some at_)
      show (VL.cutD xs none (some at_)).length + 1 ≤ sizeLine
      omega
    · have l1 := cut_len (xs := xs) (lo := none) (hi := some at_)
      have l2 := cut_len (xs := xs) (lo := some (at_ + 1)) (hi := none)
      rw [List.length_append]
      show (VL.cutD xs none (some at_)).length + 1 + _ ≤ sizeLine
      omega
    · rcases List.mem_append.mp hd with z | z
      · rcases List.mem_append.mp z with z | z
        · exact hs _ (cut_mem z)
        · rw [List.mem_singleton.mp z]; exact so
      · exact hs _ (cut_mem z)
  · refine br (fun e => ?_) (fun e => ?_)
    · refine ⟨?_, hR _ _ (.tup fun d hd => ?_) hT3 b⟩
      · have l1 := cut_len (xs := xs) (lo := none) (hi := some at_)
        have l2 := cut_len (xs := xs) (lo := some (at_ + 1)) (hi := none)
        omega
      · rcases List.mem_append.mp hd with z | z
        · exact hs _ (cut_mem z)
        · exact hs _ (cut_mem z)
    · refine br (fun e => ?_) (fun e => ?_)
      · refine ⟨(by show xs.length + 1 ≤ sizeLine; omega), hR _ _ (.tup fun d hd => ?_) hT3 b⟩
        rcases List.mem_append.mp hd with z | z
        · exact hs _ z
        · rw [List.mem_singleton.mp z]; exact so
      · match xs, hs, h0, hR with
        | x :: r, hs, h0, hR =>
          refine ⟨x, at0, ?_⟩
          refine draw hT3 (by decide) (by decide) fun u h4 u0 u1 hT4 b4 => ?_
          have b' := b.trans b4
          have c : u = 0 ∨ u = 1 ∨ u = 2 ∨ u = 3 := by omega
          rcases c with rfl | rfl | rfl | rfl
          · exact ⟨_, rfl, hR _ _ (.lst hs) hT4 b'⟩
          · exact ⟨_, rfl, hR _ _ (.sim .non) hT4 b'⟩
          · exact ⟨_, rfl, hR _ _ (.sim (hs x (by simp))) hT4 b'⟩
          · exact ⟨_, rfl, hR _ _ (.tup hs) hT4 b'⟩
theorem pk__law_is_fault : Pk 1 0 sp__law_is_fault w__law_is_fault := by
  rintro ds h R _ ⟨v, rfl, hv, hR⟩
  cases hv with
  | sim hs => cases hs <;> first
    | exact ⟨_, rfl, brT rfl (brT rfl hR)⟩
    | exact ⟨_, rfl, brF rfl (brT rfl (brT rfl hR))⟩
  | lst => exact ⟨_, rfl, brT rfl (brT rfl hR)⟩
  | @tup ds hd =>
    match ds, hd, hR with
    | [], _, hR => exact ⟨_, rfl, brF rfl (brT rfl (brT rfl hR))⟩
    | [x], _, hR => exact ⟨_, rfl, brF rfl (brT rfl (brT rfl hR))⟩
    | [x, y], _, hR => exact ⟨_, rfl, brF rfl (brT rfl (brT rfl hR))⟩
    | x :: y :: z :: u :: r, _, hR => exact ⟨_, rfl, brF rfl (brT (Bool.not_eq_true' _ |>.mpr (beq_false_of_ne (a := (((x :: y :: z :: u :: r).length : Nat) : Int)) (b := 3) (by simp only [List.length_cons]; omega))) (brT rfl hR))⟩
    | [x, y, z], hd, hR =>
      have hx := hd x (by simp)
      have hy := hd y (by simp)
      have hz := hd z (by simp)
      have hR' : R (.bl (isInt x && isInt y && isStr z && inD z (prs ++ [.str "X", .str "Y", .str "Z", .str "flip"]))) h := hR
      refine ⟨_, rfl, brF rfl (brF rfl ⟨x, rfl, x, rfl, hx, ?_⟩)⟩
      refine br (fun e4 => ?_) (fun e4 => ?_)
      · have e5 : isInt x = false := (Bool.not_eq_true' _).mp e4
        rw [e5] at hR'
        exact brT rfl hR'
      · have e5 : isInt x = true := (Bool.not_eq_false' _).mp e4
        refine ⟨y, rfl, y, rfl, hy, ?_⟩
        refine br (fun e6 => ?_) (fun e6 => ?_)
        · have e7 : isInt y = false := (Bool.not_eq_true' _).mp e6
          rw [e5, e7] at hR'
          exact hR'
        · have e7 : isInt y = true := (Bool.not_eq_false' _).mp e6
          rw [e5, e7] at hR'
          cases hz with
          | str z => exact ⟨_, rfl, _, rfl, brT rfl ⟨_, rfl, rfl, by decide, rfl, hR'⟩⟩
          | _ => exact ⟨_, rfl, _, rfl, brF rfl hR'⟩
end K08

set_option Elab.async false
set_option linter.all false
set_option maxRecDepth 100000
set_option maxHeartbeats 4000000
namespace K08
open PySem PySem.Spec PyProof.Rows L2 VL
theorem atI_mem {xs : List D} {i : Int} (h0 : 0 ≤ i) (h1 : i < xs.length) : ∃ d ∈ xs, atI xs i = some d := by
  have hi : i.toNat < xs.length := by omega
  refine ⟨xs[i.toNat], List.getElem_mem hi, ?_⟩
  unfold atI ixN
  rw [if_pos h0, if_pos h1]
  show xs[i.toNat]? = _
  exact List.getElem?_eq_getElem hi
theorem opv_tup {v : D} (h : OpV v) : ∃ xs, v = .tup xs ∧ (∀ x ∈ xs, Sim x) ∧ 0 < xs.length ∧ xs.length < 9 := by
  cases h with
  | one k a hk ha =>
    refine ⟨_, rfl, ?_, by simp, by simp⟩
    simp only [one6, List.mem_cons, List.not_mem_nil, or_false] at hk
    intro x hx
    simp only [List.mem_cons, List.not_mem_nil, or_false] at hx
    rcases hx with rfl | rfl
    · rcases hk with rfl | rfl | rfl | rfl | rfl | rfl <;> exact .str _
    · exact .int _
  | cp a b z hz ha hb =>
    refine ⟨_, rfl, ?_, by simp, by simp⟩
    simp only [three, List.mem_cons, List.not_mem_nil, or_false] at hz
    intro x hx
    simp only [List.mem_cons, List.not_mem_nil, or_false] at hx
    rcases hx with rfl | rfl | rfl | rfl
    · exact .str _
    · exact .int _
    · exact .int _
    · rcases hz with rfl | rfl | rfl <;> exact .str _
theorem words_ok {v : D} (h : OpV v) : shD 8 (.lst (wordsD v)) = true ∧ eqD (.lst (wordsD v)) (.lst (wordsD v)) = true ∧ ∀ w ∈ wordsD v, ∃ x, w = .str x := by
  cases h with
  | one k a hk ha =>
    simp only [one6, List.mem_cons, List.not_mem_nil, or_false] at hk
    rcases hk with rfl | rfl | rfl | rfl | rfl | rfl
    all_goals
      refine ⟨?_, ?_, ?_⟩
      · first | exact (by decide +kernel : shD 8 (.lst three) = true) | exact (by decide +kernel : shD 8 (.lst [.str "flip"]) = true) | rfl
      · first | exact (by decide +kernel : eqD (.lst three) (.lst three) = true) | exact (by decide +kernel : eqD (.lst [.str "flip"]) (.lst [.str "flip"]) = true) | rfl
      · first
        | exact (by simp [three] : ∀ w ∈ three, ∃ x, w = .str x)
        | exact (by simp : ∀ w ∈ [D.str "flip"], ∃ x, w = .str x)
        | exact (by simp : ∀ w ∈ ([] : List D), ∃ x, w = .str x)
  | cp a b z hz ha hb => exact ⟨(by decide +kernel : shD 8 (.lst prs) = true), (by decide +kernel : eqD (.lst prs) (.lst prs) = true), (by simp [prs] : ∀ w ∈ prs, ∃ x, w = .str x)⟩
theorem str_ok {c : Nat} (h : c < 128) : PyData.strOk ⟨#[c]⟩ = true := by
  simp [PyData.strOk]
  omega
theorem let1_ok {a : Int} {c : Nat} (h : c < 128) : (let1 a c).all (shD 7) = true ∧ eqDs (let1 a c) (let1 a c) = true := by
  unfold let1
  split
  · exact ⟨rfl, rfl⟩
  · refine ⟨?_, ?_⟩
    · show ((true && (PyData.strOk ⟨#[c]⟩ && true)) && true) = true
      rw [str_ok h]; rfl
    · show ((a == a) && ((⟨#[c]⟩ : Str) == ⟨#[c]⟩ && true) && true) = true
      simp
theorem eqDs_app : ∀ {xs ys : List D}, eqDs xs xs = true → eqDs ys ys = true → eqDs (xs ++ ys) (xs ++ ys) = true
  | [], _, _, h => h
  | x :: xs, ys, h, h' => by
    have h1 : (eqD x x && eqDs xs xs) = true := h
    rw [Bool.and_eq_true] at h1
    show (eqD x x && eqDs (xs ++ ys) (xs ++ ys)) = true
    rw [h1.1, eqDs_app h1.2 h']; rfl
theorem letters_ok {v w : D} (hv : OpV v) (hw : w ∈ wordsD v) : shD 8 (.lst (lettersD v w)) = true ∧ eqD (.lst (lettersD v w)) (.lst (lettersD v w)) = true :=
  word_cases hv hw (fun _ _ l => shD 8 l = true ∧ eqD l l = true) (fun _ => ⟨rfl, rfl⟩) (fun k a c hc => let1_ok (by omega)) (fun k z a b c d hc hd => by
    have h1 := let1_ok (a := a) (c := c) (by omega)
    have h2 := let1_ok (a := b) (c := d) (by omega)
    refine ⟨?_, eqDs_app h1.2 h2.2⟩
    show (let1 a c ++ let1 b d).all (shD 7) = true
    rw [List.all_append, h1.1, h2.1]; rfl)
theorem nebb (b : Bool) : (!(b == b)) = false := by cases b <;> rfl

/-- is_op and the law's own agree -/
theorem turn2 {T : We} {sc t2 v op : D} {a : Addr} {h : Oh} {t5 t6 t7 : Sl} (hv : Val v) (k : ∀ t7, T.nx ⟨[.f sc, .f (.obj a), .f t2, .f op, .f v, t5, t6, t7], h⟩) : w_law_b2 T ⟨[.f sc, .f (.obj a), .f t2, .f op, .f v, t5, t6, t7], h⟩ :=
  ⟨v, rfl, hv, true, rfl, brF rfl ⟨v, rfl, hv, brF (nebb _) (k _)⟩⟩
theorem turn4 {T : We} {sc t2 v op : D} {a : Addr} {h : Oh} {t5 t6 t7 : Sl} (hv : Val v) (k : ∀ t7, T.nx ⟨[.f sc, .f (.obj a), .f t2, .f op, .f v, t5, t6, t7], h⟩) : w_law_b4 T ⟨[.f sc, .f (.obj a), .f t2, .f op, .f v, t5, t6, t7], h⟩ :=
  ⟨v, rfl, hv, true, rfl, brF rfl ⟨v, rfl, hv, brF (nebb _) (k _)⟩⟩
theorem turn3 {T : We} {sc t2 v : D} {w : D} {a : Addr} {h : Oh} {t4 t6 t7 : Sl} (hv : OpV v) (hw : w ∈ wordsD v) (k : T.nx ⟨[.f sc, .f (.obj a), .f t2, .f v, t4, .f w, t6, t7], h⟩) : w_law_b3 T ⟨[.f sc, .f (.obj a), .f t2, .f v, t4, .f w, t6, t7], h⟩ := by
  obtain ⟨l1, l2⟩ := letters_ok hv hw
  refine ⟨v, w, rfl, hv, hw, v, w, rfl, hv, hw, ?_⟩
  refine ⟨l1, l1, brF ?_ k⟩
  rw [l2]; rfl
theorem loop3 (T : We) {sc t2 v : D} {a : Addr} {h : Oh} {t4 t6 t7 : Sl} (hv : OpV v) : ∀ (ws : List D) (t5 : Sl), (∀ w ∈ ws, w ∈ wordsD v) → (∀ t5, T.nx ⟨[.f sc, .f (.obj a), .f t2, .f v, t4, t5, t6, t7], h⟩) → wForL (gVar 5) w_law_b3 T ws ⟨[.f sc, .f (.obj a), .f t2, .f v, t4, t5, t6, t7], h⟩
  | [], t5, hw, k => k t5
  | w :: ws, t5, hw, k => forv (turn3 hv (hw w List.mem_cons_self) (loop3 T hv ws _ (fun x hx => hw x (List.mem_cons_of_mem _ hx)) k))
theorem turn1 {T : We} {sc t2 : D} {a : Addr} {h : Oh} {t3 t4 t5 t6 t7 : Sl} (hT : Tp h a) (k : ∀ h' t3 t4 t5 t6 t7, Tp h' a → T.nx ⟨[.f sc, .f (.obj a), .f t2, t3, t4, t5, t6, t7], h'⟩) : w_law_b1 T ⟨[.f sc, .f (.obj a), .f t2, t3, t4, t5, t6, t7], h⟩ := by
  refine ⟨a, rfl, hT, fun v h1 hv hT1 _ => ?_⟩
  change w_law_b1_1 T ⟨[.f sc, .f (.obj a), .f t2, .f v, t4, t5, t6, t7], h1⟩
  obtain ⟨xs, ev, hs, x0, x9⟩ := opv_tup hv
  refine ⟨a, xs, by rw [ev], hs, x0, x9, hT1, fun u h2 hu hT2 _ => ?_⟩
  change wForL (gVar 4) w_law_b2 { T with nx := w_law_b1_2 T } [v, u] ⟨[.f sc, .f (.obj a), .f t2, .f v, t4, t5, t6, t7], h2⟩
  refine forv (turn2 (by rw [ev]; exact .tup hs) fun t7 => ?_)
  dsimp only
  refine forv (turn2 hu fun t7 => ?_)
  have rest : ∀ (t4 t5 t7 : Sl), w_law_b1_3 T ⟨[.f sc, .f (.obj a), .f t2, .f v, t4, t5, t6, t7], h2⟩ := fun t4 t5 t7 => by
    refine ⟨rfl, by decide, ?_⟩
    refine draw hT2 (by decide) (by decide) fun q h3 q0 q1 hT3 _ => ?_
    obtain ⟨w, hw, ew⟩ := atI_mem (xs := prs ++ [D.str "X", .str "Y", .str "Z", .str "flip", .str "II", .str "I", .str ""]) q0 (show q < ((22 : Nat) : Int) from q1)
    refine ⟨w, ew, ?_⟩
    change w_law_b1_4 T ⟨[.f sc, .f (.obj a), .f t2, .f v, t4, .f w, t6, t7], h3⟩
    refine draw hT3 (by decide) (by decide) fun c h4 c0 c1 hT4 _ => ?_
    refine draw hT4 (by decide) (by decide) fun d h5 d0 d1 hT5 _ => ?_
    change w_law_b1_5 T ⟨[.f sc, .f (.obj a), .f t2, .f v, t4, .f w, .f (.tup [.int c, .int d, w]), t7], h5⟩
    have sw : Sim w := by
      simp only [prs, List.cons_append, List.nil_append, List.mem_cons, List.not_mem_nil, or_false] at hw
      rcases hw with rfl | rfl | rfl | rfl | rfl | rfl | rfl | rfl | rfl | rfl | rfl | rfl | rfl | rfl | rfl | rfl | rfl | rfl | rfl | rfl | rfl | rfl <;> exact .str _
    have sf : ∀ x ∈ [D.int c, .int d, w], Sim x := fun x hx => by
      simp only [List.mem_cons, List.not_mem_nil, or_false] at hx
      rcases hx with rfl | rfl | rfl
      · exact .int _
      · exact .int _
      · exact sw
    refine ⟨a, _, rfl, sf, by simp, by simp, hT5, fun u h6 hu hT6 _ => ?_⟩
    change wForL (gVar 4) w_law_b4 T [.tup [.int c, .int d, w], u] ⟨[.f sc, .f (.obj a), .f t2, .f v, t4, .f w, .f (.tup [.int c, .int d, w]), t7], h6⟩
    refine forv (turn4 (.tup sf) fun t7 => ?_)
    dsimp only
    refine forv (turn4 hu fun t7 => ?_)
    exact k _ _ _ _ _ _ hT6
  have hval : Val v := by rw [ev]; exact .tup hs
  refine ⟨v, rfl, hval, ?_⟩
  refine br (fun e => ?_) (fun e => ?_)
  · obtain ⟨w1, w2, w3⟩ := words_ok hv
    refine ⟨v, rfl, hv, v, rfl, hv, w1, w1, brF (by rw [w2]; rfl) ?_⟩
    refine ⟨v, rfl, hv, ?_⟩
    exact loop3 { T with nx := w_law_b1_3 T } hv _ _ (fun w hw => hw) fun t5 => rest _ _ _
  · exact rest _ _ _
theorem loop1 (T : We) {sc : D} {a : Addr} : ∀ (ts : List D) (h : Oh) (t2 t3 t4 t5 t6 t7 : Sl), Tp h a → (∀ h' t2 t3 t4 t5 t6 t7, T.nx ⟨[.f sc, .f (.obj a), t2, t3, t4, t5, t6, t7], h'⟩) → wForL (gVar 2) w_law_b1 T ts ⟨[.f sc, .f (.obj a), t2, t3, t4, t5, t6, t7], h⟩
  | [], h, t2, t3, t4, t5, t6, t7, hT, k => k _ _ _ _ _ _ _
  | t :: ts, h, t2, t3, t4, t5, t6, t7, hT, k => forv (turn1 hT fun h' t3 t4 t5 t6 t7 hT' => loop1 T ts h' _ _ _ _ _ _ hT' k)
theorem pk_law : Pk 1 7 sp_law w_law := by
  rintro ds h R _ ⟨ns, rfl, hn, hR⟩
  intro a ha
  change w_law_1 (Fi R) ⟨[.f (.scr ns), .f (.obj a), .u, .u, .u, .u, .u, .u], h.put a (.ml [.lst (ns.map .int), .int 0, .int 0, .int 23])⟩
  have hT : Tp (h.put a (.ml [.lst (ns.map .int), .int 0, .int 0, .int 23])) a := ⟨ns, 0, 0, 23, Oh.put_same, hn, by decide, by decide, by decide, by decide⟩
  refine draw hT (by decide) (by decide) fun q h1 q0 q1 hT1 _ => ?_
  refine ⟨⟨by omega, by omega⟩, ?_⟩
  refine loop1 { Fi R with nx := w_law_2 (Fi R) } _ _ _ _ _ _ _ _ hT1 fun h' t2 t3 t4 t5 t6 t7 => ?_
  exact ⟨_, rfl, .sim (.str _), brT rfl ⟨_, rfl, .sim .non, hR _⟩⟩
end K08

set_option Elab.async false
set_option linter.all false
set_option maxRecDepth 100000
set_option maxHeartbeats 4000000
namespace K08
open PySem PySem.Spec L2 VL
def topS (i : Nat) : Stmt := PySem.Challenge.pw_mendedgates_k08_operations_and_faults.main.body.getD i (.Pass ⟨0, 0, 0, 0⟩)
abbrev s_is_integer : Stmt := topS 1
theorem sc_is_integer : FnScope ["value"] ["value"] (defScope s_is_integer) := ⟨rfl, rfl, rfl, by decide +kernel, rfl, by decide +kernel, by decide +kernel⟩
abbrev s_is_op : Stmt := topS 5
theorem sc_is_op : FnScope ["value"] ["value"] (defScope s_is_op) := ⟨rfl, rfl, rfl, by decide +kernel, rfl, by decide +kernel, by decide +kernel⟩
abbrev s_words_of : Stmt := topS 6
theorem sc_words_of : FnScope ["op"] ["op"] (defScope s_words_of) := ⟨rfl, rfl, rfl, by decide +kernel, rfl, by decide +kernel, by decide +kernel⟩
abbrev s_letters_of : Stmt := topS 7
theorem sc_letters_of : FnScope ["op", "word", "qubit", "name"] ["op", "word"] (defScope s_letters_of) := ⟨rfl, rfl, rfl, by decide +kernel, rfl, by decide +kernel, by decide +kernel⟩
abbrev s_is_fault : Stmt := topS 8
theorem sc_is_fault : FnScope ["value"] ["value"] (defScope s_is_fault) := ⟨rfl, rfl, rfl, by decide +kernel, rfl, by decide +kernel, by decide +kernel⟩
abbrev s__law_next : Stmt := topS 10
theorem sc__law_next : FnScope ["tape", "many", "rest", "cell"] ["tape", "many"] (defScope s__law_next) := ⟨rfl, rfl, rfl, by decide +kernel, rfl, by decide +kernel, by decide +kernel⟩
abbrev s__law_pairs : Stmt := topS 11
theorem sc__law_pairs : FnScope ["found", "one", "two"] [] (defScope s__law_pairs) := ⟨rfl, rfl, rfl, by decide +kernel, rfl, by decide +kernel, by decide +kernel⟩
abbrev s__law_is_count : Stmt := topS 12
theorem sc__law_is_count : FnScope ["value"] ["value"] (defScope s__law_is_count) := ⟨rfl, rfl, rfl, by decide +kernel, rfl, by decide +kernel, by decide +kernel⟩
abbrev s__law_is_op : Stmt := topS 13
theorem sc__law_is_op : FnScope ["value"] ["value"] (defScope s__law_is_op) := ⟨rfl, rfl, rfl, by decide +kernel, rfl, by decide +kernel, by decide +kernel⟩
abbrev s__law_op : Stmt := topS 14
theorem sc__law_op : FnScope ["tape", "kind", "a"] ["tape"] (defScope s__law_op) := ⟨rfl, rfl, rfl, by decide +kernel, rfl, by decide +kernel, by decide +kernel⟩
abbrev s__law_bent : Stmt := topS 15
theorem sc__law_bent : FnScope ["tape", "value", "at", "odd", "kind"] ["tape", "value"] (defScope s__law_bent) := ⟨rfl, rfl, rfl, by decide +kernel, rfl, by decide +kernel, by decide +kernel⟩
abbrev s__law_words : Stmt := topS 16
theorem sc__law_words : FnScope ["op"] ["op"] (defScope s__law_words) := ⟨rfl, rfl, rfl, by decide +kernel, rfl, by decide +kernel, by decide +kernel⟩
abbrev s__law_letters : Stmt := topS 17
theorem sc__law_letters : FnScope ["op", "word", "k"] ["op", "word"] (defScope s__law_letters) := ⟨rfl, rfl, rfl, by decide +kernel, rfl, by decide +kernel, by decide +kernel⟩
abbrev s__law_is_fault : Stmt := topS 18
theorem sc__law_is_fault : FnScope ["value"] ["value"] (defScope s__law_is_fault) := ⟨rfl, rfl, rfl, by decide +kernel, rfl, by decide +kernel, by decide +kernel⟩
abbrev s_law : Stmt := topS 19
theorem sc_law : FnScope ["script", "tape", "turn", "op", "value", "word", "fault", "told"] ["script"] (defScope s_law) := ⟨rfl, rfl, rfl, by decide +kernel, rfl, by decide +kernel, by decide +kernel⟩
/-- what the top has written -/
structure Txt (K : PySem.W.Frag) (mg : Str → Option Value) (A : Nat → Addr) (B : Nat → FuncData) : Prop where
  z_len : mg "len" = none
  z_abs : mg "abs" = none
  z_int : mg "int" = none
  z_tuple : mg "tuple" = none
  z_list : mg "list" = none
  z_isinstance : mg "isinstance" = none
  z_range : mg "range" = none
  z_zip : mg "zip" = none
  z_bool : mg "bool" = none
  z_str : mg "str" = none
  c_ONE_QUBIT : Cst K mg "ONE_QUBIT" k_ONE_QUBIT
  c_PAIRS : Cst K mg "PAIRS" k_PAIRS
  d_is_integer : DefAt K mg "is_integer" s_is_integer ["value"] (A 0) (B 0)
  d_is_op : DefAt K mg "is_op" s_is_op ["value"] (A 1) (B 1)
  d_words_of : DefAt K mg "words_of" s_words_of ["op"] (A 2) (B 2)
  d_letters_of : DefAt K mg "letters_of" s_letters_of ["op", "word"] (A 3) (B 3)
  d_is_fault : DefAt K mg "is_fault" s_is_fault ["value"] (A 4) (B 4)
  d__law_next : DefAt K mg "_law_next" s__law_next ["tape", "many"] (A 5) (B 5)
  d__law_pairs : DefAt K mg "_law_pairs" s__law_pairs [] (A 6) (B 6)
  d__law_is_count : DefAt K mg "_law_is_count" s__law_is_count ["value"] (A 7) (B 7)
  d__law_is_op : DefAt K mg "_law_is_op" s__law_is_op ["value"] (A 8) (B 8)
  d__law_op : DefAt K mg "_law_op" s__law_op ["tape"] (A 9) (B 9)
  d__law_bent : DefAt K mg "_law_bent" s__law_bent ["tape", "value"] (A 10) (B 10)
  d__law_words : DefAt K mg "_law_words" s__law_words ["op"] (A 11) (B 11)
  d__law_letters : DefAt K mg "_law_letters" s__law_letters ["op", "word"] (A 12) (B 12)
  d__law_is_fault : DefAt K mg "_law_is_fault" s__law_is_fault ["value"] (A 13) (B 13)
  d_law : DefAt K mg "law" s_law ["script"] (A 14) (B 14)
section
variable {P : Program} {w : World} {K : PySem.W.Frag} {mg : Str → Option Value} {base : Heap} {A : Nat → Addr} {B : Nat → FuncData}
theorem ok_is_integer (T : Txt K mg A B) : FnOk P w K mg base CX0 1 (A 0) (B 0) ["value"] (spOf K 1 sp_is_integer) := by
  refine fn_ok (ws := w_is_integer) T.d_is_integer.fn sc_is_integer rfl (fun cdv A outer s H E hr => ?_) pk_is_integer
  exact (dss_one (ds_ret (de_and (de_cb cv_isi (by rfl) T.z_isinstance (by decide +kernel) (da_cons (de_var 0 (pv 0)) (da_cons (de_ty .tint (by rfl) T.z_int (by decide +kernel)) da_nil))) (de_and (de_not (de_cb cv_isi (by rfl) T.z_isinstance (by decide +kernel) (da_cons (de_var 0 (pv 0)) (da_cons (de_ty .tbool (by rfl) T.z_bool (by decide +kernel)) da_nil)))) (de_one (de_cmp ov_ge (de_var 0 (pv 0)) de_int (nomark _)))))))
theorem ok_is_op (T : Txt K mg A B) : FnOk P w K mg base CX0 2 (A 1) (B 1) ["value"] (spOf K 1 sp_is_op) := by
  have G_is_integer : FnOk P w K mg base CX0 1 (A 0) (B 0) ["value"] (spOf K 1 sp_is_integer) := ok_is_integer T
  refine fn_ok (ws := w_is_op) T.d_is_op.fn sc_is_op rfl (fun cdv A outer s H E hr => ?_) pk_is_op
  exact (dss_cons (ds_if (DW.pt (dw_or (dt_not (dt_tru (de_cb cv_isi (by rfl) T.z_isinstance (by decide +kernel) (da_cons (de_var 0 (pv 0)) (da_cons (de_ty .ttup (by rfl) T.z_tuple (by decide +kernel)) da_nil))))) (dw_or (dt_cmp ov_lt (de_cb cv_len (by rfl) T.z_len (by decide +kernel) (da_cons (de_var 0 (pv 0)) da_nil)) de_int (nomark _)) (dw_or1 (dt_not (dt_tru (de_cb cv_isi (by rfl) T.z_isinstance (by decide +kernel) (da_cons (de_ix (de_var 0 (pv 0)) de_int (fun _ _ => rfl)) (da_cons (de_ty .tstr (by rfl) T.z_str (by decide +kernel)) da_nil))))))))) (dss_one (ds_ret de_bl)) dss_nil)
      (dss_cons (ds_if (dt_cmp (ov_inD (Room65 hr)) (de_ix (de_var 0 (pv 0)) de_int (fun _ _ => rfl)) (T.c_ONE_QUBIT.de rfl) (by rfl)) (dss_one (ds_ret (de_and (de_cmp (ov_eq hr.units) (de_cb cv_len (by rfl) T.z_len (by decide +kernel) (da_cons (de_var 0 (pv 0)) da_nil)) de_int (nomark _)) (de_one (de_call G_is_integer (hr.mono (by decide)) (by rfl) T.d_is_integer.gl T.d_is_integer.fn.kp T.d_is_integer.bd (da_cons (de_ix (de_var 0 (pv 0)) de_int (fun _ _ => rfl)) da_nil)))))) dss_nil)
      (dss_cons (ds_if (DW.pt (dw_or (dt_cmp (ov_ne hr.units) (de_ix (de_var 0 (pv 0)) de_int (fun _ _ => rfl)) de_str (nomark _)) (dw_or (dt_cmp (ov_ne hr.units) (de_cb cv_len (by rfl) T.z_len (by decide +kernel) (da_cons (de_var 0 (pv 0)) da_nil)) de_int (nomark _)) (dw_or (dt_not (dt_tru (de_call G_is_integer (hr.mono (by decide)) (by rfl) T.d_is_integer.gl T.d_is_integer.fn.kp T.d_is_integer.bd (da_cons (de_ix (de_var 0 (pv 0)) de_int (fun _ _ => rfl)) da_nil)))) (dw_or1 (dt_not (dt_tru (de_call G_is_integer (hr.mono (by decide)) (by rfl) T.d_is_integer.gl T.d_is_integer.fn.kp T.d_is_integer.bd (da_cons (de_ix (de_var 0 (pv 0)) de_int (fun _ _ => rfl)) da_nil))))))))) (dss_one (ds_ret de_bl)) dss_nil)
      (dss_one (ds_ret (de_and (de_cmp (ov_ne hr.units) (de_ix (de_var 0 (pv 0)) de_int (fun _ _ => rfl)) (de_ix (de_var 0 (pv 0)) de_int (fun _ _ => rfl)) (nomark _)) (de_one (de_cmp (ov_inD (Room65 hr)) (de_ix (de_var 0 (pv 0)) de_int (fun _ _ => rfl)) (de_tup (da_cons de_str (da_cons de_str (da_cons de_str da_nil)))) (by rfl)))))))))
theorem ok_words_of (T : Txt K mg A B) : FnOk P w K mg base CX0 1 (A 2) (B 2) ["op"] (spOf K 1 sp_words_of) := by
  refine fn_ok (ws := w_words_of) T.d_words_of.fn sc_words_of rfl (fun cdv A outer s H E hr => ?_) pk_words_of
  exact (dss_cons (ds_if (dt_cmp (ov_eq hr.units) (de_ix (de_var 0 (pv 0)) de_int (fun _ _ => rfl)) de_str (nomark _)) (dss_one (ds_ret (de_cty cv_lst (by rfl) T.z_list (by decide +kernel) (da_cons (T.c_PAIRS.de rfl) da_nil)))) dss_nil)
      (dss_cons (ds_if (dt_cmp (ov_inD (Room65 hr)) (de_ix (de_var 0 (pv 0)) de_int (fun _ _ => rfl)) (de_tup (da_cons de_str (da_cons de_str da_nil))) (by rfl)) (dss_one (ds_ret (de_new (dn_lst (da_cons de_str da_nil))))) dss_nil)
      (dss_cons (ds_if (dt_cmp (ov_eq hr.units) (de_ix (de_var 0 (pv 0)) de_int (fun _ _ => rfl)) de_str (nomark _)) (dss_one (ds_ret (de_new (dn_lst da_nil)))) dss_nil)
      (dss_one (ds_ret (de_new (dn_lst (da_cons de_str (da_cons de_str (da_cons de_str da_nil))))))))))
theorem ok_letters_of (T : Txt K mg A B) : FnOk P w K mg base CX0 1 (A 3) (B 3) ["op", "word"] (spOf K 2 sp_letters_of) := by
  refine fn_ok (ws := w_letters_of) T.d_letters_of.fn sc_letters_of rfl (fun cdv A outer s H E hr => ?_) pk_letters_of
  exact (dss_cons (ds_if (dt_cmp (ov_eq hr.units) (de_var 1 (pv 1)) de_str (nomark _)) (dss_one (ds_ret (de_new (dn_lst da_nil)))) dss_nil)
      (dss_one (ds_ret (de_new (dn_lc (own := [("qubit", 2), ("name", 3)]) rfl sc_letters_of.nd (di_zts (by rfl) T.z_zip (da_cons (de_sl (de_var 0 (pv 0)) (do_some de_int) (do_some de_int)) (da_cons (de_var 1 (pv 1)) da_nil)) (fun _ h => pi_zts (by rfl) T.z_zip h)) (blkOk_by (N := ["op", "word", "qubit", "name"]) (sc := defScope s_letters_of) (by decide +kernel)) (tg_tup [2, 3] (by decide)) (fun _ _ _ _ _ => pg_tup rfl (pgs_cons (pg_name (i := 2) sc_letters_of.nd rfl (Or.inl rfl)) (pgs_cons (pg_name (i := 3) sc_letters_of.nd rfl (Or.inl rfl)) pgs_nil))) (fun _ _ _ _ _ => pts_x1 (dt_cmp (ov_ne hr.units) (de_var 3 (pv 3)) de_str (nomark _))) (fun _ _ _ _ _ => (de_tup (da_cons (de_var 2 (pv 2)) (da_cons (de_var 3 (pv 3)) da_nil)))))))))
theorem ok_is_fault (T : Txt K mg A B) : FnOk P w K mg base CX0 2 (A 4) (B 4) ["value"] (spOf K 1 sp_is_fault) := by
  have G_is_integer : FnOk P w K mg base CX0 1 (A 0) (B 0) ["value"] (spOf K 1 sp_is_integer) := ok_is_integer T
  refine fn_ok (ws := w_is_fault) T.d_is_fault.fn sc_is_fault rfl (fun cdv A outer s H E hr => ?_) pk_is_fault
  exact (dss_cons (ds_if (DW.pt (dw_or (dt_not (dt_tru (de_cb cv_isi (by rfl) T.z_isinstance (by decide +kernel) (da_cons (de_var 0 (pv 0)) (da_cons (de_ty .ttup (by rfl) T.z_tuple (by decide +kernel)) da_nil))))) (dw_or (dt_cmp (ov_ne hr.units) (de_cb cv_len (by rfl) T.z_len (by decide +kernel) (da_cons (de_var 0 (pv 0)) da_nil)) de_int (nomark _)) (dw_or (dt_not (dt_tru (de_call G_is_integer (hr.mono (by decide)) (by rfl) T.d_is_integer.gl T.d_is_integer.fn.kp T.d_is_integer.bd (da_cons (de_ix (de_var 0 (pv 0)) de_int (fun _ _ => rfl)) da_nil)))) (dw_or1 (dt_not (dt_tru (de_call G_is_integer (hr.mono (by decide)) (by rfl) T.d_is_integer.gl T.d_is_integer.fn.kp T.d_is_integer.bd (da_cons (de_ix (de_var 0 (pv 0)) de_int (fun _ _ => rfl)) da_nil))))))))) (dss_one (ds_ret de_bl)) dss_nil)
      (dss_one (ds_ret (de_and (de_cb cv_isi (by rfl) T.z_isinstance (by decide +kernel) (da_cons (de_ix (de_var 0 (pv 0)) de_int (fun _ _ => rfl)) (da_cons (de_ty .tstr (by rfl) T.z_str (by decide +kernel)) da_nil))) (de_one (de_cmp (ov_inD (Room65 hr)) (de_ix (de_var 0 (pv 0)) de_int (fun _ _ => rfl)) (de_op ov_add (T.c_PAIRS.de rfl) (de_tup (da_cons de_str (da_cons de_str (da_cons de_str (da_cons de_str da_nil)))))) (by rfl)))))))
theorem ok__law_next (T : Txt K mg A B) : FnOk P w K mg base CX0 1 (A 5) (B 5) ["tape", "many"] (spOf K 2 sp__law_next) := by
  refine fn_ok (ws := w__law_next) T.d__law_next.fn sc__law_next rfl (fun cdv A outer s H E hr => ?_) pk__law_next
  exact (dss_cons (ds_set 2 (de_ix (de_var 0 (pv 0)) de_int (fun _ _ => rfl)) (fun _ he => ps_set (i := 2) sc__law_next.nd rfl (by first | exact .inl rfl | exact .inr rfl) he))
      (dss_cons (ds_if (dt_cmp ov_gt (de_var 2 (pv 2)) de_int (nomark _)) (dss_cons (ds_asg (de_op ov_div (de_var 2 (pv 2)) (de_var 1 (pv 1))) (dg_ixM (de_var 0 (pv 0)) de_int))
      (dss_one (ds_ret (de_op ov_mod (de_cty cv_int (by rfl) T.z_int (by decide +kernel) (da_cons (de_var 2 (pv 2)) da_nil)) (de_var 1 (pv 1)))))) dss_nil)
      (dss_cons (ds_set 3 de_int (fun _ he => ps_set (i := 3) sc__law_next.nd rfl (by first | exact .inl rfl | exact .inr rfl) he))
      (dss_cons (ds_if (dt_cmp ov_lt (de_ix (de_var 0 (pv 0)) de_int (fun _ _ => rfl)) (de_cb cv_len (by rfl) T.z_len (by decide +kernel) (da_cons (de_ix (de_var 0 (pv 0)) de_int (fun _ _ => rfl)) da_nil)) (nomark _)) (dss_cons (ds_set 3 (de_cb cv_abs (by rfl) T.z_abs (by decide +kernel) (da_cons (de_ix (de_ix (de_var 0 (pv 0)) de_int (fun _ _ => rfl)) (de_ix (de_var 0 (pv 0)) de_int (fun _ _ => rfl)) (fun _ _ => rfl)) da_nil)) (fun _ he => ps_set (i := 3) sc__law_next.nd rfl (by first | exact .inl rfl | exact .inr rfl) he))
      (dss_one (ds_augM iv_add (de_var 0 (pv 0)) de_int de_int))) dss_nil)
      (dss_cons (ds_if (dt_cmp ov_ge (de_var 3 (pv 3)) (de_op ov_pow de_int de_int) (nomark _)) (dss_cons (ds_asg (de_op ov_div (de_var 3 (pv 3)) (de_var 1 (pv 1))) (dg_ixM (de_var 0 (pv 0)) de_int))
      (dss_one (ds_ret (de_op ov_mod (de_cty cv_int (by rfl) T.z_int (by decide +kernel) (da_cons (de_var 3 (pv 3)) da_nil)) (de_var 1 (pv 1)))))) dss_nil)
      (dss_cons (ds_asg (de_op ov_mod (de_cty cv_int (by rfl) T.z_int (by decide +kernel) (da_cons (de_op ov_add (de_op ov_add (de_op ov_mul (de_ix (de_var 0 (pv 0)) de_int (fun _ _ => rfl)) de_int) (de_op ov_mul (de_var 3 (pv 3)) de_int)) de_int) da_nil)) de_int) (dg_ixM (de_var 0 (pv 0)) de_int))
      (dss_one (ds_ret (de_op ov_mod (de_cty cv_int (by rfl) T.z_int (by decide +kernel) (da_cons (de_op ov_div (de_op ov_mod (de_op ov_mul (de_ix (de_var 0 (pv 0)) de_int (fun _ _ => rfl)) de_int) de_int) de_int) da_nil)) (de_var 1 (pv 1)))))))))))
theorem ok__law_pairs (T : Txt K mg A B) : FnOk P w K mg base CX0 1 (A 6) (B 6) [] (spOf K 0 sp__law_pairs) := by
  refine fn_ok (ws := w__law_pairs) T.d__law_pairs.fn sc__law_pairs rfl (fun cdv A outer s H E hr => ?_) pk__law_pairs
  exact (dss_cons (ds_set 0 (de_new (dn_lst da_nil)) (fun _ he => ps_set (i := 0) sc__law_pairs.nd rfl (by first | exact .inl rfl | exact .inr rfl) he))
      (dss_cons (ds_for PassesOwn.never rfl (di_str de_str) (dg_var 1 (pg_name (i := 1) sc__law_pairs.nd rfl (by first | exact .inl rfl | exact .inr rfl))) (dss_one (ds_set 0 (de_op ov_add (de_var 0 (pv 0)) (de_new (dn_lc (own := [("two", 2)]) rfl sc__law_pairs.nd (di_str de_str) (blkOk_by (N := ["found", "one", "two"]) (sc := defScope s__law_pairs) (by decide +kernel)) (tg_one (by decide)) (fun _ _ _ _ _ => pg_name (i := 2) sc__law_pairs.nd rfl (Or.inl rfl)) (fun _ _ _ _ _ => pts_x0) (fun _ _ _ _ _ => (de_op ov_add (de_var 1 (pv 1)) (de_var 2 (pv 2))))))) (fun _ he => ps_set (i := 0) sc__law_pairs.nd rfl (by first | exact .inl rfl | exact .inr rfl) he))))
      (dss_one (ds_ret (de_sl (de_var 0 (pv 0)) (do_some de_int) do_none)))))
theorem ok__law_is_count (T : Txt K mg A B) : FnOk P w K mg base CX0 1 (A 7) (B 7) ["value"] (spOf K 1 sp__law_is_count) := by
  refine fn_ok (ws := w__law_is_count) T.d__law_is_count.fn sc__law_is_count rfl (fun cdv A outer s H E hr => ?_) pk__law_is_count
  exact (dss_one (ds_ret (de_and (de_cb cv_isi (by rfl) T.z_isinstance (by decide +kernel) (da_cons (de_var 0 (pv 0)) (da_cons (de_ty .tint (by rfl) T.z_int (by decide +kernel)) da_nil))) (de_and (de_not (de_cb cv_isi (by rfl) T.z_isinstance (by decide +kernel) (da_cons (de_var 0 (pv 0)) (da_cons (de_ty .tbool (by rfl) T.z_bool (by decide +kernel)) da_nil)))) (de_one (de_cmp ov_ge (de_var 0 (pv 0)) de_int (nomark _)))))))
theorem ok__law_is_op (T : Txt K mg A B) : FnOk P w K mg base CX0 2 (A 8) (B 8) ["value"] (spOf K 1 sp__law_is_op) := by
  have G__law_is_count : FnOk P w K mg base CX0 1 (A 7) (B 7) ["value"] (spOf K 1 sp__law_is_count) := ok__law_is_count T
  refine fn_ok (ws := w__law_is_op) T.d__law_is_op.fn sc__law_is_op rfl (fun cdv A outer s H E hr => ?_) pk__law_is_op
  exact (dss_cons (ds_if (DW.pt (dw_or (dt_not (dt_tru (de_cb cv_isi (by rfl) T.z_isinstance (by decide +kernel) (da_cons (de_var 0 (pv 0)) (da_cons (de_ty .ttup (by rfl) T.z_tuple (by decide +kernel)) da_nil))))) (dw_or1 (dt_cmp ov_lt (de_cb cv_len (by rfl) T.z_len (by decide +kernel) (da_cons (de_var 0 (pv 0)) da_nil)) de_int (nomark _))))) (dss_one (ds_ret de_bl)) dss_nil)
      (dss_cons (ds_if (dt_cmp (ov_inD (Room65 hr)) (de_ix (de_var 0 (pv 0)) de_int (fun _ _ => rfl)) (de_tup (da_cons de_str (da_cons de_str (da_cons de_str (da_cons de_str (da_cons de_str (da_cons de_str da_nil))))))) (by rfl)) (dss_one (ds_ret (de_and (de_cmp (ov_eq hr.units) (de_cb cv_len (by rfl) T.z_len (by decide +kernel) (da_cons (de_var 0 (pv 0)) da_nil)) de_int (nomark _)) (de_one (de_call G__law_is_count (hr.mono (by decide)) (by rfl) T.d__law_is_count.gl T.d__law_is_count.fn.kp T.d__law_is_count.bd (da_cons (de_ix (de_var 0 (pv 0)) de_int (fun _ _ => rfl)) da_nil)))))) dss_nil)
      (dss_cons (ds_if (DW.pt (dw_or (dt_cmp (ov_ne hr.units) (de_ix (de_var 0 (pv 0)) de_int (fun _ _ => rfl)) de_str (nomark _)) (dw_or (dt_cmp (ov_ne hr.units) (de_cb cv_len (by rfl) T.z_len (by decide +kernel) (da_cons (de_var 0 (pv 0)) da_nil)) de_int (nomark _)) (dw_or (dt_not (dt_tru (de_call G__law_is_count (hr.mono (by decide)) (by rfl) T.d__law_is_count.gl T.d__law_is_count.fn.kp T.d__law_is_count.bd (da_cons (de_ix (de_var 0 (pv 0)) de_int (fun _ _ => rfl)) da_nil)))) (dw_or1 (dt_not (dt_tru (de_call G__law_is_count (hr.mono (by decide)) (by rfl) T.d__law_is_count.gl T.d__law_is_count.fn.kp T.d__law_is_count.bd (da_cons (de_ix (de_var 0 (pv 0)) de_int (fun _ _ => rfl)) da_nil))))))))) (dss_one (ds_ret de_bl)) dss_nil)
      (dss_one (ds_ret (de_and (de_cmp (ov_ne hr.units) (de_ix (de_var 0 (pv 0)) de_int (fun _ _ => rfl)) (de_ix (de_var 0 (pv 0)) de_int (fun _ _ => rfl)) (nomark _)) (de_one (de_cmp (ov_inD (Room65 hr)) (de_ix (de_var 0 (pv 0)) de_int (fun _ _ => rfl)) (de_tup (da_cons de_str (da_cons de_str (da_cons de_str da_nil)))) (by rfl)))))))))
theorem ok__law_op (T : Txt K mg A B) : FnOk P w K mg base CX0 2 (A 9) (B 9) ["tape"] (spOf K 1 sp__law_op) := by
  have G__law_next : FnOk P w K mg base CX0 1 (A 5) (B 5) ["tape", "many"] (spOf K 2 sp__law_next) := ok__law_next T
  refine fn_ok (ws := w__law_op) T.d__law_op.fn sc__law_op rfl (fun cdv A outer s H E hr => ?_) pk__law_op
  exact (dss_cons (ds_set 1 (de_call G__law_next (hr.mono (by decide)) (by rfl) T.d__law_next.gl T.d__law_next.fn.kp T.d__law_next.bd (da_cons (de_var 0 (pv 0)) (da_cons de_int da_nil))) (fun _ he => ps_set (i := 1) sc__law_op.nd rfl (by first | exact .inl rfl | exact .inr rfl) he))
      (dss_cons (ds_set 2 (de_call G__law_next (hr.mono (by decide)) (by rfl) T.d__law_next.gl T.d__law_next.fn.kp T.d__law_next.bd (da_cons (de_var 0 (pv 0)) (da_cons de_int da_nil))) (fun _ he => ps_set (i := 2) sc__law_op.nd rfl (by first | exact .inl rfl | exact .inr rfl) he))
      (dss_cons (ds_if (dt_cmp ov_lt (de_var 1 (pv 1)) de_int (nomark _)) (dss_one (ds_ret (de_tup (da_cons (de_ix (de_tup (da_cons de_str (da_cons de_str (da_cons de_str (da_cons de_str (da_cons de_str (da_cons de_str da_nil))))))) (de_var 1 (pv 1)) (fun _ _ => rfl)) (da_cons (de_var 2 (pv 2)) da_nil))))) dss_nil)
      (dss_one (ds_ret (de_tup (da_cons de_str (da_cons (de_var 2 (pv 2)) (da_cons (de_call G__law_next (hr.mono (by decide)) (by rfl) T.d__law_next.gl T.d__law_next.fn.kp T.d__law_next.bd (da_cons (de_var 0 (pv 0)) (da_cons de_int da_nil))) (da_cons (de_ix (de_tup (da_cons de_str (da_cons de_str (da_cons de_str da_nil)))) (de_op ov_sub (de_var 1 (pv 1)) de_int) (fun _ _ => rfl)) da_nil))))))))))
theorem ok__law_bent (T : Txt K mg A B) : FnOk P w K mg base CX0 2 (A 10) (B 10) ["tape", "value"] (spOf K 2 sp__law_bent) := by
  have G__law_next : FnOk P w K mg base CX0 1 (A 5) (B 5) ["tape", "many"] (spOf K 2 sp__law_next) := ok__law_next T
  refine fn_ok (ws := w__law_bent) T.d__law_bent.fn sc__law_bent rfl (fun cdv A outer s H E hr => ?_) pk__law_bent
  exact (dss_cons (ds_set 2 (de_call G__law_next (hr.mono (by decide)) (by rfl) T.d__law_next.gl T.d__law_next.fn.kp T.d__law_next.bd (da_cons (de_var 0 (pv 0)) (da_cons (de_cb cv_len (by rfl) T.z_len (by decide +kernel) (da_cons (de_var 1 (pv 1)) da_nil)) da_nil))) (fun _ he => ps_set (i := 2) sc__law_bent.nd rfl (by first | exact .inl rfl | exact .inr rfl) he))
      (dss_cons (ds_set 3 (de_ix (de_new (dn_lst (da_cons de_non (da_cons (de_un uv_neg de_int) (da_cons de_bl (da_cons de_str (da_cons de_str (da_cons de_int (da_cons de_str (da_cons (de_tup da_nil) (da_cons de_str da_nil))))))))))) (de_call G__law_next (hr.mono (by decide)) (by rfl) T.d__law_next.gl T.d__law_next.fn.kp T.d__law_next.bd (da_cons (de_var 0 (pv 0)) (da_cons de_int da_nil))) (fun _ _ => rfl)) (fun _ he => ps_set (i := 3) sc__law_bent.nd rfl (by first | exact .inl rfl | exact .inr rfl) he))
      (dss_cons (ds_set 4 (de_call G__law_next (hr.mono (by decide)) (by rfl) T.d__law_next.gl T.d__law_next.fn.kp T.d__law_next.bd (da_cons (de_var 0 (pv 0)) (da_cons de_int da_nil))) (fun _ he => ps_set (i := 4) sc__law_bent.nd rfl (by first | exact .inl rfl | exact .inr rfl) he))
      (dss_cons (ds_if (dt_cmp (ov_eq hr.units) (de_var 4 (pv 4)) de_int (nomark _)) (dss_one (ds_ret (de_op ov_add (de_op ov_add (de_sl (de_var 1 (pv 1)) do_none (do_some (de_var 2 (pv 2)))) (de_tup (da_cons (de_var 3 (pv 3)) da_nil))) (de_sl (de_var 1 (pv 1)) (do_some (de_op ov_add (de_var 2 (pv 2)) de_int)) do_none)))) dss_nil)
      (dss_cons (ds_if (dt_cmp (ov_eq hr.units) (de_var 4 (pv 4)) de_int (nomark _)) (dss_one (ds_ret (de_op ov_add (de_sl (de_var 1 (pv 1)) do_none (do_some (de_var 2 (pv 2)))) (de_sl (de_var 1 (pv 1)) (do_some (de_op ov_add (de_var 2 (pv 2)) de_int)) do_none)))) dss_nil)
      (dss_cons (ds_if (dt_cmp (ov_eq hr.units) (de_var 4 (pv 4)) de_int (nomark _)) (dss_one (ds_ret (de_op ov_add (de_var 1 (pv 1)) (de_tup (da_cons (de_var 3 (pv 3)) da_nil))))) dss_nil)
      (dss_one (ds_ret (de_ix (de_new (dn_lst (da_cons (de_cty cv_lst (by rfl) T.z_list (by decide +kernel) (da_cons (de_var 1 (pv 1)) da_nil)) (da_cons de_non (da_cons (de_ix (de_var 1 (pv 1)) de_int (fun _ _ => rfl)) (da_cons (de_var 1 (pv 1)) da_nil)))))) (de_call G__law_next (hr.mono (by decide)) (by rfl) T.d__law_next.gl T.d__law_next.fn.kp T.d__law_next.bd (da_cons (de_var 0 (pv 0)) (da_cons de_int da_nil))) (fun _ _ => rfl))))))))))
theorem ok__law_words (T : Txt K mg A B) : FnOk P w K mg base CX0 2 (A 11) (B 11) ["op"] (spOf K 1 sp__law_words) := by
  have G__law_pairs : FnOk P w K mg base CX0 1 (A 6) (B 6) [] (spOf K 0 sp__law_pairs) := ok__law_pairs T
  refine fn_ok (ws := w__law_words) T.d__law_words.fn sc__law_words rfl (fun cdv A outer s H E hr => ?_) pk__law_words
  exact (dss_cons (ds_if (dt_cmp (ov_eq hr.units) (de_ix (de_var 0 (pv 0)) de_int (fun _ _ => rfl)) de_str (nomark _)) (dss_one (ds_ret (de_call0 G__law_pairs (hr.mono (by decide)) (by rfl) T.d__law_pairs.gl T.d__law_pairs.fn.kp T.d__law_pairs.bd))) dss_nil)
      (dss_cons (ds_if (dt_cmp (ov_inD (Room65 hr)) (de_ix (de_var 0 (pv 0)) de_int (fun _ _ => rfl)) (de_tup (da_cons de_str (da_cons de_str da_nil))) (by rfl)) (dss_one (ds_ret (de_new (dn_lst (da_cons de_str da_nil))))) dss_nil)
      (dss_one (ds_ret (de_op ov_mul (de_new (dn_lst (da_cons de_str (da_cons de_str (da_cons de_str da_nil))))) (de_cty cv_int (by rfl) T.z_int (by decide +kernel) (da_cons (de_cmp (ov_ne hr.units) (de_ix (de_var 0 (pv 0)) de_int (fun _ _ => rfl)) de_str (nomark _)) da_nil)))))))
theorem ok__law_letters (T : Txt K mg A B) : FnOk P w K mg base CX0 1 (A 12) (B 12) ["op", "word"] (spOf K 2 sp__law_letters) := by
  refine fn_ok (ws := w__law_letters) T.d__law_letters.fn sc__law_letters rfl (fun cdv A outer s H E hr => ?_) pk__law_letters
  exact (dss_cons (ds_if (dt_cmp (ov_eq hr.units) (de_var 1 (pv 1)) de_str (nomark _)) (dss_one (ds_ret (de_new (dn_lst da_nil)))) dss_nil)
      (dss_one (ds_ret (de_new (dn_lc (own := [("k", 2)]) rfl sc__law_letters.nd (di_rng1 (by rfl) T.z_range (da_cons (de_cb cv_len (by rfl) T.z_len (by decide +kernel) (da_cons (de_var 1 (pv 1)) da_nil)) da_nil)) (blkOk_by (N := ["op", "word", "k"]) (sc := defScope s__law_letters) (by decide +kernel)) (tg_one (by decide)) (fun _ _ _ _ _ => pg_name (i := 2) sc__law_letters.nd rfl (Or.inl rfl)) (fun _ _ _ _ _ => pts_x1 (dt_cmp (ov_ne hr.units) (de_ix (de_var 1 (pv 1)) (de_var 2 (pv 2)) (fun _ _ => rfl)) de_str (nomark _))) (fun _ _ _ _ _ => (de_tup (da_cons (de_ix (de_var 0 (pv 0)) (de_op ov_add de_int (de_var 2 (pv 2))) (fun _ _ => rfl)) (da_cons (de_ix (de_var 1 (pv 1)) (de_var 2 (pv 2)) (fun _ _ => rfl)) da_nil)))))))))
theorem ok__law_is_fault (T : Txt K mg A B) : FnOk P w K mg base CX0 2 (A 13) (B 13) ["value"] (spOf K 1 sp__law_is_fault) := by
  have G__law_is_count : FnOk P w K mg base CX0 1 (A 7) (B 7) ["value"] (spOf K 1 sp__law_is_count) := ok__law_is_count T
  have G__law_pairs : FnOk P w K mg base CX0 1 (A 6) (B 6) [] (spOf K 0 sp__law_pairs) := ok__law_pairs T
  refine fn_ok (ws := w__law_is_fault) T.d__law_is_fault.fn sc__law_is_fault rfl (fun cdv A outer s H E hr => ?_) pk__law_is_fault
  exact (dss_cons (ds_if (DW.pt (dw_or (dt_not (dt_tru (de_cb cv_isi (by rfl) T.z_isinstance (by decide +kernel) (da_cons (de_var 0 (pv 0)) (da_cons (de_ty .ttup (by rfl) T.z_tuple (by decide +kernel)) da_nil))))) (dw_or (dt_cmp (ov_ne hr.units) (de_cb cv_len (by rfl) T.z_len (by decide +kernel) (da_cons (de_var 0 (pv 0)) da_nil)) de_int (nomark _)) (dw_or (dt_not (dt_tru (de_call G__law_is_count (hr.mono (by decide)) (by rfl) T.d__law_is_count.gl T.d__law_is_count.fn.kp T.d__law_is_count.bd (da_cons (de_ix (de_var 0 (pv 0)) de_int (fun _ _ => rfl)) da_nil)))) (dw_or1 (dt_not (dt_tru (de_call G__law_is_count (hr.mono (by decide)) (by rfl) T.d__law_is_count.gl T.d__law_is_count.fn.kp T.d__law_is_count.bd (da_cons (de_ix (de_var 0 (pv 0)) de_int (fun _ _ => rfl)) da_nil))))))))) (dss_one (ds_ret de_bl)) dss_nil)
      (dss_one (ds_ret (de_and (de_cb cv_isi (by rfl) T.z_isinstance (by decide +kernel) (da_cons (de_ix (de_var 0 (pv 0)) de_int (fun _ _ => rfl)) (da_cons (de_ty .tstr (by rfl) T.z_str (by decide +kernel)) da_nil))) (de_one (de_cmp (ov_inD (Room65 hr)) (de_ix (de_var 0 (pv 0)) de_int (fun _ _ => rfl)) (de_op ov_add (de_call0 G__law_pairs (hr.mono (by decide)) (by rfl) T.d__law_pairs.gl T.d__law_pairs.fn.kp T.d__law_pairs.bd) (de_new (dn_lst (da_cons de_str (da_cons de_str (da_cons de_str (da_cons de_str da_nil))))))) (by rfl)))))))
theorem ok_law (T : Txt K mg A B) : FnOk P w K mg base CX0 3 (A 14) (B 14) ["script"] (spOf K 1 sp_law) := by
  have G__law_op : FnOk P w K mg base CX0 2 (A 9) (B 9) ["tape"] (spOf K 1 sp__law_op) := ok__law_op T
  have G__law_is_op : FnOk P w K mg base CX0 2 (A 8) (B 8) ["value"] (spOf K 1 sp__law_is_op) := ok__law_is_op T
  have G__law_next : FnOk P w K mg base CX0 1 (A 5) (B 5) ["tape", "many"] (spOf K 2 sp__law_next) := ok__law_next T
  have G__law_bent : FnOk P w K mg base CX0 2 (A 10) (B 10) ["tape", "value"] (spOf K 2 sp__law_bent) := ok__law_bent T
  have G_is_op : FnOk P w K mg base CX0 2 (A 1) (B 1) ["value"] (spOf K 1 sp_is_op) := ok_is_op T
  have G_words_of : FnOk P w K mg base CX0 1 (A 2) (B 2) ["op"] (spOf K 1 sp_words_of) := ok_words_of T
  have G_is_fault : FnOk P w K mg base CX0 2 (A 4) (B 4) ["value"] (spOf K 1 sp_is_fault) := ok_is_fault T
  have G__law_words : FnOk P w K mg base CX0 2 (A 11) (B 11) ["op"] (spOf K 1 sp__law_words) := ok__law_words T
  have G__law_pairs : FnOk P w K mg base CX0 1 (A 6) (B 6) [] (spOf K 0 sp__law_pairs) := ok__law_pairs T
  have G_letters_of : FnOk P w K mg base CX0 1 (A 3) (B 3) ["op", "word"] (spOf K 2 sp_letters_of) := ok_letters_of T
  have G__law_letters : FnOk P w K mg base CX0 1 (A 12) (B 12) ["op", "word"] (spOf K 2 sp__law_letters) := ok__law_letters T
  have G__law_is_fault : FnOk P w K mg base CX0 2 (A 13) (B 13) ["value"] (spOf K 1 sp__law_is_fault) := ok__law_is_fault T
  refine fn_ok (ws := w_law) T.d_law.fn sc_law rfl (fun cdv A outer s H E hr => ?_) pk_law
  exact (dss_cons (ds_setM 1 (dn_lst (da_cons (de_cty cv_lst (by rfl) T.z_list (by decide +kernel) (da_cons (de_var 0 (pv 0)) da_nil)) (da_cons de_int (da_cons de_int (da_cons de_int da_nil))))) (fun _ he => ps_set (i := 1) sc_law.nd rfl (by first | exact .inl rfl | exact .inr rfl) he))
      (dss_cons (ds_for PassesOwn.never rfl (di_rng1 (by rfl) T.z_range (da_cons (de_op ov_add de_int (de_call G__law_next (hr.mono (by decide)) (by rfl) T.d__law_next.gl T.d__law_next.fn.kp T.d__law_next.bd (da_cons (de_var 1 (pv 1)) (da_cons de_int da_nil)))) da_nil)) (dg_var 2 (pg_name (i := 2) sc_law.nd rfl (by first | exact .inl rfl | exact .inr rfl))) (dss_cons (ds_set 3 (de_call G__law_op (hr.mono (by decide)) (by rfl) T.d__law_op.gl T.d__law_op.fn.kp T.d__law_op.bd (da_cons (de_var 1 (pv 1)) da_nil)) (fun _ he => ps_set (i := 3) sc_law.nd rfl (by first | exact .inl rfl | exact .inr rfl) he))
      (dss_cons (ds_for PassesOwn.never rfl (di_tup (de_tup (da_cons (de_var 3 (pv 3)) (da_cons (de_call G__law_bent (hr.mono (by decide)) (by rfl) T.d__law_bent.gl T.d__law_bent.fn.kp T.d__law_bent.bd (da_cons (de_var 1 (pv 1)) (da_cons (de_var 3 (pv 3)) da_nil))) da_nil)))) (dg_var 4 (pg_name (i := 4) sc_law.nd rfl (by first | exact .inl rfl | exact .inr rfl))) (dss_cons (ds_set 7 (de_call G_is_op (hr.mono (by decide)) (by rfl) T.d_is_op.gl T.d_is_op.fn.kp T.d_is_op.bd (da_cons (de_var 4 (pv 4)) da_nil)) (fun _ he => ps_set (i := 7) sc_law.nd rfl (by first | exact .inl rfl | exact .inr rfl) he))
      (dss_one (ds_if (DW.pt (dw_or (dt_not (dt_tru (de_cb cv_isi (by rfl) T.z_isinstance (by decide +kernel) (da_cons (de_var 7 (pv 7)) (da_cons (de_ty .tbool (by rfl) T.z_bool (by decide +kernel)) da_nil))))) (dw_or1 (dt_cmp (ov_ne hr.units) (de_var 7 (pv 7)) (de_call G__law_is_op (hr.mono (by decide)) (by rfl) T.d__law_is_op.gl T.d__law_is_op.fn.kp T.d__law_is_op.bd (da_cons (de_var 4 (pv 4)) da_nil)) (nomark _))))) (dss_one (ds_ret de_bl)) dss_nil))))
      (dss_cons (ds_if (dt_tru (de_call G__law_is_op (hr.mono (by decide)) (by rfl) T.d__law_is_op.gl T.d__law_is_op.fn.kp T.d__law_is_op.bd (da_cons (de_var 3 (pv 3)) da_nil))) (dss_cons (ds_if (dt_cmp (ov_ne hr.units) (de_call G_words_of (hr.mono (by decide)) (by rfl) T.d_words_of.gl T.d_words_of.fn.kp T.d_words_of.bd (da_cons (de_var 3 (pv 3)) da_nil)) (de_call G__law_words (hr.mono (by decide)) (by rfl) T.d__law_words.gl T.d__law_words.fn.kp T.d__law_words.bd (da_cons (de_var 3 (pv 3)) da_nil)) (nomark _)) (dss_one (ds_ret de_bl)) dss_nil)
      (dss_one (ds_for PassesOwn.never rfl (di_list (de_call G_words_of (hr.mono (by decide)) (by rfl) T.d_words_of.gl T.d_words_of.fn.kp T.d_words_of.bd (da_cons (de_var 3 (pv 3)) da_nil))) (dg_var 5 (pg_name (i := 5) sc_law.nd rfl (by first | exact .inl rfl | exact .inr rfl))) (dss_one (ds_if (dt_cmp (ov_ne hr.units) (de_call G_letters_of (hr.mono (by decide)) (by rfl) T.d_letters_of.gl T.d_letters_of.fn.kp T.d_letters_of.bd (da_cons (de_var 3 (pv 3)) (da_cons (de_var 5 (pv 5)) da_nil))) (de_call G__law_letters (hr.mono (by decide)) (by rfl) T.d__law_letters.gl T.d__law_letters.fn.kp T.d__law_letters.bd (da_cons (de_var 3 (pv 3)) (da_cons (de_var 5 (pv 5)) da_nil))) (nomark _)) (dss_one (ds_ret de_bl)) dss_nil))))) dss_nil)
      (dss_cons (ds_set 5 (de_ix (de_op ov_add (de_call0 G__law_pairs (hr.mono (by decide)) (by rfl) T.d__law_pairs.gl T.d__law_pairs.fn.kp T.d__law_pairs.bd) (de_new (dn_lst (da_cons de_str (da_cons de_str (da_cons de_str (da_cons de_str (da_cons de_str (da_cons de_str (da_cons de_str da_nil)))))))))) (de_call G__law_next (hr.mono (by decide)) (by rfl) T.d__law_next.gl T.d__law_next.fn.kp T.d__law_next.bd (da_cons (de_var 1 (pv 1)) (da_cons de_int da_nil))) (fun _ _ => rfl)) (fun _ he => ps_set (i := 5) sc_law.nd rfl (by first | exact .inl rfl | exact .inr rfl) he))
      (dss_cons (ds_set 6 (de_tup (da_cons (de_call G__law_next (hr.mono (by decide)) (by rfl) T.d__law_next.gl T.d__law_next.fn.kp T.d__law_next.bd (da_cons (de_var 1 (pv 1)) (da_cons de_int da_nil))) (da_cons (de_call G__law_next (hr.mono (by decide)) (by rfl) T.d__law_next.gl T.d__law_next.fn.kp T.d__law_next.bd (da_cons (de_var 1 (pv 1)) (da_cons de_int da_nil))) (da_cons (de_var 5 (pv 5)) da_nil)))) (fun _ he => ps_set (i := 6) sc_law.nd rfl (by first | exact .inl rfl | exact .inr rfl) he))
      (dss_one (ds_for PassesOwn.never rfl (di_tup (de_tup (da_cons (de_var 6 (pv 6)) (da_cons (de_call G__law_bent (hr.mono (by decide)) (by rfl) T.d__law_bent.gl T.d__law_bent.fn.kp T.d__law_bent.bd (da_cons (de_var 1 (pv 1)) (da_cons (de_var 6 (pv 6)) da_nil))) da_nil)))) (dg_var 4 (pg_name (i := 4) sc_law.nd rfl (by first | exact .inl rfl | exact .inr rfl))) (dss_cons (ds_set 7 (de_call G_is_fault (hr.mono (by decide)) (by rfl) T.d_is_fault.gl T.d_is_fault.fn.kp T.d_is_fault.bd (da_cons (de_var 4 (pv 4)) da_nil)) (fun _ he => ps_set (i := 7) sc_law.nd rfl (by first | exact .inl rfl | exact .inr rfl) he))
      (dss_one (ds_if (DW.pt (dw_or (dt_not (dt_tru (de_cb cv_isi (by rfl) T.z_isinstance (by decide +kernel) (da_cons (de_var 7 (pv 7)) (da_cons (de_ty .tbool (by rfl) T.z_bool (by decide +kernel)) da_nil))))) (dw_or1 (dt_cmp (ov_ne hr.units) (de_var 7 (pv 7)) (de_call G__law_is_fault (hr.mono (by decide)) (by rfl) T.d__law_is_fault.gl T.d__law_is_fault.fn.kp T.d__law_is_fault.bd (da_cons (de_var 4 (pv 4)) da_nil)) (nomark _))))) (dss_one (ds_ret de_bl)) dss_nil)))))))))))
      (dss_one (ds_ret (de_and (de_not (de_call G_is_op (hr.mono (by decide)) (by rfl) T.d_is_op.gl T.d_is_op.fn.kp T.d_is_op.bd (da_cons de_str da_nil))) (de_one (de_not (de_call G_is_fault (hr.mono (by decide)) (by rfl) T.d_is_fault.gl T.d_is_fault.fn.kp T.d_is_fault.bd (da_cons de_non da_nil)))))))))
end
end K08

set_option Elab.async false
set_option linter.all false
set_option maxRecDepth 100000
set_option maxHeartbeats 4000000
namespace K08
open PySem PySem.Spec L2 VL
theorem all_mk {l : PySem.W.OpenLaw} {w : World} {K : PySem.W.Frag} {h : Heap} {mg : Str → Option Value} {fa : Addr} (X : K.In h) (G : h.Ns mainGlobals mg) (hfa : mg "law" = some (.ref fa))
    {f0 f1 f2 f3 f4 f5 f6 f7 f8 f9 f10 f11 f12 f13 f14 : Addr} {od0 an0 od1 an1 od2 an2 od3 an3 od4 an4 od5 an5 od6 an6 od7 an7 od8 an8 od9 an9 od10 an10 od11 an11 od12 an12 od13 an13 od14 an14 : Option Addr} {sl0 sl1 sl2 sl3 sl4 sl5 sl6 sl7 sl8 sl9 sl10 sl11 sl12 sl13 sl14 : Array (Option Value)} {oc0 kV0 dc0 pm0 cd0 ct0 oc1 kV1 dc1 pm1 cd1 ct1 oc2 kV2 dc2 pm2 cd2 ct2 oc3 kV3 dc3 pm3 cd3 ct3 oc4 kV4 dc4 pm4 cd4 ct4 oc5 kV5 dc5 pm5 cd5 ct5 oc6 kV6 dc6 pm6 cd6 ct6 oc7 kV7 dc7 pm7 cd7 ct7 oc8 kV8 dc8 pm8 cd8 ct8 oc9 kV9 dc9 pm9 cd9 ct9 oc10 kV10 dc10 pm10 cd10 ct10 oc11 kV11 dc11 pm11 cd11 ct11 oc12 kV12 dc12 pm12 cd12 ct12 oc13 kV13 dc13 pm13 cd13 ct13 oc14 kV14 dc14 pm14 cd14 ct14 : Value} {pONE_QUBIT : Addr} {ocONE_QUBIT : Option Addr} {nONE_QUBIT : Nat} {slONE_QUBIT : Array (Option Value)} {tONE_QUBIT0 tONE_QUBIT1 tONE_QUBIT2 tONE_QUBIT3 tONE_QUBIT4 tONE_QUBIT5 : Tok} {pPAIRS : Addr} {ocPAIRS : Option Addr} {nPAIRS : Nat} {slPAIRS : Array (Option Value)} {tPAIRS0 tPAIRS1 tPAIRS2 tPAIRS3 tPAIRS4 tPAIRS5 tPAIRS6 tPAIRS7 tPAIRS8 tPAIRS9 tPAIRS10 tPAIRS11 tPAIRS12 tPAIRS13 tPAIRS14 : Tok}
    (a0 : PySem.W.nsIn K mainGlobals "is_integer" = some (some (.ref f0))) (l0 : K.lookup f0 = some ⟨oc0, od0, .func (PySem.W.fnOf "is_integer" "is_integer" (defArgs s_is_integer) (defBody s_is_integer) (defScope s_is_integer) .none kV0 dc0 pm0 an0 cd0 ct0), sl0⟩) (c0 : PySem.W.codeIn K cd0 "is_integer" = true) (k0 : PySem.W.keepIn K (.ref f0) = true)
    (a1 : PySem.W.nsIn K mainGlobals "is_op" = some (some (.ref f1))) (l1 : K.lookup f1 = some ⟨oc1, od1, .func (PySem.W.fnOf "is_op" "is_op" (defArgs s_is_op) (defBody s_is_op) (defScope s_is_op) .none kV1 dc1 pm1 an1 cd1 ct1), sl1⟩) (c1 : PySem.W.codeIn K cd1 "is_op" = true) (k1 : PySem.W.keepIn K (.ref f1) = true)
    (a2 : PySem.W.nsIn K mainGlobals "words_of" = some (some (.ref f2))) (l2 : K.lookup f2 = some ⟨oc2, od2, .func (PySem.W.fnOf "words_of" "words_of" (defArgs s_words_of) (defBody s_words_of) (defScope s_words_of) .none kV2 dc2 pm2 an2 cd2 ct2), sl2⟩) (c2 : PySem.W.codeIn K cd2 "words_of" = true) (k2 : PySem.W.keepIn K (.ref f2) = true)
    (a3 : PySem.W.nsIn K mainGlobals "letters_of" = some (some (.ref f3))) (l3 : K.lookup f3 = some ⟨oc3, od3, .func (PySem.W.fnOf "letters_of" "letters_of" (defArgs s_letters_of) (defBody s_letters_of) (defScope s_letters_of) .none kV3 dc3 pm3 an3 cd3 ct3), sl3⟩) (c3 : PySem.W.codeIn K cd3 "letters_of" = true) (k3 : PySem.W.keepIn K (.ref f3) = true)
    (a4 : PySem.W.nsIn K mainGlobals "is_fault" = some (some (.ref f4))) (l4 : K.lookup f4 = some ⟨oc4, od4, .func (PySem.W.fnOf "is_fault" "is_fault" (defArgs s_is_fault) (defBody s_is_fault) (defScope s_is_fault) .none kV4 dc4 pm4 an4 cd4 ct4), sl4⟩) (c4 : PySem.W.codeIn K cd4 "is_fault" = true) (k4 : PySem.W.keepIn K (.ref f4) = true)
    (a5 : PySem.W.nsIn K mainGlobals "_law_next" = some (some (.ref f5))) (l5 : K.lookup f5 = some ⟨oc5, od5, .func (PySem.W.fnOf "_law_next" "_law_next" (defArgs s__law_next) (defBody s__law_next) (defScope s__law_next) .none kV5 dc5 pm5 an5 cd5 ct5), sl5⟩) (c5 : PySem.W.codeIn K cd5 "_law_next" = true) (k5 : PySem.W.keepIn K (.ref f5) = true)
    (a6 : PySem.W.nsIn K mainGlobals "_law_pairs" = some (some (.ref f6))) (l6 : K.lookup f6 = some ⟨oc6, od6, .func (PySem.W.fnOf "_law_pairs" "_law_pairs" (defArgs s__law_pairs) (defBody s__law_pairs) (defScope s__law_pairs) .none kV6 dc6 pm6 an6 cd6 ct6), sl6⟩) (c6 : PySem.W.codeIn K cd6 "_law_pairs" = true) (k6 : PySem.W.keepIn K (.ref f6) = true)
    (a7 : PySem.W.nsIn K mainGlobals "_law_is_count" = some (some (.ref f7))) (l7 : K.lookup f7 = some ⟨oc7, od7, .func (PySem.W.fnOf "_law_is_count" "_law_is_count" (defArgs s__law_is_count) (defBody s__law_is_count) (defScope s__law_is_count) .none kV7 dc7 pm7 an7 cd7 ct7), sl7⟩) (c7 : PySem.W.codeIn K cd7 "_law_is_count" = true) (k7 : PySem.W.keepIn K (.ref f7) = true)
    (a8 : PySem.W.nsIn K mainGlobals "_law_is_op" = some (some (.ref f8))) (l8 : K.lookup f8 = some ⟨oc8, od8, .func (PySem.W.fnOf "_law_is_op" "_law_is_op" (defArgs s__law_is_op) (defBody s__law_is_op) (defScope s__law_is_op) .none kV8 dc8 pm8 an8 cd8 ct8), sl8⟩) (c8 : PySem.W.codeIn K cd8 "_law_is_op" = true) (k8 : PySem.W.keepIn K (.ref f8) = true)
    (a9 : PySem.W.nsIn K mainGlobals "_law_op" = some (some (.ref f9))) (l9 : K.lookup f9 = some ⟨oc9, od9, .func (PySem.W.fnOf "_law_op" "_law_op" (defArgs s__law_op) (defBody s__law_op) (defScope s__law_op) .none kV9 dc9 pm9 an9 cd9 ct9), sl9⟩) (c9 : PySem.W.codeIn K cd9 "_law_op" = true) (k9 : PySem.W.keepIn K (.ref f9) = true)
    (a10 : PySem.W.nsIn K mainGlobals "_law_bent" = some (some (.ref f10))) (l10 : K.lookup f10 = some ⟨oc10, od10, .func (PySem.W.fnOf "_law_bent" "_law_bent" (defArgs s__law_bent) (defBody s__law_bent) (defScope s__law_bent) .none kV10 dc10 pm10 an10 cd10 ct10), sl10⟩) (c10 : PySem.W.codeIn K cd10 "_law_bent" = true) (k10 : PySem.W.keepIn K (.ref f10) = true)
    (a11 : PySem.W.nsIn K mainGlobals "_law_words" = some (some (.ref f11))) (l11 : K.lookup f11 = some ⟨oc11, od11, .func (PySem.W.fnOf "_law_words" "_law_words" (defArgs s__law_words) (defBody s__law_words) (defScope s__law_words) .none kV11 dc11 pm11 an11 cd11 ct11), sl11⟩) (c11 : PySem.W.codeIn K cd11 "_law_words" = true) (k11 : PySem.W.keepIn K (.ref f11) = true)
    (a12 : PySem.W.nsIn K mainGlobals "_law_letters" = some (some (.ref f12))) (l12 : K.lookup f12 = some ⟨oc12, od12, .func (PySem.W.fnOf "_law_letters" "_law_letters" (defArgs s__law_letters) (defBody s__law_letters) (defScope s__law_letters) .none kV12 dc12 pm12 an12 cd12 ct12), sl12⟩) (c12 : PySem.W.codeIn K cd12 "_law_letters" = true) (k12 : PySem.W.keepIn K (.ref f12) = true)
    (a13 : PySem.W.nsIn K mainGlobals "_law_is_fault" = some (some (.ref f13))) (l13 : K.lookup f13 = some ⟨oc13, od13, .func (PySem.W.fnOf "_law_is_fault" "_law_is_fault" (defArgs s__law_is_fault) (defBody s__law_is_fault) (defScope s__law_is_fault) .none kV13 dc13 pm13 an13 cd13 ct13), sl13⟩) (c13 : PySem.W.codeIn K cd13 "_law_is_fault" = true) (k13 : PySem.W.keepIn K (.ref f13) = true)
    (a14 : PySem.W.nsIn K mainGlobals "law" = some (some (.ref f14))) (l14 : K.lookup f14 = some ⟨oc14, od14, .func (PySem.W.fnOf "law" "law" (defArgs s_law) (defBody s_law) (defScope s_law) .none kV14 dc14 pm14 an14 cd14 ct14), sl14⟩) (c14 : PySem.W.codeIn K cd14 "law" = true) (k14 : PySem.W.keepIn K (.ref f14) = true)
    (z_len : PySem.W.nsIn K mainGlobals "len" = some none) (z_abs : PySem.W.nsIn K mainGlobals "abs" = some none) (z_int : PySem.W.nsIn K mainGlobals "int" = some none) (z_tuple : PySem.W.nsIn K mainGlobals "tuple" = some none) (z_list : PySem.W.nsIn K mainGlobals "list" = some none) (z_isinstance : PySem.W.nsIn K mainGlobals "isinstance" = some none) (z_range : PySem.W.nsIn K mainGlobals "range" = some none) (z_zip : PySem.W.nsIn K mainGlobals "zip" = some none) (z_bool : PySem.W.nsIn K mainGlobals "bool" = some none) (z_str : PySem.W.nsIn K mainGlobals "str" = some none) (aONE_QUBIT : PySem.W.nsIn K mainGlobals "ONE_QUBIT" = some (some (.ref pONE_QUBIT))) (lONE_QUBIT : K.lookup pONE_QUBIT = some ⟨.type "tuple", ocONE_QUBIT, .seq #[.str "zero" tONE_QUBIT0, .str "plus" tONE_QUBIT1, .str "mz" tONE_QUBIT2, .str "mx" tONE_QUBIT3, .str "wait" tONE_QUBIT4, .str "give" tONE_QUBIT5] nONE_QUBIT, slONE_QUBIT⟩) (aPAIRS : PySem.W.nsIn K mainGlobals "PAIRS" = some (some (.ref pPAIRS))) (lPAIRS : K.lookup pPAIRS = some ⟨.type "tuple", ocPAIRS, .seq #[.str "IX" tPAIRS0, .str "IY" tPAIRS1, .str "IZ" tPAIRS2, .str "XI" tPAIRS3, .str "XX" tPAIRS4, .str "XY" tPAIRS5, .str "XZ" tPAIRS6, .str "YI" tPAIRS7, .str "YX" tPAIRS8, .str "YY" tPAIRS9, .str "YZ" tPAIRS10, .str "ZI" tPAIRS11, .str "ZX" tPAIRS12, .str "ZY" tPAIRS13, .str "ZZ" tPAIRS14] nPAIRS, slPAIRS⟩) :
    ∃ fd : FuncData, (∀ (s : Shared) (v : Value), BindsTo s fd ⟨[v], []⟩ [("script", v)]) ∧ ∀ base : Heap, K.In base → base.Ns mainGlobals mg → FnOk l.prog w K mg base CX0 3 fa fd ["script"] (spOf K 1 sp_law) := by
  have e := hfa.symm.trans (PySem.W.mg_of X G a14)
  cases e
  have F0 := fun_mk (st := s_is_integer) l0 c0 k0
  have D0 : DefAt K mg "is_integer" s_is_integer ["value"] f0 _ := ⟨F0, F0.binds fun _ _ _ _ _ _ us hl => match us, hl with | [_], _ => rfl, PySem.W.mg_of X G a0⟩
  have F1 := fun_mk (st := s_is_op) l1 c1 k1
  have D1 : DefAt K mg "is_op" s_is_op ["value"] f1 _ := ⟨F1, F1.binds fun _ _ _ _ _ _ us hl => match us, hl with | [_], _ => rfl, PySem.W.mg_of X G a1⟩
  have F2 := fun_mk (st := s_words_of) l2 c2 k2
  have D2 : DefAt K mg "words_of" s_words_of ["op"] f2 _ := ⟨F2, F2.binds fun _ _ _ _ _ _ us hl => match us, hl with | [_], _ => rfl, PySem.W.mg_of X G a2⟩
  have F3 := fun_mk (st := s_letters_of) l3 c3 k3
  have D3 : DefAt K mg "letters_of" s_letters_of ["op", "word"] f3 _ := ⟨F3, F3.binds fun _ _ _ _ _ _ us hl => match us, hl with | [_, _], _ => rfl, PySem.W.mg_of X G a3⟩
  have F4 := fun_mk (st := s_is_fault) l4 c4 k4
  have D4 : DefAt K mg "is_fault" s_is_fault ["value"] f4 _ := ⟨F4, F4.binds fun _ _ _ _ _ _ us hl => match us, hl with | [_], _ => rfl, PySem.W.mg_of X G a4⟩
  have F5 := fun_mk (st := s__law_next) l5 c5 k5
  have D5 : DefAt K mg "_law_next" s__law_next ["tape", "many"] f5 _ := ⟨F5, F5.binds fun _ _ _ _ _ _ us hl => match us, hl with | [_, _], _ => rfl, PySem.W.mg_of X G a5⟩
  have F6 := fun_mk (st := s__law_pairs) l6 c6 k6
  have D6 : DefAt K mg "_law_pairs" s__law_pairs [] f6 _ := ⟨F6, F6.binds fun _ _ _ _ _ _ us hl => match us, hl with | [], _ => rfl, PySem.W.mg_of X G a6⟩
  have F7 := fun_mk (st := s__law_is_count) l7 c7 k7
  have D7 : DefAt K mg "_law_is_count" s__law_is_count ["value"] f7 _ := ⟨F7, F7.binds fun _ _ _ _ _ _ us hl => match us, hl with | [_], _ => rfl, PySem.W.mg_of X G a7⟩
  have F8 := fun_mk (st := s__law_is_op) l8 c8 k8
  have D8 : DefAt K mg "_law_is_op" s__law_is_op ["value"] f8 _ := ⟨F8, F8.binds fun _ _ _ _ _ _ us hl => match us, hl with | [_], _ => rfl, PySem.W.mg_of X G a8⟩
  have F9 := fun_mk (st := s__law_op) l9 c9 k9
  have D9 : DefAt K mg "_law_op" s__law_op ["tape"] f9 _ := ⟨F9, F9.binds fun _ _ _ _ _ _ us hl => match us, hl with | [_], _ => rfl, PySem.W.mg_of X G a9⟩
  have F10 := fun_mk (st := s__law_bent) l10 c10 k10
  have D10 : DefAt K mg "_law_bent" s__law_bent ["tape", "value"] f10 _ := ⟨F10, F10.binds fun _ _ _ _ _ _ us hl => match us, hl with | [_, _], _ => rfl, PySem.W.mg_of X G a10⟩
  have F11 := fun_mk (st := s__law_words) l11 c11 k11
  have D11 : DefAt K mg "_law_words" s__law_words ["op"] f11 _ := ⟨F11, F11.binds fun _ _ _ _ _ _ us hl => match us, hl with | [_], _ => rfl, PySem.W.mg_of X G a11⟩
  have F12 := fun_mk (st := s__law_letters) l12 c12 k12
  have D12 : DefAt K mg "_law_letters" s__law_letters ["op", "word"] f12 _ := ⟨F12, F12.binds fun _ _ _ _ _ _ us hl => match us, hl with | [_, _], _ => rfl, PySem.W.mg_of X G a12⟩
  have F13 := fun_mk (st := s__law_is_fault) l13 c13 k13
  have D13 : DefAt K mg "_law_is_fault" s__law_is_fault ["value"] f13 _ := ⟨F13, F13.binds fun _ _ _ _ _ _ us hl => match us, hl with | [_], _ => rfl, PySem.W.mg_of X G a13⟩
  have F14 := fun_mk (st := s_law) l14 c14 k14
  have D14 : DefAt K mg "law" s_law ["script"] fa _ := ⟨F14, F14.binds fun _ _ _ _ _ _ us hl => match us, hl with | [_], _ => rfl, PySem.W.mg_of X G a14⟩
  have T : Txt K mg (fun i => ([f0, f1, f2, f3, f4, f5, f6, f7, f8, f9, f10, f11, f12, f13, fa] : List Addr).getD i 0) (fun i => ([PySem.W.fnOf "is_integer" "is_integer" (defArgs s_is_integer) (defBody s_is_integer) (defScope s_is_integer) .none kV0 dc0 pm0 an0 cd0 ct0, PySem.W.fnOf "is_op" "is_op" (defArgs s_is_op) (defBody s_is_op) (defScope s_is_op) .none kV1 dc1 pm1 an1 cd1 ct1, PySem.W.fnOf "words_of" "words_of" (defArgs s_words_of) (defBody s_words_of) (defScope s_words_of) .none kV2 dc2 pm2 an2 cd2 ct2, PySem.W.fnOf "letters_of" "letters_of" (defArgs s_letters_of) (defBody s_letters_of) (defScope s_letters_of) .none kV3 dc3 pm3 an3 cd3 ct3, PySem.W.fnOf "is_fault" "is_fault" (defArgs s_is_fault) (defBody s_is_fault) (defScope s_is_fault) .none kV4 dc4 pm4 an4 cd4 ct4, PySem.W.fnOf "_law_next" "_law_next" (defArgs s__law_next) (defBody s__law_next) (defScope s__law_next) .none kV5 dc5 pm5 an5 cd5 ct5, PySem.W.fnOf "_law_pairs" "_law_pairs" (defArgs s__law_pairs) (defBody s__law_pairs) (defScope s__law_pairs) .none kV6 dc6 pm6 an6 cd6 ct6, PySem.W.fnOf "_law_is_count" "_law_is_count" (defArgs s__law_is_count) (defBody s__law_is_count) (defScope s__law_is_count) .none kV7 dc7 pm7 an7 cd7 ct7, PySem.W.fnOf "_law_is_op" "_law_is_op" (defArgs s__law_is_op) (defBody s__law_is_op) (defScope s__law_is_op) .none kV8 dc8 pm8 an8 cd8 ct8, PySem.W.fnOf "_law_op" "_law_op" (defArgs s__law_op) (defBody s__law_op) (defScope s__law_op) .none kV9 dc9 pm9 an9 cd9 ct9, PySem.W.fnOf "_law_bent" "_law_bent" (defArgs s__law_bent) (defBody s__law_bent) (defScope s__law_bent) .none kV10 dc10 pm10 an10 cd10 ct10, PySem.W.fnOf "_law_words" "_law_words" (defArgs s__law_words) (defBody s__law_words) (defScope s__law_words) .none kV11 dc11 pm11 an11 cd11 ct11, PySem.W.fnOf "_law_letters" "_law_letters" (defArgs s__law_letters) (defBody s__law_letters) (defScope s__law_letters) .none kV12 dc12 pm12 an12 cd12 ct12, PySem.W.fnOf "_law_is_fault" "_law_is_fault" (defArgs s__law_is_fault) (defBody s__law_is_fault) (defScope s__law_is_fault) .none kV13 dc13 pm13 an13 cd13 ct13, PySem.W.fnOf "law" "law" (defArgs s_law) (defBody s_law) (defScope s_law) .none kV14 dc14 pm14 an14 cd14 ct14] : List FuncData).getD i (PySem.W.fnOf "law" "law" (defArgs s_law) (defBody s_law) (defScope s_law) .none kV14 dc14 pm14 an14 cd14 ct14)) := ⟨PySem.W.mg_none_of X G z_len, PySem.W.mg_none_of X G z_abs, PySem.W.mg_none_of X G z_int, PySem.W.mg_none_of X G z_tuple, PySem.W.mg_none_of X G z_list, PySem.W.mg_none_of X G z_isinstance, PySem.W.mg_none_of X G z_range, PySem.W.mg_none_of X G z_zip, PySem.W.mg_none_of X G z_bool, PySem.W.mg_none_of X G z_str, ⟨.ref pONE_QUBIT, _, PySem.W.mg_of X G aONE_QUBIT, rfl, fun F => .tup (.inr ⟨_, _, _, lONE_QUBIT, rfl, rfl, (by show (6 : Nat) ≤ sizeLine; decide), (.cons VL.rv_str (.cons VL.rv_str (.cons VL.rv_str (.cons VL.rv_str (.cons VL.rv_str (.cons VL.rv_str .nil))))))⟩) (.cons (.str _) (.cons (.str _) (.cons (.str _) (.cons (.str _) (.cons (.str _) (.cons (.str _) .nil))))))⟩, ⟨.ref pPAIRS, _, PySem.W.mg_of X G aPAIRS, rfl, fun F => .tup (.inr ⟨_, _, _, lPAIRS, rfl, rfl, (by show (15 : Nat) ≤ sizeLine; decide), (.cons VL.rv_str (.cons VL.rv_str (.cons VL.rv_str (.cons VL.rv_str (.cons VL.rv_str (.cons VL.rv_str (.cons VL.rv_str (.cons VL.rv_str (.cons VL.rv_str (.cons VL.rv_str (.cons VL.rv_str (.cons VL.rv_str (.cons VL.rv_str (.cons VL.rv_str (.cons VL.rv_str .nil)))))))))))))))⟩) (.cons (.str _) (.cons (.str _) (.cons (.str _) (.cons (.str _) (.cons (.str _) (.cons (.str _) (.cons (.str _) (.cons (.str _) (.cons (.str _) (.cons (.str _) (.cons (.str _) (.cons (.str _) (.cons (.str _) (.cons (.str _) (.cons (.str _) .nil)))))))))))))))⟩, D0, D1, D2, D3, D4, D5, D6, D7, D8, D9, D10, D11, D12, D13, D14⟩
  exact ⟨PySem.W.fnOf "law" "law" (defArgs s_law) (defBody s_law) (defScope s_law) .none kV14 dc14 pm14 an14 cd14 ct14, fun s v => .of_eq rfl, fun base _ _ => ok_law T⟩
end K08
open PySem PySem.W PyProof.Rows
set_option maxHeartbeats 0 in
theorem PySem.Challenge.cw_mendedgates_k08_operations_and_faults_holds : PySem.Challenge.rw_mendedgates_k08_operations_and_faults.Holds := by
  w_on; o_law; k_head; (case hw => w_witness2)
  k_fill
  refine L2.walk_of (l := PySem.Challenge.rw_mendedgates_k08_operations_and_faults) (n := 63) (k := 3) (x := "script") (CX := fun _ => L2.CX0) (sp := fun w => VL.spOf _ 1 K08.sp_law) rfl (by decide) rfl ⟨rfl, by decide, by decide⟩ (fun w h Y => PySem.W.kIn_of Y) ?F (fun _ H a ns hl _ hS => VL.law_in hS ⟨ns, rfl, hl, fun _ => rfl⟩) (fun _ _ _ _ _ h => h)
  case F =>
    intro w mg fa h KX G hmg
    refine' K08.all_mk KX G hmg ?a0 ?l0 ?c0 ?k0 ?a1 ?l1 ?c1 ?k1 ?a2 ?l2 ?c2 ?k2 ?a3 ?l3 ?c3 ?k3 ?a4 ?l4 ?c4 ?k4 ?a5 ?l5 ?c5 ?k5 ?a6 ?l6 ?c6 ?k6 ?a7 ?l7 ?c7 ?k7 ?a8 ?l8 ?c8 ?k8 ?a9 ?l9 ?c9 ?k9 ?a10 ?l10 ?c10 ?k10 ?a11 ?l11 ?c11 ?k11 ?a12 ?l12 ?c12 ?k12 ?a13 ?l13 ?c13 ?k13 ?a14 ?l14 ?c14 ?k14 ?z_len ?z_abs ?z_int ?z_tuple ?z_list ?z_isinstance ?z_range ?z_zip ?z_bool ?z_str ?aONE_QUBIT ?lONE_QUBIT ?aPAIRS ?lPAIRS
    (case a0 => k_is); (case l0 => k_is); (case c0 => k_is); (case k0 => k_is); (case a1 => k_is); (case l1 => k_is)
    (case c1 => k_is); (case k1 => k_is); (case a2 => k_is); (case l2 => k_is); (case c2 => k_is); (case k2 => k_is)
    (case a3 => k_is); (case l3 => k_is); (case c3 => k_is); (case k3 => k_is); (case a4 => k_is); (case l4 => k_is)
    (case c4 => k_is); (case k4 => k_is); (case a5 => k_is); (case l5 => k_is); (case c5 => k_is); (case k5 => k_is)
    (case a6 => k_is); (case l6 => k_is); (case c6 => k_is); (case k6 => k_is); (case a7 => k_is); (case l7 => k_is)
    (case c7 => k_is); (case k7 => k_is); (case a8 => k_is); (case l8 => k_is); (case c8 => k_is); (case k8 => k_is)
    (case a9 => k_is); (case l9 => k_is); (case c9 => k_is); (case k9 => k_is); (case a10 => k_is); (case l10 => k_is)
    (case c10 => k_is); (case k10 => k_is); (case a11 => k_is); (case l11 => k_is); (case c11 => k_is); (case k11 => k_is)
    (case a12 => k_is); (case l12 => k_is); (case c12 => k_is); (case k12 => k_is); (case a13 => k_is); (case l13 => k_is)
    (case c13 => k_is); (case k13 => k_is); (case a14 => k_is); (case l14 => k_is); (case c14 => k_is); (case k14 => k_is)
    (case z_len => k_is); (case z_abs => k_is); (case z_int => k_is); (case z_tuple => k_is); (case z_list => k_is); (case z_isinstance => k_is)
    (case z_range => k_is); (case z_zip => k_is); (case z_bool => k_is); (case z_str => k_is); (case aONE_QUBIT => k_is); (case lONE_QUBIT => k_is)
    (case aPAIRS => k_is); (case lPAIRS => k_is)

