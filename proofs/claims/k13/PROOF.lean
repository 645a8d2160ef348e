import PyProof.Rows.All
import HandS.ForMost
import HandS.IsInst
import HandS.Conv
import HandS.Deep
import HandS.SortInts
import HandS.MapSum
import HandS.Defaults
import PySem.Challenge.RW_lastsuch_k13_rings_and_settled
import Wide.All
import OpenK.AllK
import Wide.FinOn
import KE.KStateDown
import HandS.ForExc
import HandS.More
import HandS.Head0
import HandS.Head1
import HandS.Head2
import HandS.HeadEnd
import HandS.HeadHook1
import HandS.HeadHook2
set_option Elab.async false
set_option linter.all false
set_option maxRecDepth 100000
set_option maxHeartbeats 0
/-! VL1: data values D without a heap, how a heap bears them (Rp), environments by slots, the syntax E and its plain reading wE, wT, wA, wI; statements S and wS. -/
namespace VL
open PySem PySem.Spec PyProof.Rows L2

/-- a value of the program as plain data; scr: the script; ins c: an instance of the c-th class, its fields in the class's order -/
inductive D where
  | non | bl (b : Bool) | int (i : Int) | str (x : Str)
  | lst (xs : List D) | tup (xs : List D) | scr (ns : List Int) | ins (c : Nat) (fs : List D)

/-- what the text says of its own classes: where the c-th stands, its fields -/
structure Cls0 where
  addr : Nat → Addr
  names : Nat → List Str

/-- the script, as it stands in the heap (or in the module) -/
def ScR (K : PySem.W.Frag) (H : Hp) (a : Addr) (xs : List V) : Prop := (∃ o, H a = some (.frz o (.lst xs))) ∨
  ∃ (o : Obj) (its : Array Value) (n : Nat), K.lookup a = some o ∧ o.cls = .type "list" ∧ o.dict = none ∧ o.data = .seq its n ∧ its.size ≤ sizeLine ∧ Vals xs its.toList
theorem ScR.sq {K : PySem.W.Frag} {H : Hp} {a : Addr} {xs : List V} (h : ScR K H a xs) : SqL K H a xs := h.elim (fun z => .inl (.inr z)) .inr
mutual
/-- v stands for d: lists within are not in M -/
inductive Rp (K : PySem.W.Frag) (C : Cls0) (H : Hp) (M : Addr → Prop) : V → D → Prop
  | non : Rp K C H M .non .non
  | bl (b : Bool) : Rp K C H M (.bl b) (.bl b)
  | int (i : Int) : Rp K C H M (.int i) (.int i)
  | str (x : Str) : Rp K C H M (.str x) (.str x)
  | lst {a : Addr} {vs : List V} {ds : List D} : H a = some (.lst vs) → ¬ M a → RpA K C H M vs ds → Rp K C H M (.ref a) (.lst ds)
  | tup {a : Addr} {vs : List V} {ds : List D} : SqT K H a vs → RpA K C H M vs ds → Rp K C H M (.ref a) (.tup ds)
  | scr {a : Addr} {ns : List Int} : ScR K H a (ns.map V.int) → Rp K C H M (.ref a) (.scr ns)
  | ins {a dx : Addr} {c : Nat} {fs : List (Str × V)} {ds : List D} : H a = some (.ins (C.addr c) dx fs) → fs.map (·.1) = C.names c → RpA K C H M (fs.map (·.2)) ds → Rp K C H M (.ref a) (.ins c ds)
inductive RpA (K : PySem.W.Frag) (C : Cls0) (H : Hp) (M : Addr → Prop) : List V → List D → Prop
  | nil : RpA K C H M [] []
  | cons {v : V} {vs : List V} {d : D} {ds : List D} : Rp K C H M v d → RpA K C H M vs ds → RpA K C H M (v :: vs) (d :: ds)
end

/-- the heap H' keeps what H bears off M -/
def Kp (M : Addr → Prop) (H H' : Hp) : Prop := ∀ a o, H a = some o → (M a ∧ ∃ vs, o = .lst vs) ∨ H' a = some o
/-- M' has nothing that H bears off M -/
def Lt (H : Hp) (M M' : Addr → Prop) : Prop := ∀ a o, H a = some o → M' a → M a
section
variable {K : PySem.W.Frag} {C : Cls0} {H H' H'' : Hp} {M M' : Addr → Prop}
theorem SqT.kp {a : Addr} {vs : List V} (k : Kp M H H') (h : SqT K H a vs) : SqT K H' a vs := by
  rcases h with (h | ⟨o, h⟩) | h
  · rcases k a _ h with ⟨_, w, e⟩ | e
    · cases e
    · exact .inl (.inl e)
  · rcases k a _ h with ⟨_, w, e⟩ | e
    · cases e
    · exact .inl (.inr ⟨o, e⟩)
  · exact .inr h
mutual
theorem Rp.kp (k : Kp M H H') (l : Lt H M M') : ∀ {d : D} {v : V}, Rp K C H M v d → Rp K C H' M' v d
  | .non, _, h => by cases h; exact .non
  | .bl b, _, h => by cases h; exact .bl b
  | .int i, _, h => by cases h; exact .int i
  | .str x, _, h => by cases h; exact .str x
  | .lst ds, _, h => by
    cases h with
    | lst e n r =>
      rcases k _ _ e with ⟨m, _⟩ | e'
      · exact (n m).elim
      · exact .lst e' (fun m => n (l _ _ e m)) (RpA.kp k l r)
  | .tup ds, _, h => by
    cases h with
    | tup e r => exact .tup (SqT.kp k e) (RpA.kp k l r)
  | .scr ns, _, h => by
    cases h with
    | scr e =>
      rcases e with ⟨o, e⟩ | e
      · rcases k _ _ e with ⟨_, w, z⟩ | e'
        · cases z
        · exact .scr (.inl ⟨o, e'⟩)
      · exact .scr (.inr e)
  | .ins c ds, _, h => by
    cases h with
    | ins e n r =>
      rcases k _ _ e with ⟨_, w, z⟩ | e'
      · cases z
      · exact .ins e' n (RpA.kp k l r)
theorem RpA.kp (k : Kp M H H') (l : Lt H M M') : ∀ {ds : List D} {vs : List V}, RpA K C H M vs ds → RpA K C H' M' vs ds
  | [], _, h => by cases h; exact .nil
  | d :: ds, _, h => by
    cases h with
    | cons r t => exact .cons (Rp.kp k l r) (RpA.kp k l t)
end
theorem Kp.refl : Kp M H H := fun _ _ h => .inr h
theorem Kp.of_same (s : Same H H') : Kp M H H' := fun _ _ h => .inr (s _ _ h)
theorem Lt.refl : Lt H M M := fun _ _ _ h => h
theorem Lt.of (h : ∀ a, M' a → M a) : Lt H M M' := fun a _ _ m => h a m
theorem Rp.same {v : V} {d : D} (s : Same H H') (h : Rp K C H M v d) : Rp K C H' M v d := h.kp (Kp.of_same s) Lt.refl
theorem RpA.same {vs : List V} {ds : List D} (s : Same H H') (h : RpA K C H M vs ds) : RpA K C H' M vs ds := h.kp (Kp.of_same s) Lt.refl
theorem RpA.length : ∀ {vs : List V} {ds : List D}, RpA K C H M vs ds → vs.length = ds.length
  | _, [], .nil => rfl
  | _, _ :: _, .cons _ t => congrArg Nat.succ (RpA.length t)
theorem RpA.get : ∀ {vs : List V} {ds : List D} {i : Nat} {d : D}, RpA K C H M vs ds → ds[i]? = some d → ∃ v, vs[i]? = some v ∧ Rp K C H M v d
  | _, [], _, _, .nil, e => by cases e
  | _, _ :: _, 0, _, .cons r _, e => by cases e; exact ⟨_, rfl, r⟩
  | _, _ :: _, n + 1, _, .cons _ t, e => RpA.get (i := n) t (by simpa using e)
theorem RpA.get' : ∀ {vs : List V} {ds : List D} {i : Nat} {v : V}, RpA K C H M vs ds → vs[i]? = some v → ∃ d, ds[i]? = some d ∧ Rp K C H M v d
  | _, [], _, _, .nil, e => by cases e
  | _, _ :: _, 0, _, .cons r _, e => by cases e; exact ⟨_, rfl, r⟩
  | _, _ :: _, n + 1, _, .cons _ t, e => RpA.get' (i := n) t (by simpa using e)
theorem RpA.append : ∀ {vs ws : List V} {ds es : List D}, RpA K C H M vs ds → RpA K C H M ws es → RpA K C H M (vs ++ ws) (ds ++ es)
  | _, _, [], _, .nil, h => h
  | _, _, _ :: _, _, .cons r t, h => .cons r (RpA.append t h)
theorem RpA.take : ∀ {vs : List V} {ds : List D} (n : Nat), RpA K C H M vs ds → RpA K C H M (vs.take n) (ds.take n)
  | _, _, 0, _ => .nil
  | _, [], _ + 1, .nil => .nil
  | _, _ :: _, n + 1, .cons r t => .cons r (RpA.take n t)
theorem RpA.drop : ∀ {vs : List V} {ds : List D} (n : Nat), RpA K C H M vs ds → RpA K C H M (vs.drop n) (ds.drop n)
  | _, _, 0, h => h
  | _, [], _ + 1, .nil => .nil
  | _, _ :: _, n + 1, .cons _ t => RpA.drop n t
theorem RpA.set {v : V} {d : D} (q : Rp K C H M v d) : ∀ {vs : List V} {ds : List D} (n : Nat), RpA K C H M vs ds → RpA K C H M (vs.set n v) (ds.set n d)
  | _, [], _, .nil => .nil
  | _, _ :: _, 0, .cons _ t => .cons q t
  | _, _ :: _, n + 1, .cons r t => .cons r (RpA.set q n t)
theorem RpA.erase : ∀ {vs : List V} {ds : List D} (n : Nat), RpA K C H M vs ds → RpA K C H M (vs.eraseIdx n) (ds.eraseIdx n)
  | _, [], _, .nil => .nil
  | _, _ :: _, 0, .cons _ t => t
  | _, _ :: _, n + 1, .cons r t => .cons r (RpA.erase n t)
theorem RpA.reverse : ∀ {vs : List V} {ds : List D}, RpA K C H M vs ds → RpA K C H M vs.reverse ds.reverse
  | _, [], .nil => .nil
  | _, _ :: _, .cons r t => by
    rw [List.reverse_cons, List.reverse_cons]
    exact (RpA.reverse t).append (.cons r .nil)
theorem RpA.dropLast : ∀ {vs : List V} {ds : List D}, RpA K C H M vs ds → RpA K C H M vs.dropLast ds.dropLast
  | _, [], .nil => .nil
  | _, [_], .cons _ .nil => .nil
  | _, _ :: _ :: _, .cons r (.cons q t) => .cons r (RpA.dropLast (.cons q t))
theorem RpA.rep {vs : List V} {ds : List D} (h : RpA K C H M vs ds) : ∀ k : Nat, RpA K C H M (List.replicate k vs).flatten (List.replicate k ds).flatten
  | 0 => .nil
  | k + 1 => by
    rw [List.replicate_succ, List.replicate_succ, List.flatten_cons, List.flatten_cons]
    exact h.append (RpA.rep h k)
theorem RpA.ints : ∀ {vs : List V} {ns : List Int}, RpA K C H M vs (ns.map D.int) → vs = ns.map V.int
  | _, [], .nil => rfl
  | _, _ :: _, .cons r t => by
    cases r
    exact congrArg _ (RpA.ints t)
theorem RpA.strs : ∀ {vs : List V} {ns : List Str}, RpA K C H M vs (ns.map D.str) → vs = ns.map V.str
  | _, [], .nil => rfl
  | _, _ :: _, .cons r t => by
    cases r
    exact congrArg _ (RpA.strs t)
theorem RpA.bls : ∀ {vs : List V} {ns : List Bool}, RpA K C H M vs (ns.map D.bl) → vs = ns.map V.bl
  | _, [], .nil => rfl
  | _, _ :: _, .cons r t => by
    cases r
    exact congrArg _ (RpA.bls t)
theorem RpA.of_ints : ∀ (ns : List Int), RpA K C H M (ns.map V.int) (ns.map D.int)
  | [] => .nil
  | n :: ns => .cons (.int n) (RpA.of_ints ns)
theorem RpA.of_strs : ∀ (ns : List Str), RpA K C H M (ns.map V.str) (ns.map D.str)
  | [] => .nil
  | n :: ns => .cons (.str n) (RpA.of_strs ns)
end

/-! ### kinds: nw a new list that nobody else holds; fr frozen; b1 a list that is only lent (its items are frozen) -/
inductive Kd where
  | nw | fr | b1
section
variable (K : PySem.W.Frag) (C : Cls0)
/-- a list that is lent, or a frozen thing -/
def Rb (H : Hp) (M : Addr → Prop) (v : V) (d : D) : Prop := Rp K C H M v d ∨ ∃ a vs ds, v = .ref a ∧ d = .lst ds ∧ H a = some (.lst vs) ∧ RpA K C H M vs ds
/-- a new list (H0: the heap ahead) -/
def Rn (H0 H : Hp) (M : Addr → Prop) (v : V) (d : D) : Prop := ∃ a vs ds, v = .ref a ∧ d = .lst ds ∧ H0 a = none ∧ ¬ M a ∧ H a = some (.lst vs) ∧ RpA K C H (fun b => M b ∨ b = a) vs ds
/-- .. by its kind -/
def Rk (H0 H : Hp) (M : Addr → Prop) : Kd → V → D → Prop
  | .nw => Rn K C H0 H M
  | .fr => Rp K C H M
  | .b1 => Rb K C H M
end
section
variable {K : PySem.W.Frag} {C : Cls0} {H0 H H' : Hp} {M : Addr → Prop} {v : V} {d : D}
theorem Rn.fr (h : Rn K C H0 H M v d) : Rp K C H M v d := by
  obtain ⟨a, vs, ds, rfl, rfl, _, m, e, r⟩ := h
  exact .lst e m (r.kp Kp.refl (Lt.of fun _ z => .inl z))
theorem Rk.b1 {k : Kd} (h : Rk K C H0 H M k v d) : Rb K C H M v d := by
  cases k with
  | nw => exact .inl (Rn.fr h)
  | fr => exact .inl h
  | b1 => exact h
def Kd.frz : Kd → Bool
  | .b1 => false
  | _ => true
theorem Rk.fr {k : Kd} (h : Rk K C H0 H M k v d) (hk : k.frz = true) : Rp K C H M v d := by
  cases k with
  | nw => exact Rn.fr h
  | fr => exact h
  | b1 => cases hk
/-- lists, however they are held -/
theorem Rb.lst {ds : List D} (h : Rb K C H M v (.lst ds)) : ∃ a vs, v = .ref a ∧ H a = some (.lst vs) ∧ RpA K C H M vs ds := by
  rcases h with h | ⟨a, vs, es, rfl, e, h1, h2⟩
  · cases h with
    | lst e n r => exact ⟨_, _, rfl, e, r⟩
  · cases e
    exact ⟨a, vs, rfl, h1, h2⟩
theorem Rb.fr (h : Rb K C H M v d) (nl : ∀ ds, d ≠ .lst ds) : Rp K C H M v d := by
  rcases h with h | ⟨a, vs, es, rfl, e, h1, h2⟩
  · exact h
  · exact (nl _ e).elim
theorem Rb.int {i : Int} (h : Rb K C H M v (.int i)) : v = .int i := by
  have h := h.fr (fun _ z => by cases z)
  cases h; rfl
theorem Rb.bl {b : Bool} (h : Rb K C H M v (.bl b)) : v = .bl b := by
  have h := h.fr (fun _ z => by cases z)
  cases h; rfl
theorem Rb.str {x : Str} (h : Rb K C H M v (.str x)) : v = .str x := by
  have h := h.fr (fun _ z => by cases z)
  cases h; rfl
theorem Rb.non (h : Rb K C H M v .non) : v = .non := by
  have h := h.fr (fun _ z => by cases z)
  cases h; rfl
theorem Rb.tup {ds : List D} (h : Rb K C H M v (.tup ds)) : ∃ a vs, v = .ref a ∧ SqT K H a vs ∧ RpA K C H M vs ds := by
  have h := h.fr (fun _ z => by cases z)
  cases h with
  | tup e r => exact ⟨_, _, rfl, e, r⟩
theorem Rb.scr {ns : List Int} (h : Rb K C H M v (.scr ns)) : ∃ a, v = .ref a ∧ ScR K H a (ns.map V.int) := by
  have h := h.fr (fun _ z => by cases z)
  cases h with
  | scr e => exact ⟨_, rfl, e⟩
end
end VL
/-! VL2: environments, the syntax E (expressions) and S (statements), their plain readings. -/
namespace VL
open PySem PySem.Spec PyProof.Rows L2

/-! ### data -/
mutual
def D.py : D → PyData
  | .non => .none
  | .bl b => .bool b
  | .int i => .int i
  | .str x => .str x
  | .lst ds => .list (pyAll ds)
  | .tup ds => .tuple (pyAll ds)
  | .scr ns => .list (ns.map .int)
  | .ins _ _ => .dict []
def pyAll : List D → List PyData
  | [] => []
  | d :: ds => d.py :: pyAll ds
end
theorem pyAll_eq : ∀ ds, pyAll ds = ds.map D.py
  | [] => rfl
  | d :: ds => by rw [pyAll, pyAll_eq ds, List.map_cons]
def intsOf : List D → Option (List Int)
  | [] => some []
  | .int i :: r => (intsOf r).map (i :: ·)
  | _ => none
def strsOf : List D → Option (List Str)
  | [] => some []
  | .str i :: r => (strsOf r).map (i :: ·)
  | _ => none
def blsOf : List D → Option (List Bool)
  | [] => some []
  | .bl i :: r => (blsOf r).map (i :: ·)
  | _ => none
theorem intsOf_map : ∀ ns : List Int, intsOf (ns.map D.int) = some ns
  | [] => rfl
  | n :: ns => by rw [List.map_cons, intsOf, intsOf_map ns]; rfl
theorem strsOf_map : ∀ ns : List Str, strsOf (ns.map D.str) = some ns
  | [] => rfl
  | n :: ns => by rw [List.map_cons, strsOf, strsOf_map ns]; rfl
theorem blsOf_map : ∀ ns : List Bool, blsOf (ns.map D.bl) = some ns
  | [] => rfl
  | n :: ns => by rw [List.map_cons, blsOf, blsOf_map ns]; rfl
theorem intsOf_some : ∀ {ds : List D} {ns : List Int}, intsOf ds = some ns → ds = ns.map D.int
  | [], _, h => by cases h; rfl
  | .int i :: r, ns, h => by
    rw [intsOf] at h
    cases e : intsOf r with
    | none => rw [e] at h; cases h
    | some z => rw [e] at h; cases h; rw [intsOf_some e]; rfl
  | .non :: _, _, h => by cases h
  | .bl _ :: _, _, h => by cases h
  | .str _ :: _, _, h => by cases h
  | .lst _ :: _, _, h => by cases h
  | .tup _ :: _, _, h => by cases h
  | .scr _ :: _, _, h => by cases h
  | .ins _ _ :: _, _, h => by cases h
theorem strsOf_some : ∀ {ds : List D} {ns : List Str}, strsOf ds = some ns → ds = ns.map D.str
  | [], _, h => by cases h; rfl
  | .str i :: r, ns, h => by
    rw [strsOf] at h
    cases e : strsOf r with
    | none => rw [e] at h; cases h
    | some z => rw [e] at h; cases h; rw [strsOf_some e]; rfl
  | .non :: _, _, h => by cases h
  | .bl _ :: _, _, h => by cases h
  | .int _ :: _, _, h => by cases h
  | .lst _ :: _, _, h => by cases h
  | .tup _ :: _, _, h => by cases h
  | .scr _ :: _, _, h => by cases h
  | .ins _ _ :: _, _, h => by cases h
theorem blsOf_some : ∀ {ds : List D} {ns : List Bool}, blsOf ds = some ns → ds = ns.map D.bl
  | [], _, h => by cases h; rfl
  | .bl i :: r, ns, h => by
    rw [blsOf] at h
    cases e : blsOf r with
    | none => rw [e] at h; cases h
    | some z => rw [e] at h; cases h; rw [blsOf_some e]; rfl
  | .non :: _, _, h => by cases h
  | .int _ :: _, _, h => by cases h
  | .str _ :: _, _, h => by cases h
  | .lst _ :: _, _, h => by cases h
  | .tup _ :: _, _, h => by cases h
  | .scr _ :: _, _, h => by cases h
  | .ins _ _ :: _, _, h => by cases h

/-! ### operations by values -/
def addD : D → D → Option (Kd × D)
  | .int i, .int j => some (.fr, .int (i + j))
  | .str x, .str y => if x.length + y.length ≤ sizeLine then some (.fr, .str (x ++ y)) else none
  | .lst xs, .lst ys => if xs.length + ys.length ≤ sizeLine then some (.nw, .lst (xs ++ ys)) else none
  | .tup xs, .tup ys => if xs.length + ys.length ≤ sizeLine ∧ xs ≠ [] then some (.fr, .tup (xs ++ ys)) else none
  | _, _ => none
def subD : D → D → Option (Kd × D)
  | .int i, .int j => some (.fr, .int (i - j))
  | _, _ => none
def mulOk (i j : Int) : Bool := (decide (-(2 ^ 64) < i) && decide (i < 2 ^ 64)) || (decide (-(2 ^ 64) < j) && decide (j < 2 ^ 64))
def mulD : D → D → Option (Kd × D)
  | .int i, .int j => if mulOk i j then some (.fr, .int (i * j)) else none
  | .lst xs, .int k => if -(2 ^ 63) ≤ k ∧ k < 2 ^ 63 ∧ xs.length * k.toNat ≤ sizeLine then some (.nw, .lst (List.replicate k.toNat xs).flatten) else none
  | _, _ => none
def divD : D → D → Option (Kd × D)
  | .int i, .int j => if j ≠ 0 ∧ j.natAbs < 1073741824 then some (.fr, .int (i.fdiv j)) else none
  | _, _ => none
def modD : D → D → Option (Kd × D)
  | .int i, .int j => if j ≠ 0 then some (.fr, .int (i.fmod j)) else none
  | _, _ => none
def powD : D → D → Option (Kd × D)
  | .int i, .int j => if 0 ≤ j ∧ j ≤ 1000000 ∧ i.natAbs < 2 ^ 64 then some (.fr, .int (i ^ j.toNat)) else none
  | _, _ => none
def opD : Operator → D → D → Option (Kd × D)
  | .Add => addD
  | .Sub => subD
  | .Mult => mulD
  | .FloorDiv => divD
  | .Mod => modD
  | .Pow => powD
  | _ => fun _ _ => none
def eqD (x y : D) : Option Bool := if SeqAt.shaped x.py = true ∧ SeqAt.shaped y.py = true then some (PyData.eqv x.py y.py) else none
def ordD (f : Int → Int → Bool) : D → D → Option Bool
  | .int i, .int j => some (f i j)
  | _, _ => none
def isnD : D → D → Option Bool
  | .non, .non => some true
  | .ins _ _, .non => some false
  | .bl _, .non => some false
  | .int _, .non => some false
  | .str _, .non => some false
  | .lst _, .non => some false
  | .tup _, .non => some false
  | .scr _, .non => some false
  | _, _ => none
def inD (x : D) : D → Option Bool
  | .lst ds => if SeqAt.shaped x.py = true ∧ SeqAt.shaped (.list (pyAll ds)) = true then some (ds.any fun d => PyData.eqv d.py x.py) else none
  | _ => none
def cmpD : CmpOp → D → D → Option Bool
  | .Eq, x, y => eqD x y
  | .NotEq, x, y => (eqD x y).map (!·)
  | .Lt, x, y => ordD (fun i j => decide (i < j)) x y
  | .LtE, x, y => ordD (fun i j => decide (i ≤ j)) x y
  | .Gt, x, y => ordD (fun i j => decide (j < i)) x y
  | .GtE, x, y => ordD (fun i j => decide (j ≤ i)) x y
  | .Is, x, y => isnD x y
  | .IsNot, x, y => (isnD x y).map (!·)
  | .In, x, y => inD x y
  | .NotIn, x, y => (inD x y).map (!·)
def ixD : D → D → Option D
  | .lst ds, .int i => atI ds i
  | .tup ds, .int i => atI ds i
  | .scr ns, .int i => (atI ns i).map .int
  | .str x, .int i => if x.length ≤ sizeLine then (atI x.cps.toList i).map fun c => .str ⟨#[c]⟩ else none
  | _, _ => none
def cutD (ds : List D) (lo hi : Option Int) : List D := (ds.drop (HT.sIx ds.length 0 lo)).take (HT.sIx ds.length ds.length hi - HT.sIx ds.length 0 lo)
def slD : D → Option Int → Option Int → Option (Kd × D)
  | .lst ds, lo, hi => some (.nw, .lst (cutD ds lo hi))
  | _, _, _ => none

/-- built-in functions and types, called by name with values -/
inductive BF where
  | len | int_ | tuple_ | list_ | min_
  deriving DecidableEq
def BF.nm : BF → Str
  | .len => "len" | .int_ => "int" | .tuple_ => "tuple" | .list_ => "list" | .min_ => "min"
def minL : Int → List Int → Int
  | m, [] => m
  | m, n :: ns => minL (if n < m then n else m) ns
def bfD : BF → List D → Option (Kd × D)
  | .len, [.lst ds] => some (.fr, .int ds.length)
  | .len, [.tup ds] => some (.fr, .int ds.length)
  | .len, [.scr ds] => some (.fr, .int ds.length)
  | .len, [.str x] => if x.length ≤ sizeLine then some (.fr, .int x.length) else none
  | .int_, [.int i] => some (.fr, .int i)
  | .int_, [.bl b] => some (.fr, .int (if b then 1 else 0))
  | .tuple_, [.lst ds] => some (.fr, .tup ds)
  | .tuple_, [.tup ds] => some (.fr, .tup ds)
  | .list_, [.lst ds] => some (.nw, .lst ds)
  | .list_, [.tup ds] => some (.nw, .lst ds)
  | .min_, [.lst ds] => match intsOf ds with
    | some (n :: ns) => some (.fr, .int (minL n ns))
    | _ => none
  | _, _ => none
/-- isinstance with built-in types -/
def tyOf : D → String
  | .non => "NoneType"
  | .bl _ => "bool"
  | .int _ => "int"
  | .str _ => "str"
  | .lst _ => "list"
  | .tup _ => "tuple"
  | .scr _ => "list"
  | .ins _ _ => ""
def isS (S T : String) : Bool := S == T || (S == "bool" && T == "int")
def isT (T : String) (d : D) : Bool := isS (tyOf d) T
/-- built-in methods that change nothing -/
inductive BM where
  | index
  deriving DecidableEq
def BM.nm : BM → Str
  | .index => "index"
def bmT : BM → D → Bool
  | .index, .lst _ => true
  | _, _ => false
def noIns : D → Bool
  | .ins _ _ => false
  | _ => true
def ixOf (x : D) : List D → Nat → Option Nat
  | [], _ => none
  | d :: ds, n => if PyData.eqv d.py x.py then some n else ixOf x ds (n + 1)
def bmD : BM → D → List D → Option (Kd × D)
  | .index, .lst ds, [x] => if SeqAt.shaped x.py = true ∧ SeqAt.shaped (.list (pyAll ds)) = true then (ixOf x ds 0).map fun n => (.fr, .int n) else none
  | _, _, _ => none

/-! ### environments -/
inductive Slot where
  | un | sh (d : D) | bo (d : D) | ow (ds : List D) | lk (ds : List D)
abbrev Env := List Slot
def slot : Env → Nat → Slot
  | [], _ => .un
  | s :: _, 0 => s
  | _ :: r, n + 1 => slot r n
def wipeE (env : Env) : List Nat → Env
  | [] => env
  | v :: vs => (wipeE env vs).set v .un

/-! ### expressions -/
/-- a target: a name, or a tuple of names -/
inductive Tg where
  | nm (i : Nat) | tp (is : List Nat)
inductive E where
  | v (i : Nat)
  | k (d : D)
  | gk (x : Str)
  | op (o : Operator) (a b : E)
  | neg (a : E)
  | cmp (o : CmpOp) (a b : E)
  | chn (o p : CmpOp) (a b c : E)
  | and (a b : E) | or (a b : E) | not (a : E)
  | ife (t a b : E)
  | ix (a b : E)
  | sl (a lo hi : E)
  | no | so (e : E)
  | sv (i : Nat) | se (e : E)
  | lst (es : E) | tup (es : E)
  | nil | cons (e es : E)
  | bf (f : BF) (es : E)
  | isi (T : String) (a : E)
  | bm (m : BM) (o es : E)
  | fn (f : Str) (es : E)
  | lc (own : List Nat) (tg : Tg) (it cond elt : E)
  | rng (es : E)
  | iv (a : E)
  | zip (a b : E)
/-- what a def is worth: by its arguments; fr: which parameters must be frozen; nw: its answer is a new list -/
structure Sem1 where
  wp : List D → (D → Prop) → Prop
  mono : ∀ ds (Q Q' : D → Prop), (∀ d, Q d → Q' d) → wp ds Q → wp ds Q'
  fr : List Bool
  nw : Bool
/-- what is known of the module's names: defs, constants -/
structure Gam where
  fn : Str → Option Sem1
  cst : Str → Option D
def argsOk : List Bool → List (Kd × D) → Bool
  | [], [] => true
  | b :: bs, (k, _) :: r => (!b || k.frz) && argsOk bs r
  | _, _ => false
def kOf (b : Bool) : Kd := if b then .nw else .fr
/-- a loop that collects -/
def wLc (f : D → (Option D → Prop) → Prop) : List D → (List D → Prop) → Prop
  | [], Q => Q []
  | x :: xs, Q => f x fun r => match r with
    | some y => wLc f xs fun ys => Q (y :: ys)
    | none => wLc f xs Q
def setAll : List Nat → List D → Env → Option Env
  | [], [], env => some env
  | i :: is, d :: ds, env => setAll is ds (env.set i (.sh d))
  | _, _, _ => none
def bindT : Tg → D → Env → Option Env
  | .nm i, d, env => some (env.set i (.sh d))
  | .tp is, .tup ds, env => setAll is ds env
  | .tp _, _, _ => none
def zipT : List D → List D → List D
  | x :: xs, y :: ys => .tup [x, y] :: zipT xs ys
  | _, _ => []
def rngD : List (Kd × D) → Option (List D)
  | [(_, .int n)] => if -(2 ^ 62) ≤ n ∧ n < 2 ^ 62 then some ((List.range n.toNat).map fun (i : Nat) => D.int i) else none
  | [(_, .int m), (_, .int n)] => if -(2 ^ 62) ≤ m ∧ m < 2 ^ 62 ∧ -(2 ^ 62) ≤ n ∧ n < 2 ^ 62 then some ((List.range (n - m).toNat).map fun (i : Nat) => D.int (m + i)) else none
  | _ => none
def itemsD : D → Option (List D)
  | .lst ds => some ds
  | .tup ds => some ds
  | .scr ns => some (ns.map .int)
  | .str x => some (x.cps.toList.map fun c => .str ⟨#[c]⟩)
  | _ => none
section
variable (G : Gam)
mutual
/-- the expression's value; .cons, .nil: a tuple of (kind, value) is told by wA -/
def wE : E → Env → (Kd → D → Prop) → Prop
  | .v i, env, Q => match slot env i with
    | .sh d => Q .fr d
    | .bo d => Q .b1 d
    | .ow ds => Q .b1 (.lst ds)
    | .lk ds => Q .b1 (.lst ds)
    | .un => False
  | .k d, _, Q => Q .fr d
  | .gk x, _, Q => match G.cst x with
    | some d => Q .fr d
    | none => False
  | .op o a b, env, Q => wE a env fun _ x => wE b env fun _ y => match opD o x y with
    | some (k, d) => Q k d
    | none => False
  | .neg a, env, Q => wE a env fun _ x => match x with
    | .int i => Q .fr (.int (-i))
    | _ => False
  | .cmp o a b, env, Q => wE a env fun _ x => wE b env fun _ y => match cmpD o x y with
    | some r => Q .fr (.bl r)
    | none => False
  | .chn o p a b c, env, Q => wE a env fun _ x => wE b env fun _ y => match cmpD o x y with
    | some true => wE c env fun _ z => match cmpD p y z with
      | some r => Q .fr (.bl r)
      | none => False
    | some false => Q .fr (.bl false)
    | none => False
  | .and a b, env, Q => wE a env fun _ x => match x with
    | .bl true => wE b env Q
    | .bl false => Q .fr (.bl false)
    | _ => False
  | .or a b, env, Q => wE a env fun _ x => match x with
    | .bl true => Q .fr (.bl true)
    | .bl false => wE b env Q
    | _ => False
  | .not a, env, Q => wE a env fun _ x => match x with
    | .bl r => Q .fr (.bl !r)
    | _ => False
  | .ife t a b, env, Q => wE t env fun _ x => match x with
    | .bl true => wE a env fun k d => k.frz = true ∧ Q .fr d
    | .bl false => wE b env fun k d => k.frz = true ∧ Q .fr d
    | _ => False
  | .ix a b, env, Q => wE a env fun _ x => wE b env fun _ y => match ixD x y with
    | some d => Q .fr d
    | none => False
  | .sl a lo hi, env, Q => wE a env fun _ x => wO lo env fun l => wO hi env fun h => match slD x l h with
    | some (k, d) => Q k d
    | none => False
  | .lst es, env, Q => wA es env fun xs => (xs.all (·.1.frz) && decide (xs.length ≤ 1000)) = true ∧ Q .nw (.lst (xs.map (·.2)))
  | .tup es, env, Q => wA es env fun xs => (xs.all (·.1.frz) && decide (xs.length ≤ 1000)) = true ∧ Q .fr (.tup (xs.map (·.2)))
  | .bf f es, env, Q => wA es env fun xs => match bfD f (xs.map (·.2)) with
    | some (k, d) => Q k d
    | none => False
  | .isi T a, env, Q => wE a env fun _ x => noIns x = true ∧ Q .fr (.bl (isT T x))
  | .bm m o es, env, Q => wE o env fun _ x => bmT m x = true ∧ wA es env fun xs => match bmD m x (xs.map (·.2)) with
    | some (k, d) => Q k d
    | none => False
  | .fn f es, env, Q => match G.fn f with
    | some S => wA es env fun xs => argsOk S.fr xs = true ∧ S.wp (xs.map (·.2)) fun d => Q (kOf S.nw) d
    | none => False
  | .lc own tg it cond elt, env, Q => wI false it env fun items => items.length ≤ sizeLine ∧
      wLc (fun x q => match bindT tg x (wipeE env own) with
        | some env1 => wC cond env1 fun r => if r = true then wE elt env1 fun k y => k.frz = true ∧ q (some y) else q none
        | none => False) items fun ys => Q .nw (.lst ys)
  | .no, _, _ => False
  | .so _, _, _ => False
  | .sv _, _, _ => False
  | .se _, _, _ => False
  | .iv _, _, _ => False
  | .nil, _, _ => False
  | .cons _ _, _, _ => False
  | .rng _, _, _ => False
  | .zip _ _, _, _ => False
/-- a slice's part -/
def wO : E → Env → (Option Int → Prop) → Prop
  | .no, _, Q => Q none
  | .so e, env, Q => wE e env fun _ x => match x with
    | .int i => Q (some i)
    | _ => False
  | _, _, _ => False
/-- a comprehension's test -/
def wC : E → Env → (Bool → Prop) → Prop
  | .no, _, Q => Q true
  | .so e, env, Q => wE e env fun _ x => match x with
    | .bl r => Q r
    | _ => False
  | _, _, _ => False
/-- arguments -/
def wA : E → Env → (List (Kd × D) → Prop) → Prop
  | .nil, _, Q => Q []
  | .cons e es, env, Q => wE e env fun k x => wA es env fun xs => Q ((k, x) :: xs)
  | _, _, _ => False
/-- a thing that is walked: m: the walk's body may change lists -/
def wX (m : Bool) : E → Env → (D → Prop) → Prop
  | .sv i, env, Q => match slot env i with
    | .sh d => Q d
    | .bo d => Q d
    | .lk ds => Q (.lst ds)
    | .ow ds => m = false ∧ Q (.lst ds)
    | .un => False
  | .se e, env, Q => wE e env fun k d => k.frz = true ∧ Q d
  | _, _, _ => False
/-- what is walked -/
def wI (m : Bool) : E → Env → (List D → Prop) → Prop
  | .rng es, env, Q => wA es env fun xs => match rngD xs with
    | some ds => Q ds
    | none => False
  | .zip a b, env, Q => wX m a env fun x => wX m b env fun y => match x, y with
    | .lst xs, .lst ys => Q (zipT xs ys)
    | _, _ => False
  | .iv a, env, Q => wX m a env fun x => match itemsD x with
    | some ds => Q ds
    | none => False
  | _, _, _ => False
end
end

/-! ### more holds of more -/
theorem wLc_mono {f : D → (Option D → Prop) → Prop} (hf : ∀ x q q', (∀ r, q r → q' r) → f x q → f x q') : ∀ (xs : List D) (Q Q' : List D → Prop), (∀ ys, Q ys → Q' ys) → wLc f xs Q → wLc f xs Q'
  | [], Q, Q', h, w => h _ w
  | x :: xs, Q, Q', h, w => by
    refine hf x _ _ (fun r z => ?_) w
    cases r with
    | some y => exact wLc_mono hf xs _ _ (fun ys => h _) z
    | none => exact wLc_mono hf xs _ _ h z
section
variable {G : Gam}
mutual
theorem wE_mono : ∀ (c : E) (env : Env) (Q Q' : Kd → D → Prop), (∀ k d, Q k d → Q' k d) → wE G c env Q → wE G c env Q'
  | .v i, env, Q, Q', h, w => by
    unfold wE at w ⊢
    revert w
    cases slot env i <;> intro w <;> first | exact h _ _ w | exact w
  | .k d, env, Q, Q', h, w => by unfold wE at w ⊢; exact h _ _ w
  | .gk x, env, Q, Q', h, w => by
    unfold wE at w ⊢
    cases e : G.cst x with
    | none => rw [e] at w; exact w
    | some d => rw [e] at w; exact h _ _ w
  | .op o a b, env, Q, Q', h, w => by
    unfold wE at w ⊢
    refine wE_mono a _ _ _ (fun _ x z => wE_mono b _ _ _ (fun _ y z => ?_) z) w
    cases e : opD o x y with
    | none => rw [e] at z; exact z
    | some r => rw [e] at z; exact h _ _ z
  | .neg a, env, Q, Q', h, w => by
    unfold wE at w ⊢
    refine wE_mono a _ _ _ (fun _ x z => ?_) w
    cases x <;> first | exact h _ _ z | exact z
  | .cmp o a b, env, Q, Q', h, w => by
    unfold wE at w ⊢
    refine wE_mono a _ _ _ (fun _ x z => wE_mono b _ _ _ (fun _ y z => ?_) z) w
    cases e : cmpD o x y with
    | none => rw [e] at z; exact z
    | some r => rw [e] at z; exact h _ _ z
  | .chn o p a b c, env, Q, Q', h, w => by
    unfold wE at w ⊢
    refine wE_mono a _ _ _ (fun _ x z => wE_mono b _ _ _ (fun _ y z => ?_) z) w
    cases e : cmpD o x y with
    | none => rw [e] at z; exact z
    | some r =>
      rw [e] at z
      cases r with
      | false => exact h _ _ z
      | true =>
        refine wE_mono c _ _ _ (fun _ u z => ?_) z
        cases e : cmpD p y u with
        | none => rw [e] at z; exact z
        | some r => rw [e] at z; exact h _ _ z
  | .and a b, env, Q, Q', h, w => by
    unfold wE at w ⊢
    refine wE_mono a _ _ _ (fun _ x z => ?_) w
    cases x with
    | bl r =>
      cases r with
      | true => exact wE_mono b _ _ _ h z
      | false => exact h _ _ z
    | _ => exact z
  | .or a b, env, Q, Q', h, w => by
    unfold wE at w ⊢
    refine wE_mono a _ _ _ (fun _ x z => ?_) w
    cases x with
    | bl r =>
      cases r with
      | false => exact wE_mono b _ _ _ h z
      | true => exact h _ _ z
    | _ => exact z
  | .not a, env, Q, Q', h, w => by
    unfold wE at w ⊢
    refine wE_mono a _ _ _ (fun _ x z => ?_) w
    cases x <;> first | exact h _ _ z | exact z
  | .ife t a b, env, Q, Q', h, w => by
    unfold wE at w ⊢
    refine wE_mono t _ _ _ (fun _ x z => ?_) w
    cases x with
    | bl r =>
      cases r with
      | true => exact wE_mono a _ _ _ (fun k d z => ⟨z.1, h _ _ z.2⟩) z
      | false => exact wE_mono b _ _ _ (fun k d z => ⟨z.1, h _ _ z.2⟩) z
    | _ => exact z
  | .ix a b, env, Q, Q', h, w => by
    unfold wE at w ⊢
    refine wE_mono a _ _ _ (fun _ x z => wE_mono b _ _ _ (fun _ y z => ?_) z) w
    cases e : ixD x y with
    | none => rw [e] at z; exact z
    | some r => rw [e] at z; exact h _ _ z
  | .sl a lo hi, env, Q, Q', h, w => by
    unfold wE at w ⊢
    refine wE_mono a _ _ _ (fun _ x z => wO_mono lo _ _ _ (fun l z => wO_mono hi _ _ _ (fun u z => ?_) z) z) w
    cases e : slD x l u with
    | none => rw [e] at z; exact z
    | some r => rw [e] at z; exact h _ _ z
  | .lst es, env, Q, Q', h, w => by
    unfold wE at w ⊢
    exact wA_mono es _ _ _ (fun xs z => ⟨z.1, h _ _ z.2⟩) w
  | .tup es, env, Q, Q', h, w => by
    unfold wE at w ⊢
    exact wA_mono es _ _ _ (fun xs z => ⟨z.1, h _ _ z.2⟩) w
  | .bf f es, env, Q, Q', h, w => by
    unfold wE at w ⊢
    refine wA_mono es _ _ _ (fun xs z => ?_) w
    cases e : bfD f (xs.map (·.2)) with
    | none => rw [e] at z; exact z
    | some r => rw [e] at z; exact h _ _ z
  | .isi T a, env, Q, Q', h, w => by
    unfold wE at w ⊢
    exact wE_mono a _ _ _ (fun _ x z => ⟨z.1, h _ _ z.2⟩) w
  | .bm m o es, env, Q, Q', h, w => by
    unfold wE at w ⊢
    refine wE_mono o _ _ _ (fun _ x z => ⟨z.1, wA_mono es _ _ _ (fun xs z => ?_) z.2⟩) w
    cases e : bmD m x (xs.map (·.2)) with
    | none => rw [e] at z; exact z
    | some r => rw [e] at z; exact h _ _ z
  | .fn f es, env, Q, Q', h, w => by
    unfold wE at w ⊢
    cases e : G.fn f with
    | none => rw [e] at w; exact w
    | some S =>
      rw [e] at w
      exact wA_mono es _ _ _ (fun xs z => ⟨z.1, S.mono _ _ _ (fun d z => h _ _ z) z.2⟩) w
  | .lc own tg it cond elt, env, Q, Q', h, w => by
    unfold wE at w ⊢
    refine wI_mono false it _ _ _ (fun items z => ⟨z.1, wLc_mono (fun x q q' hq z => ?_) items _ _ (fun ys z => h _ _ z) z.2⟩) w
    cases e : bindT tg x (wipeE env own) with
    | none => rw [e] at z; exact z
    | some env1 =>
      rw [e] at z
      refine wC_mono cond _ _ _ (fun r z => ?_) z
      by_cases hr : r = true
      · rw [if_pos hr] at z ⊢
        exact wE_mono elt _ _ _ (fun k y z => ⟨z.1, hq _ z.2⟩) z
      · rw [if_neg hr] at z ⊢
        exact hq _ z
  | .no, _, _, _, _, w => by unfold wE at w; exact w.elim
  | .so _, _, _, _, _, w => by unfold wE at w; exact w.elim
  | .sv _, _, _, _, _, w => by unfold wE at w; exact w.elim
  | .se _, _, _, _, _, w => by unfold wE at w; exact w.elim
  | .iv _, _, _, _, _, w => by unfold wE at w; exact w.elim
  | .nil, _, _, _, _, w => by unfold wE at w; exact w.elim
  | .cons _ _, _, _, _, _, w => by unfold wE at w; exact w.elim
  | .rng _, _, _, _, _, w => by unfold wE at w; exact w.elim
  | .zip _ _, _, _, _, _, w => by unfold wE at w; exact w.elim
theorem wO_mono : ∀ (c : E) (env : Env) (Q Q' : Option Int → Prop), (∀ o, Q o → Q' o) → wO G c env Q → wO G c env Q' := fun c env Q Q' h w => by
  cases c with
  | no => unfold wO at w ⊢; exact h _ w
  | so e =>
    unfold wO at w ⊢
    refine wE_mono e _ _ _ (fun _ x z => ?_) w
    cases x <;> first | exact h _ z | exact z
  | _ => unfold wO at w; exact w.elim
theorem wC_mono : ∀ (c : E) (env : Env) (Q Q' : Bool → Prop), (∀ o, Q o → Q' o) → wC G c env Q → wC G c env Q' := fun c env Q Q' h w => by
  cases c with
  | no => unfold wC at w ⊢; exact h _ w
  | so e =>
    unfold wC at w ⊢
    refine wE_mono e _ _ _ (fun _ x z => ?_) w
    cases x <;> first | exact h _ z | exact z
  | _ => unfold wC at w; exact w.elim
theorem wA_mono : ∀ (c : E) (env : Env) (Q Q' : List (Kd × D) → Prop), (∀ o, Q o → Q' o) → wA G c env Q → wA G c env Q' := fun c env Q Q' h w => by
  cases c with
  | nil => unfold wA at w ⊢; exact h _ w
  | cons e es =>
    unfold wA at w ⊢
    exact wE_mono e _ _ _ (fun k x z => wA_mono es _ _ _ (fun xs z => h _ z) z) w
  | _ => unfold wA at w; exact w.elim
theorem wX_mono (m : Bool) : ∀ (c : E) (env : Env) (Q Q' : D → Prop), (∀ o, Q o → Q' o) → wX G m c env Q → wX G m c env Q' := fun c env Q Q' h w => by
  cases c with
  | sv i =>
    unfold wX at w ⊢
    revert w
    cases slot env i <;> intro w <;> first | exact h _ w | exact ⟨w.1, h _ w.2⟩ | exact w
  | se e =>
    unfold wX at w ⊢
    exact wE_mono e _ _ _ (fun k x z => ⟨z.1, h _ z.2⟩) w
  | _ => unfold wX at w; exact w.elim
theorem wI_mono (m : Bool) : ∀ (c : E) (env : Env) (Q Q' : List D → Prop), (∀ o, Q o → Q' o) → wI G m c env Q → wI G m c env Q' := fun c env Q Q' h w => by
  cases c with
  | rng es =>
    unfold wI at w ⊢
    refine wA_mono es _ _ _ (fun xs z => ?_) w
    cases e : rngD xs with
    | none => rw [e] at z; exact z
    | some r => rw [e] at z; exact h _ z
  | zip a b =>
    unfold wI at w ⊢
    refine wX_mono m a _ _ _ (fun x z => wX_mono m b _ _ _ (fun y z => ?_) z) w
    cases x <;> cases y <;> first | exact h _ z | exact z
  | iv a =>
    unfold wI at w ⊢
    refine wX_mono m a _ _ _ (fun x z => ?_) w
    cases e : itemsD x with
    | none => rw [e] at z; exact z
    | some r => rw [e] at z; exact h _ z
  | _ => unfold wI at w; exact w.elim
end
end
end VL
/-! VL3: the operations by values keep what their plain readings say. -/
namespace VL
open PySem PySem.Spec PyProof.Rows L2

section
variable {K : PySem.W.Frag} {C : Cls0} {H H' : Hp} {M : Addr → Prop}
/-- the addresses that stand for owned lists are tracked -/
abbrev Dm (H : Hp) (M : Addr → Prop) : Prop := ∀ a, M a → H a ≠ none
theorem Dm.ne {p : Addr} (dm : Dm H M) (hp : H p = none) : ¬ M p := fun m => dm p m hp
theorem same_upd {p : Addr} {o : HO} (h : H p = none) : Same H (upd H p o) := fun b x e => by
  rw [upd_ne (ne_of_none e h)]
  exact e
/-- a new list of frozen items -/
theorem rn_new {p : Addr} {vs : List V} {ds : List D} (dm : Dm H M) (hp : H p = none) (r : RpA K C H M vs ds) : Rn K C H (upd H p (.lst vs)) M (.ref p) (.lst ds) :=
  ⟨p, vs, ds, rfl, rfl, hp, dm.ne hp, upd_same, r.kp (Kp.of_same (same_upd hp)) fun a o e z => by
    rcases z with z | z
    · exact z
    · rw [z, hp] at e; cases e⟩
theorem rp_tup {p : Addr} {vs : List V} {ds : List D} (hp : H p = none) (r : RpA K C H M vs ds) : Rp K C (upd H p (.tup vs)) M (.ref p) (.tup ds) :=
  .tup (.inl (.inl upd_same)) (r.same (same_upd hp))
mutual
theorem Rp.dp : ∀ {d : D} {v : V}, Rp K C H M v d → d.py.canLay0 = true → Dp K H v d.py
  | .non, _, h, _ => by cases h; exact .non
  | .bl b, _, h, _ => by cases h; exact .bl b
  | .int i, _, h, _ => by cases h; exact .int i
  | .str x, _, h, _ => by cases h; exact .str x
  | .lst ds, _, h, c => by
    cases h with
    | lst e n r => exact .lst (SqL.of e) (RpA.dp r (by simpa [D.py, PyData.canLay0] using c))
  | .tup ds, _, h, c => by
    cases h with
    | tup e r => exact .tup e (RpA.dp r (by simpa [D.py, PyData.canLay0] using c))
  | .scr ns, _, h, c => by
    cases h with
    | scr e =>
      refine .lst e.sq ?_
      clear e c
      induction ns with
      | nil => exact .nil
      | cons n ns ih => exact .cons (.int n) ih
  | .ins _ _, _, _, c => by simp [D.py, PyData.canLay0] at c
theorem RpA.dp : ∀ {ds : List D} {vs : List V}, RpA K C H M vs ds → PyData.canLayAll0 (pyAll ds) = true → DpAll K H vs (pyAll ds)
  | [], _, h, _ => by cases h; exact .nil
  | d :: ds, _, h, c => by
    cases h with
    | cons r t =>
      simp only [pyAll, PyData.canLayAll0, Bool.and_eq_true] at c
      exact .cons (Rp.dp r c.1) (RpA.dp t c.2)
end
theorem Rb.dp {v : V} {d : D} (h : Rb K C H M v d) (c : SeqAt.shaped d.py = true) : Dp K H v d.py := by
  have c := SeqAt.canLay_of_shaped c
  rcases h with h | ⟨a, vs, ds, rfl, rfl, e, r⟩
  · exact h.dp c
  · exact .lst (SqL.of e) (r.dp (by simpa [D.py, PyData.canLay0] using c))
theorem Rb.same {v : V} {d : D} (s : Same H H') (h : Rb K C H M v d) : Rb K C H' M v d := by
  rcases h with h | ⟨a, vs, ds, rfl, rfl, e, r⟩
  · exact .inl (h.same s)
  · exact .inr ⟨a, vs, ds, rfl, rfl, s _ _ e, r.same s⟩
end

section
variable {X : Cx} {C : Cls0}
/-- the rule of a two-place operation -/
def rD (K : PySem.W.Frag) (C : Cls0) (F : D → D → Option (Kd × D)) : R2 := fun x y H Q => ∃ M d1 d2 k d, Dm H M ∧ Rb K C H M x d1 ∧ Rb K C H M y d2 ∧ F d1 d2 = some (k, d) ∧ ∀ v H', Same H H' → Rk K C H H' M k v d → Q v H'
theorem op_D (o : Operator) : OpR X (binaryOp o) (rD X.K C (opD o)) := by
  intro pins s σ H x y v u Q I rx ry h
  obtain ⟨M, d1, d2, k, d, dm, h1, h2, e, q⟩ := h
  cases o with
  | Add =>
    change addD d1 d2 = _ at e
    cases d1 <;> cases d2 <;> try (cases e; done)
    · rw [addD] at e; cases e
      rw [h1.int] at rx; rw [h2.int] at ry
      exact op_add pins s σ H _ _ v u Q I rx ry ⟨_, _, rfl, rfl, q _ _ (Same.refl H) (.int _)⟩
    · rw [addD] at e
      split at e
      · rename_i hz
        cases e
        rw [h1.str] at rx; rw [h2.str] at ry
        exact op_add_str pins s σ H _ _ v u Q I rx ry ⟨_, _, rfl, rfl, hz, q _ _ (Same.refl H) (.str _)⟩
      · cases e
    · rw [addD] at e
      split at e
      · rename_i hz
        cases e
        obtain ⟨a, vs, rfl, ea, ra⟩ := h1.lst
        obtain ⟨b, ws, rfl, eb, rb⟩ := h2.lst
        refine op_cat pins s σ H _ _ v u Q I rx ry ⟨a, b, vs, ws, rfl, rfl, ea, eb, by rw [ra.length, rb.length]; exact hz, fun p hp => q _ _ (same_upd hp) ?_⟩
        exact rn_new dm hp (ra.append rb)
      · cases e
    · rw [addD] at e
      split at e
      · rename_i hz
        cases e
        obtain ⟨a, vs, rfl, ea, ra⟩ := h1.tup
        obtain ⟨b, ws, rfl, eb, rb⟩ := h2.tup
        have hv : vs ≠ [] := fun z => by subst z; cases ra; exact hz.2 rfl
        refine op_catT pins s σ H _ _ v u Q I rx ry ⟨a, b, vs, ws, rfl, rfl, ea, eb, hv, by rw [ra.length, rb.length]; exact hz.1, fun z => ?_, fun _ p hp => ?_⟩
        · subst z
          cases rb
          rw [List.append_nil] at q
          exact q _ _ (Same.refl H) (.tup ea ra)
        · exact q _ _ (same_upd hp) (rp_tup hp (ra.append rb))
      · cases e
  | Sub =>
    change subD d1 d2 = _ at e
    cases d1 <;> cases d2 <;> try (cases e; done)
    rw [subD] at e; cases e
    rw [h1.int] at rx; rw [h2.int] at ry
    exact op_sub pins s σ H _ _ v u Q I rx ry ⟨_, _, rfl, rfl, q _ _ (Same.refl H) (.int _)⟩
  | Mult =>
    change mulD d1 d2 = _ at e
    cases d1 <;> cases d2 <;> try (cases e; done)
    · rw [mulD] at e
      split at e
      · rename_i hz
        cases e
        rw [h1.int] at rx; rw [h2.int] at ry
        refine op_mul pins s σ H _ _ v u Q I rx ry ⟨_, _, rfl, rfl, ?_, q _ _ (Same.refl H) (.int _)⟩
        simpa [mulOk, CMul] using hz
      · cases e
    · rw [mulD] at e
      split at e
      · rename_i hz
        cases e
        obtain ⟨a, vs, rfl, ea, ra⟩ := h1.lst
        rw [h2.int] at ry
        refine op_rep pins s σ H _ _ v u Q I rx ry ⟨a, _, vs, rfl, rfl, ea, hz.1, hz.2.1, by rw [ra.length]; exact hz.2.2, fun p hp => q _ _ (same_upd hp) ?_⟩
        exact rn_new dm hp (ra.rep _)
      · cases e
  | FloorDiv =>
    change divD d1 d2 = _ at e
    cases d1 <;> cases d2 <;> try (cases e; done)
    rw [divD] at e
    split at e
    · rename_i hz
      cases e
      rw [h1.int] at rx; rw [h2.int] at ry
      exact op_fdivN pins s σ H _ _ v u Q I rx ry ⟨_, _, rfl, rfl, hz, q _ _ (Same.refl H) (.int _)⟩
    · cases e
  | Mod =>
    change modD d1 d2 = _ at e
    cases d1 <;> cases d2 <;> try (cases e; done)
    rw [modD] at e
    split at e
    · rename_i hz
      cases e
      rw [h1.int] at rx; rw [h2.int] at ry
      exact op_modN pins s σ H _ _ v u Q I rx ry ⟨_, _, rfl, rfl, hz, q _ _ (Same.refl H) (.int _)⟩
    · cases e
  | Pow =>
    change powD d1 d2 = _ at e
    cases d1 <;> cases d2 <;> try (cases e; done)
    rw [powD] at e
    split at e
    · rename_i hz
      cases e
      rw [h1.int] at rx; rw [h2.int] at ry
      exact op_pow pins s σ H _ _ v u Q I rx ry ⟨_, _, rfl, rfl, hz, q _ _ (Same.refl H) (.int _)⟩
    · cases e
  | _ => cases e

/-- the rule of a comparison -/
def rC (K : PySem.W.Frag) (C : Cls0) (F : D → D → Option Bool) : R2 := fun x y H Q => ∃ M d1 d2 r, Dm H M ∧ Rb K C H M x d1 ∧ Rb K C H M y d2 ∧ F d1 d2 = some r ∧ Q (.bl r) H
theorem rb_isN {H : Hp} {K : PySem.W.Frag} {M : Addr → Prop} {x y : V} {d1 d2 : D} {r : Bool} (h1 : Rb K C H M x d1) (h2 : Rb K C H M y d2) (e : isnD d1 d2 = some r) : y = .non ∧ decide (x = .non) = r := by
  have key : ∀ {d : D} {v : V}, Rp K C H M v d → decide (v = V.non) = (match d with | .non => true | _ => false) := fun h => by
    cases h <;> rfl
  cases d2 <;> try (cases d1 <;> cases e; done)
  refine ⟨h2.non, ?_⟩
  rcases h1 with h | ⟨a, vs, ds, rfl, rfl, _, _⟩
  · rw [key h]
    cases d1 <;> cases e <;> rfl
  · cases e
    rfl
theorem ordD_some {f : Int → Int → Bool} {r : Bool} : ∀ {d1 d2 : D}, ordD f d1 d2 = some r → ∃ i j, d1 = .int i ∧ d2 = .int j ∧ r = f i j := fun {d1 d2} e => by
  cases d1 <;> cases d2 <;> first | (cases e; done) | exact ⟨_, _, rfl, rfl, (Option.some.inj e).symm⟩
theorem inD_some {x d2 : D} {r : Bool} (e : inD x d2 = some r) : ∃ ds, d2 = .lst ds ∧ SeqAt.shaped x.py = true ∧ SeqAt.shaped (.list (pyAll ds)) = true ∧ r = ds.any fun d => PyData.eqv d.py x.py := by
  cases d2 with
  | lst ds =>
    have e' : (if SeqAt.shaped x.py = true ∧ SeqAt.shaped (.list (pyAll ds)) = true then some (ds.any fun d => PyData.eqv d.py x.py) else none) = some r := e
    by_cases hs : SeqAt.shaped x.py = true ∧ SeqAt.shaped (.list (pyAll ds)) = true
    · rw [if_pos hs] at e'
      exact ⟨ds, rfl, hs.1, hs.2, (Option.some.inj e').symm⟩
    · rw [if_neg hs] at e'; cases e'
  | _ => cases e
theorem cmp_D (hu : X.A.units + 65 < cLine) (o : CmpOp) : OpR X (compareOp o) (rC X.K C (cmpD o)) := by
  intro pins s σ H x y v u Q I rx ry h
  obtain ⟨M, d1, d2, r, dm, h1, h2, e, q⟩ := h
  have hint : ∀ {f : Int → Int → Bool}, ordD f d1 d2 = some r → ∃ i j, x = .int i ∧ y = .int j ∧ r = f i j := fun {f} e => by
    obtain ⟨i, j, e1, e2, e3⟩ := ordD_some e
    subst e1 e2
    exact ⟨i, j, h1.int, h2.int, e3⟩
  cases o with
  | Eq =>
    change eqD d1 d2 = _ at e
    unfold eqD at e
    split at e
    · rename_i hs
      cases e
      exact op_eqD (by omega) pins s σ H x y v u Q I rx ry ⟨_, _, h1.dp hs.1, h2.dp hs.2, hs.1, hs.2, q⟩
    · cases e
  | NotEq =>
    change (eqD d1 d2).map _ = _ at e
    unfold eqD at e
    split at e
    · rename_i hs
      cases e
      exact op_neD (by omega) pins s σ H x y v u Q I rx ry ⟨_, _, h1.dp hs.1, h2.dp hs.2, hs.1, hs.2, q⟩
    · cases e
  | Lt =>
    obtain ⟨i, j, rfl, rfl, rfl⟩ := hint e
    exact op_lt pins s σ H _ _ v u Q I rx ry ⟨_, _, rfl, rfl, q⟩
  | LtE =>
    obtain ⟨i, j, rfl, rfl, rfl⟩ := hint e
    exact op_le pins s σ H _ _ v u Q I rx ry ⟨_, _, rfl, rfl, q⟩
  | Gt =>
    obtain ⟨i, j, rfl, rfl, rfl⟩ := hint e
    exact op_gt pins s σ H _ _ v u Q I rx ry ⟨_, _, rfl, rfl, q⟩
  | GtE =>
    obtain ⟨i, j, rfl, rfl, rfl⟩ := hint e
    exact op_ge pins s σ H _ _ v u Q I rx ry ⟨_, _, rfl, rfl, q⟩
  | Is =>
    obtain ⟨rfl, z⟩ := rb_isN h1 h2 e
    exact op_isN pins s σ H _ _ v u Q I rx ry ⟨rfl, by rw [z]; exact q⟩
  | IsNot =>
    change (isnD d1 d2).map _ = _ at e
    cases e1 : isnD d1 d2 with
    | none => rw [e1] at e; cases e
    | some b =>
      rw [e1] at e; cases e
      obtain ⟨rfl, z⟩ := rb_isN h1 h2 e1
      exact op_notN pins s σ H _ _ v u Q I rx ry ⟨rfl, by rw [z]; exact q⟩
  | In =>
    obtain ⟨ds, rfl, s1, s2, rfl⟩ := inD_some e
    refine op_inD hu pins s σ H x y v u Q I rx ry ⟨d1.py, pyAll ds, h1.dp s1, h2.dp s2, s1, s2, ?_⟩
    rw [pyAll_eq, List.any_map]
    exact q
  | NotIn =>
    change (inD d1 d2).map _ = _ at e
    cases e1 : inD d1 d2 with
    | none => rw [e1] at e; cases e
    | some b =>
      rw [e1] at e; cases e
      obtain ⟨ds, rfl, s1, s2, rfl⟩ := inD_some e1
      refine op_notInD hu pins s σ H x y v u Q I rx ry ⟨d1.py, pyAll ds, h1.dp s1, h2.dp s2, s1, s2, ?_⟩
      rw [pyAll_eq, List.any_map]
      exact q

/-- -a -/
def rNeg (K : PySem.W.Frag) (C : Cls0) : V → Hp → VK → Prop := fun x H Q => ∃ i, x = .int i ∧ Q (.int (-i)) H
theorem neg_D : UnR X (unaryOp .USub) (rNeg X.K C) := un_neg

theorem atI_rp {K : PySem.W.Frag} {H : Hp} {M : Addr → Prop} {vs : List V} {ds : List D} {i : Int} {d : D} (r : RpA K C H M vs ds) (h : atI ds i = some d) : ∃ v, atI vs i = some v ∧ Rp K C H M v d := by
  unfold atI at h ⊢
  rw [r.length]
  cases e : ixN ds.length i with
  | none => rw [e] at h; cases h
  | some j =>
    rw [e] at h
    exact r.get h
/-- x[i] -/
def rIxD (K : PySem.W.Frag) (C : Cls0) : R2 := fun x y H Q => ∃ M d1 d2 d, Dm H M ∧ Rb K C H M x d1 ∧ Rb K C H M y d2 ∧ ixD d1 d2 = some d ∧ ∀ v, Rp K C H M v d → Q v H
theorem ix_D : IxR X (rIxD X.K C) := by
  intro value slice pins s σ H x y v u Q I rx ry h hsub
  obtain ⟨M, d1, d2, d, dm, h1, h2, e, q⟩ := h
  cases d1 <;> cases d2 <;> try (cases e; done)
  · rename_i x0 i
    rw [ixD] at e
    split at e
    · rename_i hz
      have e1 := h1.str; have e2 := h2.int
      subst e1 e2
      cases e3 : atI x0.cps.toList i with
      | none => rw [e3] at e; cases e
      | some c =>
        rw [e3] at e; cases e
        refine ix_str value slice pins s σ H _ _ v u Q I rx ry ⟨_, _, c, rfl, rfl, hz, e3, q _ (.str _)⟩ hsub
    · cases e
  · obtain ⟨a, vs, rfl, ea, ra⟩ := h1.lst
    have e2 := h2.int
    subst e2
    obtain ⟨z, hz, rz⟩ := atI_rp ra e
    refine ix_list value slice pins s σ H _ _ v u Q I rx ry ⟨a, vs, _, z, rfl, rfl, SqL.of ea, hz, q _ rz⟩ hsub
  · obtain ⟨a, vs, rfl, ea, ra⟩ := h1.tup
    have e2 := h2.int
    subst e2
    obtain ⟨z, hz, rz⟩ := atI_rp ra e
    refine ix_tup value slice pins s σ H _ _ v u Q I rx ry ⟨a, vs, _, z, rfl, rfl, ea, hz, q _ rz⟩ hsub
  · rename_i ns i
    obtain ⟨a, rfl, ea⟩ := h1.scr
    have e2 := h2.int
    subst e2
    rw [ixD] at e
    cases e3 : atI ns i with
    | none => rw [e3] at e; cases e
    | some c =>
      rw [e3] at e; cases e
      refine ix_list value slice pins s σ H _ _ v u Q I rx ry ⟨a, ns.map V.int, _, .int c, rfl, rfl, ea.sq, ?_, q _ (.int _)⟩ hsub
      unfold atI at e3 ⊢
      rw [List.length_map]
      cases e4 : ixN ns.length i with
      | none => rw [e4] at e3; cases e3
      | some j =>
        rw [e4] at e3
        show (ns.map V.int)[j]? = some (.int c)
        rw [List.getElem?_map, show ns[j]? = some c from e3]
        rfl

/-- x[lo:hi] -/
def rSlD (K : PySem.W.Frag) (C : Cls0) : V → Option Int → Option Int → Hp → VK → Prop := fun x lo hi H Q => ∃ M d1 k d, Dm H M ∧ Rb K C H M x d1 ∧ slD d1 lo hi = some (k, d) ∧ ∀ v H', Same H H' → Rk K C H H' M k v d → Q v H'
theorem cut_rp {K : PySem.W.Frag} {H : Hp} {M : Addr → Prop} {vs : List V} {ds : List D} {lo hi : Option Int} (r : RpA K C H M vs ds) : RpA K C H M (cutV vs lo hi) (cutD ds lo hi) := by
  unfold cutV cutD
  rw [r.length]
  exact (r.drop _).take _
theorem sl_D : SlR X (rSlD X.K C) := by
  intro pins s σ H x v vl vu lo hi sl Q I rx hs pl pu h
  obtain ⟨M, d1, k, d, dm, h1, e, q⟩ := h
  cases d1 <;> try (cases e; done)
  rw [slD] at e
  cases e
  obtain ⟨a, vs, rfl, ea, ra⟩ := h1.lst
  exact sl_list pins s σ H _ v vl vu lo hi sl Q I rx hs pl pu ⟨a, vs, rfl, SqL.of ea, fun p hp => q _ _ (same_upd hp) (rn_new dm hp (cut_rp ra))⟩
end
end VL
/-! VL4: calls of built-ins by values; what a def promises. -/
namespace VL
open PySem PySem.Spec PyProof.Rows L2
def BF.val : BF → Value
  | .len => .builtin "len"
  | .int_ => .type "int"
  | .tuple_ => .type "tuple"
  | .list_ => .type "list"
  | .min_ => .builtin "min"
def BF.isTy : BF → Bool
  | .len => false
  | .min_ => false
  | _ => true
theorem BF.boot (f : BF) : bootBuiltins f.nm = some f.val := by
  cases f <;> decide +kernel
theorem minL_le : ∀ (ns : List Int) (m : Int), minL m ns ≤ m ∧ (∀ y ∈ ns, minL m ns ≤ y) ∧ (minL m ns = m ∨ minL m ns ∈ ns)
  | [], m => ⟨Int.le_refl _, fun _ h => (by cases h), .inl rfl⟩
  | n :: ns, m => by
    have h := minL_le ns (if n < m then n else m)
    obtain ⟨h1, h2, h3⟩ := h
    have e : minL m (n :: ns) = minL (if n < m then n else m) ns := rfl
    rw [e]
    refine ⟨?_, fun y hy => ?_, ?_⟩
    · refine Int.le_trans h1 ?_
      split <;> omega
    · rcases List.mem_cons.mp hy with rfl | hy
      · refine Int.le_trans h1 ?_
        split <;> omega
      · exact h2 y hy
    · rcases h3 with h3 | h3
      · rw [h3]
        split
        · exact .inr List.mem_cons_self
        · exact .inl rfl
      · exact .inr (List.mem_cons_of_mem _ h3)
theorem minL_one (n : Int) (ns : List Int) (m : Int) (hm : m ∈ n :: ns) (hl : ∀ y, y ∈ n :: ns → m ≤ y) : minL n ns = m := by
  obtain ⟨h1, h2, h3⟩ := minL_le ns n
  have a : m ≤ minL n ns := by
    rcases h3 with h3 | h3
    · rw [h3]; exact hl n List.mem_cons_self
    · exact hl _ (List.mem_cons_of_mem _ h3)
  have b : minL n ns ≤ m := by
    rcases List.mem_cons.mp hm with rfl | hm
    · exact h1
    · exact h2 m hm
  omega
section
variable {X : Cx} {C : Cls0}
/-- values by their data -/
def RbA (K : PySem.W.Frag) (C : Cls0) (H : Hp) (M : Addr → Prop) : List V → List D → Prop
  | [], [] => True
  | v :: vs, d :: ds => Rb K C H M v d ∧ RbA K C H M vs ds
  | _, _ => False
def rBf (K : PySem.W.Frag) (C : Cls0) (F : List D → Option (Kd × D)) : List V → Hp → VK → Prop := fun xs H Q => ∃ M ds k d, Dm H M ∧ RbA K C H M xs ds ∧ F ds = some (k, d) ∧ ∀ v H', Same H H' → Rk K C H H' M k v d → Q v H'
theorem rbA1 {K : PySem.W.Frag} {H : Hp} {M : Addr → Prop} {xs : List V} {d : D} (h : RbA K C H M xs [d]) : ∃ v, xs = [v] ∧ Rb K C H M v d := by
  match xs, h with
  | [v], h => exact ⟨v, rfl, h.1⟩
theorem bf_D (hc : X.calm = true) (f : BF) : CallR X f.val (rBf X.K C (bfD f)) := by
  intro pins s σ H xs us Q I rx h
  obtain ⟨M, ds, k, d, dm, h1, e, q⟩ := h
  cases f with
  | len =>
    match ds, e with
    | [.lst ds], e =>
      cases e
      obtain ⟨v, rfl, b1⟩ := rbA1 h1
      obtain ⟨a, vs, rfl, ea, ra⟩ := b1.lst
      exact call_len_seq pins s σ H _ us Q I rx ⟨a, vs, rfl, .inl (SqL.of ea), by rw [ra.length]; exact q _ _ (Same.refl H) (.int _)⟩
    | [.tup ds], e =>
      cases e
      obtain ⟨v, rfl, b1⟩ := rbA1 h1
      obtain ⟨a, vs, rfl, ea, ra⟩ := b1.tup
      exact call_len_seq pins s σ H _ us Q I rx ⟨a, vs, rfl, .inr ea, by rw [ra.length]; exact q _ _ (Same.refl H) (.int _)⟩
    | [.scr ds], e =>
      cases e
      obtain ⟨v, rfl, b1⟩ := rbA1 h1
      obtain ⟨a, rfl, ea⟩ := b1.scr
      exact call_len_seq pins s σ H _ us Q I rx ⟨a, _, rfl, .inl ea.sq, by rw [List.length_map]; exact q _ _ (Same.refl H) (.int _)⟩
    | [.str x], e =>
      have e' : (if x.length ≤ sizeLine then some (Kd.fr, D.int x.length) else none) = some (k, d) := e
      by_cases hz : x.length ≤ sizeLine
      · rw [if_pos hz] at e'
        cases e'
        obtain ⟨v, rfl, b1⟩ := rbA1 h1
        have z := b1.str
        subst z
        exact call_len_str pins s σ H _ us Q I rx ⟨_, rfl, hz, q _ _ (Same.refl H) (.int _)⟩
      · rw [if_neg hz] at e'; cases e'
    | [], e => cases e
    | [.non], e => cases e
    | [.bl _], e => cases e
    | [.int _], e => cases e
    | [.ins _ _], e => cases e
    | x :: y :: r, e => cases x <;> cases e
  | int_ =>
    match ds, e with
    | [.int i], e =>
      cases e
      obtain ⟨v, rfl, b1⟩ := rbA1 h1
      have z := b1.int
      subst z
      exact call_int1 pins s σ H _ us Q I rx (.inl ⟨_, rfl, q _ _ (Same.refl H) (.int _)⟩)
    | [.bl i], e =>
      cases e
      obtain ⟨v, rfl, b1⟩ := rbA1 h1
      have z := b1.bl
      subst z
      exact call_int1 pins s σ H _ us Q I rx (.inr ⟨_, rfl, q _ _ (Same.refl H) (.int _)⟩)
    | [], e => cases e
    | [.non], e => cases e
    | [.lst _], e => cases e
    | [.tup _], e => cases e
    | [.scr _], e => cases e
    | [.str _], e => cases e
    | [.ins _ _], e => cases e
    | x :: y :: r, e => cases x <;> cases e
  | tuple_ =>
    match ds, e with
    | [.lst ds], e =>
      cases e
      obtain ⟨v, rfl, b1⟩ := rbA1 h1
      obtain ⟨a, vs, rfl, ea, ra⟩ := b1.lst
      exact call_tuple_of pins s σ H _ us Q I rx ⟨a, vs, rfl, .inl ⟨SqL.of ea, fun l hl => q _ _ (same_upd hl) (rp_tup hl ra)⟩⟩
    | [.tup ds], e =>
      cases e
      obtain ⟨v, rfl, b1⟩ := rbA1 h1
      obtain ⟨a, vs, rfl, ea, ra⟩ := b1.tup
      exact call_tuple_of pins s σ H _ us Q I rx ⟨a, vs, rfl, .inr ⟨ea, q _ _ (Same.refl H) (.tup ea ra)⟩⟩
    | [], e => cases e
    | [.non], e => cases e
    | [.bl _], e => cases e
    | [.int _], e => cases e
    | [.scr _], e => cases e
    | [.str _], e => cases e
    | [.ins _ _], e => cases e
    | x :: y :: r, e => cases x <;> cases e
  | list_ =>
    match ds, e with
    | [.lst ds], e =>
      cases e
      obtain ⟨v, rfl, b1⟩ := rbA1 h1
      obtain ⟨a, vs, rfl, ea, ra⟩ := b1.lst
      exact call_list_of pins s σ H _ us Q I rx ⟨a, vs, rfl, .inl (SqL.of ea), fun l hl => q _ _ (same_upd hl) (rn_new dm hl ra)⟩
    | [.tup ds], e =>
      cases e
      obtain ⟨v, rfl, b1⟩ := rbA1 h1
      obtain ⟨a, vs, rfl, ea, ra⟩ := b1.tup
      exact call_list_of pins s σ H _ us Q I rx ⟨a, vs, rfl, .inr ea, fun l hl => q _ _ (same_upd hl) (rn_new dm hl ra)⟩
    | [], e => cases e
    | [.non], e => cases e
    | [.bl _], e => cases e
    | [.int _], e => cases e
    | [.scr _], e => cases e
    | [.str _], e => cases e
    | [.ins _ _], e => cases e
    | x :: y :: r, e => cases x <;> cases e
  | min_ =>
    match ds, e with
    | [.lst ds], e =>
      have e' : (match intsOf ds with
        | some (n :: ns) => some (Kd.fr, D.int (minL n ns))
        | _ => none) = some (k, d) := e
      cases e1 : intsOf ds with
      | none => rw [e1] at e'; cases e'
      | some z =>
        rw [e1] at e'
        cases z with
        | nil => cases e'
        | cons n ns =>
          cases e'
          have e2 := intsOf_some e1
          subst e2
          obtain ⟨v, rfl, b1⟩ := rbA1 h1
          obtain ⟨a, vs, rfl, ea, ra⟩ := b1.lst
          have e3 := ra.ints
          subst e3
          exact cr_min hc pins s σ H _ us Q I rx ⟨a, n :: ns, rfl, SqL.of ea, by simp, fun m hm hl => by
            rw [← minL_one n ns m hm hl]
            exact q _ _ (Same.refl H) (.int _)⟩
    | [], e => cases e
    | [.non], e => cases e
    | [.bl _], e => cases e
    | [.int _], e => cases e
    | [.tup _], e => cases e
    | [.scr _], e => cases e
    | [.str _], e => cases e
    | [.ins _ _], e => cases e
    | x :: y :: r, e => cases x <;> cases e

/-- isinstance(x, T) -/
def isiTs : List String := ["int", "bool", "str", "list", "tuple"]
def tyTs : List String := ["NoneType", "int", "bool", "str", "list", "tuple"]
theorem isi_S : ∀ S ∈ tyTs, ∀ T ∈ isiTs, kitB S T = some (isS S T) := by decide +kernel
theorem isi_ty {K : PySem.W.Frag} {T : String} (hT : T ∈ isiTs) (d : D) (hd : ∀ c fs, d ≠ .ins c fs) : PySem.W.kitOne K (.type (tyOf d)) (.type T) = some (isT T d) := by
  refine kit_ty (isi_S _ ?_ _ hT)
  cases d <;> first | (show _ ∈ ([_, _, _, _, _, _] : List String); simp [tyOf]; done) | exact (hd _ _ rfl).elim
theorem rb_ty {K : PySem.W.Frag} {H : Hp} {M : Addr → Prop} {v : V} {d : D} (h : Rb K C H M v d) (hd : ∀ c fs, d ≠ .ins c fs) : TyX K H v (.type (tyOf d)) := by
  rcases h with h | ⟨a, vs, ds, rfl, rfl, e, _⟩
  · cases h with
    | non => exact .base .non
    | bl b => exact .base (.bl b)
    | int i => exact .base (.int i)
    | str x => exact .base (.str x)
    | lst e _ _ => exact .base (.lst e)
    | tup e _ =>
      rcases e with (e | ⟨o, e⟩) | ⟨o, its, n, hk, hcl, _⟩
      · exact .base (.tup e)
      · exact .fTuple e
      · exact .kTuple hk hcl
    | scr e =>
      rcases e with ⟨o, e⟩ | ⟨o, its, n, hk, hcl, _⟩
      · exact .base (.frz e)
      · exact .kList hk hcl
    | ins _ _ _ => exact (hd _ _ rfl).elim
  · exact .base (.lst e)
def rIsiD (K : PySem.W.Frag) (C : Cls0) (T : String) : List V → Hp → VK → Prop := fun xs H Q => ∃ M d v, xs = [v, .ty T] ∧ Rb K C H M v d ∧ (∀ c fs, d ≠ .ins c fs) ∧ Q (.bl (isT T d)) H
theorem isi_D {T : String} (hT : T ∈ isiTs) : CallR X (.builtin "isinstance") (rIsiD X.K C T) := by
  intro pins s σ H xs us Q I rx h
  obtain ⟨M, d, v, rfl, h1, hd, q⟩ := h
  exact call_isi pins s σ H _ us Q I rx ⟨v, .ty T, .type (tyOf d), .type T, isT T d, rfl, .ty T, rb_ty h1 hd, isi_ty hT d hd, q⟩

/-! ### methods that change nothing -/
theorem ixOf_some {x : D} : ∀ {ds : List D} {m n : Nat}, ixOf x ds m = some n → ∃ j z, n = m + j ∧ ds[j]? = some z ∧ PyData.eqv z.py x.py = true ∧ ∀ i y, i < j → ds[i]? = some y → PyData.eqv y.py x.py = false
  | [], _, _, h => by cases h
  | d :: ds, m, n, h => by
    unfold ixOf at h
    by_cases c : PyData.eqv d.py x.py = true
    · rw [if_pos c] at h
      cases h
      exact ⟨0, d, rfl, rfl, c, fun i y hi => absurd hi (Nat.not_lt_zero _)⟩
    · rw [if_neg c] at h
      obtain ⟨j, z, e1, e2, e3, e4⟩ := ixOf_some h
      refine ⟨j + 1, z, by omega, e2, e3, fun i y hi hy => ?_⟩
      cases i with
      | zero =>
        cases hy
        simpa using c
      | succ i => exact e4 i y (by omega) hy
def rBm (K : PySem.W.Frag) (C : Cls0) (m : BM) : V → List V → Hp → VK → Prop := fun x xs H Q => ∃ M d ds k r, Dm H M ∧ Rb K C H M x d ∧ RbA K C H M xs ds ∧ bmD m d ds = some (k, r) ∧ ∀ v H', Same H H' → Rk K C H H' M k v r → Q v H'
theorem index_D (hu : X.A.units + 65 < cLine) : MtR X "list.index" (rBm X.K C .index) := by
  intro pins s σ H x xs v us Q I rx rxs h
  obtain ⟨M, d, ds, k, r, dm, h1, h2, e, q⟩ := h
  match d, ds, e with
  | .lst es, [y], e =>
    have e' : (if SeqAt.shaped y.py = true ∧ SeqAt.shaped (.list (pyAll es)) = true then (ixOf y es 0).map fun n => (Kd.fr, D.int (n : Int)) else none) = some (k, r) := e
    by_cases hs : SeqAt.shaped y.py = true ∧ SeqAt.shaped (.list (pyAll es)) = true
    · rw [if_pos hs] at e'
      cases e1 : ixOf y es 0 with
      | none => rw [e1] at e'; cases e'
      | some n =>
        rw [e1] at e'
        cases e'
        obtain ⟨j, z, e2, e3, e4, e5⟩ := ixOf_some e1
        obtain ⟨w, rfl, b2⟩ := rbA1 h2
        have hl := h1.dp (d := .lst es) hs.2
        obtain ⟨a, vs, rfl, ea, ra⟩ := h1.lst
        have en : n = j := by omega
        subst en
        refine mt_indexD hu pins s σ H _ _ v us Q I rx rxs ⟨a, w, y.py, pyAll es, n, z.py, rfl, rfl, hl, b2.dp hs.1, hs.2, hs.1, ?_, e4, fun i z' hi hz' => ?_, q _ _ (Same.refl H) (.int _)⟩
        · rw [pyAll_eq, List.getElem?_map, e3]; rfl
        · rw [pyAll_eq, List.getElem?_map] at hz'
          cases e6 : es[i]? with
          | none => rw [e6] at hz'; cases hz'
          | some y' =>
            rw [e6] at hz'
            cases hz'
            exact e5 i y' hi e6
    · rw [if_neg hs] at e'; cases e'
end

/-! ### what a def promises -/
inductive ArgsR (K : PySem.W.Frag) (C : Cls0) (H : Hp) (B : Addr → Prop) : List Bool → List V → List D → Prop
  | nil : ArgsR K C H B [] [] []
  | fr {v vs d ds bs} : Rp K C H B v d → ArgsR K C H B bs vs ds → ArgsR K C H B (true :: bs) (v :: vs) (d :: ds)
  | bo {v vs d ds bs} : Rb K C H B v d → ArgsR K C H B bs vs ds → ArgsR K C H B (false :: bs) (v :: vs) (d :: ds)
theorem ArgsR.len {K : PySem.W.Frag} {C : Cls0} {H : Hp} {B : Addr → Prop} : ∀ {bs : List Bool} {vs : List V} {ds : List D}, ArgsR K C H B bs vs ds → vs.length = bs.length
  | _, _, _, .nil => rfl
  | _, _, _, .fr _ t => congrArg Nat.succ t.len
  | _, _, _, .bo _ t => congrArg Nat.succ t.len
def spOf (K : PySem.W.Frag) (C : Cls0) (S : Sem1) : Sp := fun vs H Q _ => ∃ (B : Addr → Prop) (ds : List D), Dm H B ∧ ArgsR K C H B S.fr vs ds ∧ S.wp ds fun d => ∀ v H', Same H H' → Rk K C H H' B (kOf S.nw) v d → Q v H'
end VL
/-! VL5: which expression of the text an E stands for (chkE), and that the text keeps its plain reading. -/
namespace VL
open PySem PySem.Spec PyProof.Rows L2

/-! ### the check -/
def visB (sc : Scope) (x : Str) : Bool := match sc.names.lookup x with
  | some .local => true
  | some .cell => true
  | some .free => true
  | _ => false
def glbB (sc : Scope) (x : Str) : Bool := match sc.names.lookup x with
  | some .globalImplicit => true
  | _ => false
def locB (sc : Scope) (x : Str) : Bool := match sc.names.lookup x with
  | some .local => true
  | some .cell => true
  | _ => false
def nmB (x : Str) : Bool := !(x == ("__debug__" : Str)) && !(x == ("__classdict__" : Str))
/-- the names that stand for built-ins -/
def bnames : List Str := ["len", "int", "tuple", "list", "min", "bool", "str", "isinstance", "range", "zip"]
def cB : D → Const → Bool
  | .non, .none => true
  | .bl b, .bool c => b == c
  | .int i, .int j => decide (i = j)
  | .str x, .str y => decide (x = y)
  | _, _ => false
/-- no star, no set display, no generator .. -/
def okSh : Expr → Bool
  | .BoolOp .. => true
  | .BinOp .. => true
  | .UnaryOp .. => true
  | .IfExp .. => true
  | .ListComp .. => true
  | .Compare .. => true
  | .Call .. => true
  | .Constant .. => true
  | .Subscript .. => true
  | .Name .. => true
  | .List .. => true
  | .Tuple .. => true
  | _ => false
/-- a target -/
def chkT (N : List Str) (sc : Scope) (own : List Nat → Bool) : Tg → Expr → Bool
  | .nm i, .Name x _ => decide (N[i]? = some x) && locB sc x && own [i]
  | .tp is, .Tuple es _ _ => decide (es.length = is.length) && (es.zip is).all (fun p => match p.1 with
    | .Name x _ => decide (N[p.2]? = some x) && locB sc x
    | _ => false) && own is
  | _, _ => false
def ownP (N : List Str) (own : List Nat) : List (Str × Nat) := own.map fun i => (N.getD i "", i)
/-- the forms of expressions that are carried -/
inductive Vw where
  | name (x : Str) | con (c : Const) | bin (o : Operator) (a b : Expr) | neg (a : Expr) | nt (a : Expr)
  | cmp (o : CmpOp) (a b : Expr) | chn (o p : CmpOp) (a b c : Expr) | bol (op : BoolOp) (x y : Expr) (r : List Expr) (p : Pos)
  | ife (t a b : Expr) | ix (a b : Expr) | sl (a : Expr) (lo hi : Option Expr) | lst (xs : List Expr) | tup (xs : List Expr)
  | cl (x : Str) (xs : List Expr) | mt (o : Expr) (n : Str) (xs : List Expr) (ap cp : Pos) | lc (e t i : Expr) (ifs : List Expr) (sc : Scope) | oth
def view : Expr → Vw
  | .Name x _ => .name x
  | .Constant c _ _ => .con c
  | .BinOp a o b _ => .bin o a b
  | .UnaryOp .USub a _ => .neg a
  | .UnaryOp .Not a _ => .nt a
  | .Compare a [o] [b] _ => .cmp o a b
  | .Compare a [o, p] [b, c] _ => .chn o p a b c
  | .BoolOp op (x :: y :: r) p => .bol op x y r p
  | .IfExp t a b _ => .ife t a b
  | .Subscript a (.Slice lo hi none _) _ => .sl a lo hi
  | .Subscript a b _ => .ix a b
  | .List xs _ => .lst xs
  | .Tuple xs _ _ => .tup xs
  | .Call (.Name x _) xs [] _ => .cl x xs
  | .Call (.Attribute o n ap) xs [] cp => .mt o n xs ap cp
  | .ListComp e [⟨t, i, ifs, 0⟩] sc _ => .lc e t i ifs sc
  | _ => .oth
def noSup : Expr → Bool
  | .Call (.Name _ _) [] [] _ => false
  | _ => true
theorem noSup_ok {y : Expr} {n : Str} {env : PySem.Env} {w : Sem Value} (h : noSup y = true) : attributeBase y n env w = w := by
  unfold attributeBase
  split
  · cases h
  · rfl
def vCl : Vw → Option (Str × List Expr)
  | .cl x xs => some (x, xs)
  | _ => none
def vNm (e : Expr) (x : Str) : Bool := match view e with
  | .name y => decide (y = x)
  | _ => false
mutual
def chkE (N : List Str) (c : E) (sc : Scope) (e : Expr) : Bool := match c with
  | .v i => (match view e with
    | .name x => decide (N[i]? = some x) && visB sc x && nmB x
    | _ => false)
  | .k d => (match view e with
    | .con c => cB d c
    | _ => false)
  | .gk x => (match view e with
    | .name y => decide (x = y) && glbB sc y && nmB y
    | _ => false)
  | .op o a b => (match view e with
    | .bin o' x y => decide (o = o') && chkE N a sc x && chkE N b sc y
    | _ => false)
  | .neg a => (match view e with
    | .neg x => chkE N a sc x
    | _ => false)
  | .cmp o a b => (match view e with
    | .cmp o' x y => decide (o = o') && okSh y && chkE N a sc x && chkE N b sc y
    | _ => false)
  | .chn o p a b c => (match view e with
    | .chn o' p' x y z => decide (o = o') && decide (p = p') && okSh y && okSh z && chkE N a sc x && chkE N b sc y && chkE N c sc z
    | _ => false)
  | .and a b => (match view e with
    | .bol .And x y r p => chkE N a sc x && chkE N b sc (match r with
      | [] => y
      | _ => .BoolOp .And (y :: r) p)
    | _ => false)
  | .or a b => (match view e with
    | .bol .Or x y r p => chkE N a sc x && chkE N b sc (match r with
      | [] => y
      | _ => .BoolOp .Or (y :: r) p)
    | _ => false)
  | .not a => (match view e with
    | .nt x => chkE N a sc x
    | _ => false)
  | .ife t a b => (match view e with
    | .ife u x y => chkE N t sc u && chkE N a sc x && chkE N b sc y
    | _ => false)
  | .ix a b => (match view e with
    | .ix x y => okSh y && chkE N a sc x && chkE N b sc y
    | _ => false)
  | .sl a lo hi => (match view e with
    | .sl x l h => chkE N a sc x && chkO N lo sc l && chkO N hi sc h
    | _ => false)
  | .lst es => (match view e with
    | .lst xs => chkA N es sc xs
    | _ => false)
  | .tup es => (match view e with
    | .tup xs => chkA N es sc xs
    | _ => false)
  | .bf f es => (match view e with
    | .cl x xs => decide (x = f.nm) && glbB sc x && !xs.isEmpty && chkA N es sc xs
    | _ => false)
  | .isi T a => (match view e with
    | .cl x [y, t] => decide (x = ("isinstance" : Str)) && glbB sc x && vNm t (PySem.Str.ofString T) && glbB sc (PySem.Str.ofString T) && decide (T ∈ isiTs) && okSh y && chkE N a sc y
    | _ => false)
  | .bm m o es => (match view e with
    | .mt y n xs ap cp => decide (n = m.nm) && !xs.isEmpty && decide (xs.length < 20) && (ap.endLine == cp.line) && noSup y && chkE N o sc y && chkA N es sc xs
    | _ => false)
  | .fn f es => (match view e with
    | .cl x xs => decide (x = f) && glbB sc x && nmB x && !xs.isEmpty && chkA N es sc xs
    | _ => false)
  | .lc own tg it cond elt => (match view e with
    | .lc e t i ifs sc' => okSh i && chkI N it sc i && blkC N sc sc' (ownP N own) && chkT N sc' (fun is => is.all (own.contains ·)) tg t && chkC N cond (relS sc' sc) ifs && chkE N elt (relS sc' sc) e
    | _ => false)
  | _ => false
def chkO (N : List Str) (c : E) (sc : Scope) (e : Option Expr) : Bool := match c with
  | .no => e.isNone
  | .so c => (match e with
    | some x => chkE N c sc x
    | none => false)
  | _ => false
def chkC (N : List Str) (c : E) (sc : Scope) (es : List Expr) : Bool := match c with
  | .no => es.isEmpty
  | .so c => (match es with
    | [x] => chkE N c sc x
    | _ => false)
  | _ => false
def chkA (N : List Str) (c : E) (sc : Scope) (es : List Expr) : Bool := match c with
  | .nil => es.isEmpty
  | .cons c cs => (match es with
    | x :: xs => okSh x && chkE N c sc x && chkA N cs sc xs
    | [] => false)
  | _ => false
def chkX (N : List Str) (c : E) (sc : Scope) (e : Expr) : Bool := match c with
  | .sv i => (match view e with
    | .name x => decide (N[i]? = some x) && visB sc x && nmB x
    | _ => false)
  | .se c => okSh e && chkE N c sc e
  | _ => false
def chkI (N : List Str) (c : E) (sc : Scope) (e : Expr) : Bool := match c with
  | .rng es => (match view e with
    | .cl x xs => decide (x = ("range" : Str)) && glbB sc x && (xs.length == 1 || xs.length == 2) && chkA N es sc xs
    | _ => false)
  | .iv a => chkX N a sc e
  | _ => false
end
theorem vw_name {e : Expr} {x : Str} (h : view e = .name x) : ∃ p, e = .Name x p := by
  unfold view at h
  split at h <;> first | (cases h; done) | (cases h; exact ⟨_, rfl⟩)
theorem vw_con {e : Expr} {x : Const} (h : view e = .con x) : ∃ j p, e = .Constant x j p := by
  unfold view at h
  split at h <;> first | (cases h; done) | (cases h; exact ⟨_, _, rfl⟩)
theorem vw_bin {e : Expr} {o a b} (h : view e = .bin o a b) : ∃ p, e = .BinOp a o b p := by
  unfold view at h
  split at h <;> first | (cases h; done) | (cases h; exact ⟨_, rfl⟩)
theorem vw_neg {e : Expr} {a} (h : view e = .neg a) : ∃ p, e = .UnaryOp .USub a p := by
  unfold view at h
  split at h <;> first | (cases h; done) | (cases h; exact ⟨_, rfl⟩)
theorem vw_nt {e : Expr} {a} (h : view e = .nt a) : ∃ p, e = .UnaryOp .Not a p := by
  unfold view at h
  split at h <;> first | (cases h; done) | (cases h; exact ⟨_, rfl⟩)
theorem vw_cmp {e : Expr} {o a b} (h : view e = .cmp o a b) : ∃ p, e = .Compare a [o] [b] p := by
  unfold view at h
  split at h <;> first | (cases h; done) | (cases h; exact ⟨_, rfl⟩)
theorem vw_chn {e : Expr} {o p a b c} (h : view e = .chn o p a b c) : ∃ q, e = .Compare a [o, p] [b, c] q := by
  unfold view at h
  split at h <;> first | (cases h; done) | (cases h; exact ⟨_, rfl⟩)
theorem vw_bol {e : Expr} {o x y r p} (h : view e = .bol o x y r p) : e = .BoolOp o (x :: y :: r) p := by
  unfold view at h
  split at h <;> first | (cases h; done) | (cases h; rfl)
theorem vw_ife {e : Expr} {t a b} (h : view e = .ife t a b) : ∃ p, e = .IfExp t a b p := by
  unfold view at h
  split at h <;> first | (cases h; done) | (cases h; exact ⟨_, rfl⟩)
theorem vw_ix {e : Expr} {a b} (h : view e = .ix a b) : ∃ p, e = .Subscript a b p := by
  unfold view at h
  split at h <;> first | (cases h; done) | (cases h; exact ⟨_, rfl⟩)
theorem vw_sl {e : Expr} {a lo hi} (h : view e = .sl a lo hi) : ∃ p q, e = .Subscript a (.Slice lo hi none p) q := by
  unfold view at h
  split at h <;> first | (cases h; done) | (cases h; exact ⟨_, _, rfl⟩)
theorem vw_lst {e : Expr} {xs} (h : view e = .lst xs) : ∃ p, e = .List xs p := by
  unfold view at h
  split at h <;> first | (cases h; done) | (cases h; exact ⟨_, rfl⟩)
theorem vw_tup {e : Expr} {xs} (h : view e = .tup xs) : ∃ j p, e = .Tuple xs j p := by
  unfold view at h
  split at h <;> first | (cases h; done) | (cases h; exact ⟨_, _, rfl⟩)
theorem vw_cl {e : Expr} {x xs} (h : view e = .cl x xs) : ∃ p q, e = .Call (.Name x p) xs [] q := by
  unfold view at h
  split at h <;> first | (cases h; done) | (cases h; exact ⟨_, _, rfl⟩)
theorem vw_mt {e : Expr} {o n xs ap cp} (h : view e = .mt o n xs ap cp) : e = .Call (.Attribute o n ap) xs [] cp := by
  unfold view at h
  split at h <;> first | (cases h; done) | (cases h; rfl)
theorem vw_lc {e : Expr} {a t i ifs sc} (h : view e = .lc a t i ifs sc) : ∃ p, e = .ListComp a [⟨t, i, ifs, 0⟩] sc p := by
  unfold view at h
  split at h <;> first | (cases h; done) | (cases h; exact ⟨_, rfl⟩)

/-! ### shapes -/
section
variable {X : Cx} {env : Env}
theorem star_of : ∀ {e : Expr} {es : List Expr} {env : PySem.Env}, okSh e = true → starEach (e :: es) env = (false, eval e env) :: starEach es env := fun {e es env} h => by
  cases e <;> first | rfl | cases h
theorem fold_of {e : Expr} {env : PySem.Env} (h : okSh e = true) : ∀ x, foldedSetIterable e env x = pure x := by
  cases e <;> first | (intro _; rfl) | cases h
theorem ix_of {e : Expr} (h : okSh e = true) : PlainIx e := by
  cases e <;> first | (intro _ _; rfl) | cases h
theorem nb_of {e : Expr} (o : CmpOp) (h : okSh e = true) : behindInMarks o e = false := by
  cases e <;> first | rfl | cases h
theorem sw_of {e : Expr} {t : Option Expr} {l : Nat} {env : PySem.Env} (h : okSh e = true) (hl : ∀ a b c d, e ≠ .ListComp a b c d) : swapsWith e t l env = pure false := by
  cases e <;> first | rfl | exact (hl _ _ _ _ rfl).elim | cases h
end
theorem chkA_nil {N : List Str} {sc : Scope} {es : List Expr} (h : chkA N .nil sc es = true) : es = [] := by
  unfold chkA at h
  exact List.isEmpty_iff.mp h
theorem chkA_cons {N : List Str} {c cs : E} {sc : Scope} {es : List Expr} (h : chkA N (.cons c cs) sc es = true) : ∃ x xs, es = x :: xs ∧ okSh x = true ∧ chkE N c sc x = true ∧ chkA N cs sc xs = true := by
  unfold chkA at h
  split at h
  · rw [Bool.and_eq_true, Bool.and_eq_true] at h
    exact ⟨_, _, rfl, h.1.1, h.1.2, h.2⟩
  · cases h
theorem chkA_ok {N : List Str} {sc : Scope} : ∀ {c : E} {es : List Expr}, chkA N c sc es = true → es.all okSh = true := fun {c} => by
  induction c with
  | nil => intro es h; rw [chkA_nil h]; rfl
  | cons c cs _ ih =>
    intro es h
    obtain ⟨x, xs, rfl, h1, h2, h3⟩ := chkA_cons h
    rw [List.all_cons, Bool.and_eq_true]
    exact ⟨h1, ih h3⟩
  | _ => intro es h; unfold chkA at h; cases h
theorem plain_of {es : List Expr} {env : PySem.Env} (pos : Pos) (h : es.all okSh = true) : (backTo pos (starEach es env)).any (·.1) = false := by
  induction es with
  | nil => rfl
  | cons e es ih =>
    rw [List.all_cons, Bool.and_eq_true] at h
    rw [star_of h.1]
    exact ih h.2
end VL
/-! VL6: the text of an expression keeps its plain reading. -/
namespace VL
open PySem PySem.Spec PyProof.Rows L2

/-- what a slot may be read for: U: the lists that are open to change -/
def RdOk (K : PySem.W.Frag) (C : Cls0) (H : Hp) (M U : Addr → Prop) (v : Option V) : Slot → Prop
  | .un => True
  | .sh d => ∃ x, v = some x ∧ Rp K C H M x d
  | .bo d => ∃ x, v = some x ∧ (Rp K C H M x d ∨ ∃ a vs ds, x = .ref a ∧ d = .lst ds ∧ ¬ U a ∧ H a = some (.lst vs) ∧ RpA K C H M vs ds)
  | .ow ds => ∃ a vs, v = some (.ref a) ∧ H a = some (.lst vs) ∧ RpA K C H M vs ds
  | .lk ds => ∃ a vs, v = some (.ref a) ∧ ¬ U a ∧ H a = some (.lst vs) ∧ RpA K C H M vs ds
structure EnvOk (K : PySem.W.Frag) (C : Cls0) (H : Hp) (M U : Addr → Prop) (σ : L2.St) (env : Env) : Prop where
  len : σ.length = env.length
  dom : Dm H M
  sl : ∀ i, RdOk K C H M U (σ[i]?).join (slot env i)
section
variable {K : PySem.W.Frag} {C : Cls0} {H H' : Hp} {M M' U : Addr → Prop} {σ : L2.St} {env : Env} {v : Option V}
theorem RdOk.kp {s : Slot} (k : ∀ a o, H a = some o → H' a = some o) (l : Lt H M M') (h : RdOk K C H M U v s) : RdOk K C H' M' U v s := by
  have kk : Kp M H H' := fun a o e => .inr (k a o e)
  cases s with
  | un => trivial
  | sh d => obtain ⟨x, e, r⟩ := h; exact ⟨x, e, r.kp kk l⟩
  | bo d =>
    obtain ⟨x, e, r⟩ := h
    refine ⟨x, e, ?_⟩
    rcases r with r | ⟨a, vs, ds, e1, e2, n, e3, r⟩
    · exact .inl (r.kp kk l)
    · exact .inr ⟨a, vs, ds, e1, e2, n, k _ _ e3, r.kp kk l⟩
  | ow ds => obtain ⟨a, vs, e, e1, r⟩ := h; exact ⟨a, vs, e, k _ _ e1, r.kp kk l⟩
  | lk ds => obtain ⟨a, vs, e, n, e1, r⟩ := h; exact ⟨a, vs, e, n, k _ _ e1, r.kp kk l⟩
theorem Dm.same (h : Dm H M) (s : Same H H') : Dm H' M := fun a m z => by
  cases e : H a with
  | none => exact h a m e
  | some o =>
    rw [s a o e] at z
    cases z
theorem EnvOk.same (h : EnvOk K C H M U σ env) (s : Same H H') : EnvOk K C H' M U σ env :=
  ⟨h.len, h.dom.same s, fun i => (h.sl i).kp s Lt.refl⟩
theorem slot_set : ∀ (env : Env) (i j : Nat) (s : Slot), slot (env.set i s) j = if i = j ∧ i < env.length then s else slot env j
  | [], i, j, s => by simp [slot]
  | t :: r, 0, 0, s => by simp [slot]
  | t :: r, 0, j + 1, s => by simp [slot]
  | t :: r, i + 1, 0, s => by simp [slot]
  | t :: r, i + 1, j + 1, s => by
    have h := slot_set r i j s
    simp only [List.set_cons_succ, slot, List.length_cons]
    rw [h]
    simp
theorem join_set (σ : L2.St) (i j : Nat) (v : Option V) : (σ.set i v)[j]?.join = if i = j ∧ i < σ.length then v else σ[j]?.join := by
  rw [List.getElem?_set]
  by_cases h : i = j
  · subst h
    by_cases hl : i < σ.length
    · simp [hl]
    · simp [hl]
  · simp [h]
theorem EnvOk.set (h : EnvOk K C H M U σ env) {i : Nat} {v : Option V} {s : Slot} (r : RdOk K C H M U v s) : EnvOk K C H M U (σ.set i v) (env.set i s) := by
  refine ⟨by rw [List.length_set, List.length_set]; exact h.len, h.dom, fun j => ?_⟩
  rw [slot_set, join_set, h.len]
  by_cases c : i = j ∧ i < env.length
  · rw [if_pos c, if_pos c]; exact r
  · rw [if_neg c, if_neg c]; exact h.sl j
theorem EnvOk.wipe (h : EnvOk K C H M U σ env) : ∀ vs : List Nat, EnvOk K C H M U (wipe σ vs) (wipeE env vs)
  | [] => h
  | v :: vs => (EnvOk.wipe h vs).set (s := .un) trivial
end

/-- the text around: the slots' names, what is known of the module -/
structure Gd (N : List Str) (G : Gam) (C : Cls0) (k : Nat) (X : Cx) : Prop where
  nm : X.N = N
  nd : N.Nodup
  calm : X.calm = true
  room : Room k X.A
  blt : ∀ x ∈ bnames, X.mg x = none
  fns : ∀ f S, G.fn f = some S → ∃ a fd ps, FnOk X.prog X.w X.K X.mg X.base CX0 k a fd ps (spOf X.K C S) ∧ X.mg f = some (.ref a) ∧ PySem.W.keepIn X.K (.ref a) = true ∧ Binds X.K fd ps []
  cst : ∀ x d, G.cst x = some d → ∃ u v, X.mg x = some u ∧ RelV v u ∧ ∀ H M, Rp X.K C H M v d
section
variable {N : List Str} {G : Gam} {C : Cls0} {k : Nat} {X : Cx}
theorem Gd.units (g : Gd N G C k X) : X.A.units + 65 < cLine := by have := g.room.un; omega
theorem Gd.blk (g : Gd N G C k X) (s : Shared) (H : Hp) (scope : Scope) (cenv : PySem.Env) (fp : List Addr) : Gd N G C k (X.blk s H scope cenv fp) :=
  ⟨g.nm, g.nd, g.calm, g.room, g.blt, g.fns, g.cst⟩
/-! ### readings of the layer by plain readings -/
def tE (G : Gam) (K : PySem.W.Frag) (C : Cls0) (c : E) : TE := fun σ H Q => ∃ M U env, EnvOk K C H M U σ env ∧ wE G c env fun k d => ∀ v H', Same H H' → Rk K C H H' M k v d → Q v H'
def tT (G : Gam) (K : PySem.W.Frag) (C : Cls0) (c : E) : TT := fun σ H Q => ∃ M U env, EnvOk K C H M U σ env ∧ wE G c env fun _ d => ∃ r, d = .bl r ∧ ∀ H', Same H H' → Q r H'
def tO (G : Gam) (K : PySem.W.Frag) (C : Cls0) (c : E) : TO := fun σ H Q => ∃ M U env, EnvOk K C H M U σ env ∧ wO G c env fun o => ∀ H', Same H H' → Q o H'
/-- arguments' values by kinds -/
def RkA (K : PySem.W.Frag) (C : Cls0) (H : Hp) (M : Addr → Prop) : List V → List (Kd × D) → Prop
  | [], [] => True
  | v :: vs, (k, d) :: ds => (Rb K C H M v d ∧ (k.frz = true → Rp K C H M v d)) ∧ RkA K C H M vs ds
  | _, _ => False
def tA (G : Gam) (K : PySem.W.Frag) (C : Cls0) (c : E) : TA := fun σ H Q => ∃ M U env, EnvOk K C H M U σ env ∧ wA G c env fun xs => ∀ vs H', Same H H' → RkA K C H' M vs xs → Q vs H'
theorem PE.imp {e : Expr} {t t' : TE} (h : PE X e t) (i : ∀ σ H Q, t' σ H Q → t σ H Q) : PE X e t' := ⟨fun pins s σ H Q I q => h.run pins s σ H Q I (i _ _ _ q)⟩
theorem PT.imp {e : Expr} {t t' : TT} (h : PT X e t) (i : ∀ σ H Q, t' σ H Q → t σ H Q) : PT X e t' := ⟨fun pins s σ H Q I q => h.run pins s σ H Q I (i _ _ _ q)⟩
theorem PA.imp {e : List Expr} {t t' : TA} (h : PA X e t) (i : ∀ σ H Q, t' σ H Q → t σ H Q) : PA X e t' := ⟨fun pos pins s σ H Q I q => h.run pos pins s σ H Q I (i _ _ _ q)⟩
theorem PO.imp {e : Option Expr} {t t' : TO} (h : PO X e t) (i : ∀ σ H Q, t' σ H Q → t σ H Q) : PO X e t' := ⟨fun pins s σ H Q I q => h.run pins s σ H Q I (i _ _ _ q)⟩
theorem PI.imp {tg e : Expr} {t t' : TI} (h : PI X tg e t) (i : ∀ σ H Q, t' σ H Q → t σ H Q) : PI X tg e t' := ⟨fun pins s σ H Q I q => h.run pins s σ H Q I (i _ _ _ q)⟩

theorem Rk.same {K : PySem.W.Frag} {H0 H H' : Hp} {M : Addr → Prop} {k : Kd} {v : V} {d : D} (h : Rk K C H0 H M k v d) (s : Same H H') : Rb K C H' M v d ∧ (k.frz = true → Rp K C H' M v d) :=
  ⟨h.b1.same s, fun z => (h.fr z).same s⟩
theorem RkA.same {K : PySem.W.Frag} {H H' : Hp} {M : Addr → Prop} (s : Same H H') : ∀ {vs : List V} {xs : List (Kd × D)}, RkA K C H M vs xs → RkA K C H' M vs xs
  | [], [], _ => trivial
  | v :: vs, (k, d) :: ds, h => ⟨⟨h.1.1.same s, fun z => (h.1.2 z).same s⟩, RkA.same s h.2⟩
  | [], _ :: _, h => h.elim
  | _ :: _, [], h => h.elim
theorem RkA.rbA {K : PySem.W.Frag} {H : Hp} {M : Addr → Prop} : ∀ {vs : List V} {xs : List (Kd × D)}, RkA K C H M vs xs → RbA K C H M vs (xs.map (·.2))
  | [], [], _ => trivial
  | v :: vs, (k, d) :: ds, h => ⟨h.1.1, RkA.rbA h.2⟩
  | [], _ :: _, h => h.elim
  | _ :: _, [], h => h.elim
theorem RkA.rpA {K : PySem.W.Frag} {H : Hp} {M : Addr → Prop} : ∀ {vs : List V} {xs : List (Kd × D)}, RkA K C H M vs xs → xs.all (·.1.frz) = true → RpA K C H M vs (xs.map (·.2))
  | [], [], _, _ => .nil
  | v :: vs, (k, d) :: ds, h, f => by
    rw [List.all_cons, Bool.and_eq_true] at f
    exact .cons (h.1.2 f.1) (RkA.rpA h.2 f.2)
  | [], _ :: _, h, _ => h.elim
  | _ :: _, [], h, _ => h.elim
theorem RkA.len {K : PySem.W.Frag} {H : Hp} {M : Addr → Prop} : ∀ {vs : List V} {xs : List (Kd × D)}, RkA K C H M vs xs → vs.length = xs.length
  | [], [], _ => rfl
  | v :: vs, (k, d) :: ds, h => congrArg Nat.succ (RkA.len h.2)
  | [], _ :: _, h => h.elim
  | _ :: _, [], h => h.elim
theorem RkA.args {K : PySem.W.Frag} {H : Hp} {M : Addr → Prop} : ∀ {bs : List Bool} {vs : List V} {xs : List (Kd × D)}, RkA K C H M vs xs → argsOk bs xs = true → ArgsR K C H M bs vs (xs.map (·.2))
  | [], [], [], _, _ => .nil
  | b :: bs, v :: vs, (k, d) :: ds, h, f => by
    unfold argsOk at f
    rw [Bool.and_eq_true] at f
    cases b with
    | true => exact .fr (h.1.2 (by simpa using f.1)) (RkA.args h.2 f.2)
    | false => exact .bo h.1.1 (RkA.args h.2 f.2)
  | [], _, _ :: _, _, f => by cases f
  | _ :: _, [], [], _, f => by cases f
  | _ :: _, [], _ :: _, h, _ => h.elim
  | _, _ :: _, [], h, _ => h.elim

/-! ### names -/
theorem vis_of {sc : Scope} {x : Str} (h : visB sc x = true) : Vis sc x := by
  unfold visB at h
  unfold Vis
  split at h
  · rename_i e; exact .inl e
  · rename_i e; exact .inr (.inl e)
  · rename_i e; exact .inr (.inr e)
  · cases h
theorem glb_of {x : Str} (h : glbB X.env.scope x = true) : Gl X x := by
  unfold glbB at h
  split at h
  · rename_i e; exact e
  · cases h
theorem nm_of {x : Str} (h : nmB x = true) : (x == ("__debug__" : Str)) = false ∧ (x == ("__classdict__" : Str)) = false := by
  unfold nmB at h
  rw [Bool.and_eq_true] at h
  exact ⟨by simpa using h.1, by simpa using h.2⟩
theorem sl_v {K : PySem.W.Frag} {H : Hp} {M U : Addr → Prop} {σ : L2.St} {env : Env} {i : Nat} (h : EnvOk K C H M U σ env) {Q : Kd → D → Prop} (w : wE G (.v i) env Q) : ∃ x k d, σ[i]? = some (some x) ∧ Rk K C H H M k x d ∧ Q k d := by
  have r := h.sl i
  unfold wE at w
  have jn : ∀ {o : Option (Option V)} {x : V}, o.join = some x → o = some (some x) := fun {o x} e => by
    cases o with
    | none => cases e
    | some z => cases z with
      | none => cases e
      | some y => cases e; rfl
  cases e : slot env i with
  | un => rw [e] at w; exact w.elim
  | sh d => rw [e] at w r; obtain ⟨x, e1, r1⟩ := r; exact ⟨x, .fr, d, jn e1, r1, w⟩
  | bo d =>
    rw [e] at w r
    obtain ⟨x, e1, r1⟩ := r
    refine ⟨x, .b1, d, jn e1, ?_, w⟩
    rcases r1 with r1 | ⟨a, vs, ds, e1, e2, n, e3, r1⟩
    · exact .inl r1
    · exact .inr ⟨a, vs, ds, e1, e2, e3, r1⟩
  | ow ds => rw [e] at w r; obtain ⟨a, vs, e1, e2, r1⟩ := r; exact ⟨_, .b1, _, jn e1, .inr ⟨a, vs, ds, rfl, rfl, e2, r1⟩, w⟩
  | lk ds => rw [e] at w r; obtain ⟨a, vs, e1, n, e2, r1⟩ := r; exact ⟨_, .b1, _, jn e1, .inr ⟨a, vs, ds, rfl, rfl, e2, r1⟩, w⟩
end
/-! ### what is walked -/
/-- from H1, M1 on only lists of U were changed -/
structure Since (U : Addr → Prop) (H1 : Hp) (M1 : Addr → Prop) (H : Hp) (M : Addr → Prop) : Prop where
  keep : ∀ b o, H1 b = some o → U b ∨ H b = some o
  u : ∀ b, U b → M1 b ∧ ∃ vs, H1 b = some (.lst vs)
  lt : Lt H1 M1 M
theorem Since.kp {U M1 M : Addr → Prop} {H1 H : Hp} (s : Since U H1 M1 H M) : Kp M1 H1 H := fun a o e => by
  rcases s.keep a o e with z | z
  · obtain ⟨m, vs, q⟩ := s.u a z
    rw [e] at q; cases q
    exact .inl ⟨m, vs, rfl⟩
  · exact .inr z
/-- the iterator J yields the items, as long as only lists of U are changed -/
structure Wk (K : PySem.W.Frag) (C : Cls0) (H1 : Hp) (M1 U : Addr → Prop) (J : It) (items : List D) : Prop where
  go : ∀ i H M, Since U H1 M1 H M → i < items.length → J.go i H
  stop : ∀ i H M, Since U H1 M1 H M → items.length ≤ i → J.stop i H
  yld : ∀ i H M x H', Since U H1 M1 H M → i < items.length → J.yld i H x H' → Same H H' ∧ ∃ d, items[i]? = some d ∧ Rp K C H' M x d
def tI (G : Gam) (K : PySem.W.Frag) (C : Cls0) (m : Bool) (c : E) : TI := fun σ H R => ∃ M U env, EnvOk K C H M U σ env ∧ (∀ b, U b → M b ∧ ∃ vs, H b = some (.lst vs)) ∧ (m = false → ∀ b, ¬ U b) ∧ wI G m c env fun items => ∀ J H', Same H H' → Wk K C H' M U J items → R J H'
/-- a source's value -/
def Sx (K : PySem.W.Frag) (C : Cls0) (H : Hp) (M U : Addr → Prop) (v : V) (d : D) : Prop := Rp K C H M v d ∨ ∃ a vs ds, v = .ref a ∧ d = .lst ds ∧ ¬ U a ∧ H a = some (.lst vs) ∧ RpA K C H M vs ds
theorem Sx.lst {K : PySem.W.Frag} {C : Cls0} {H : Hp} {M U : Addr → Prop} {v : V} {ds : List D} (um : ∀ b, U b → M b) (h : Sx K C H M U v (.lst ds)) : ∃ a vs, v = .ref a ∧ ¬ U a ∧ H a = some (.lst vs) ∧ RpA K C H M vs ds := by
  rcases h with h | ⟨a, vs, es, rfl, e, n, h1, h2⟩
  · cases h with
    | lst e n r => exact ⟨_, _, rfl, fun z => n (um _ z), e, r⟩
  · cases e
    exact ⟨a, vs, rfl, n, h1, h2⟩
section
variable {K : PySem.W.Frag} {C : Cls0} {H1 : Hp} {M1 U : Addr → Prop}
theorem wk_list {a : Addr} {vs : List V} {ds : List D} (na : ¬ U a) (e : H1 a = some (.lst vs)) (r : RpA K C H1 M1 vs ds) : Wk K C H1 M1 U (Itl K a) ds := by
  have st : ∀ {H M}, Since U H1 M1 H M → H a = some (.lst vs) := fun s => (s.keep a _ e).resolve_left na
  refine ⟨fun i H M s hi => ?_, fun i H M s hi => ⟨vs, SqL.of (st s), by rw [r.length]; exact hi⟩, fun i H M x H' s hi y => ?_⟩
  · have hv : i < vs.length := by rw [r.length]; exact hi
    exact ⟨vs, vs[i], SqL.of (st s), List.getElem?_eq_getElem hv⟩
  · obtain ⟨rfl, y⟩ := y
    obtain ⟨d, e1, r1⟩ := r.get' (y _ (SqL.of (st s)))
    exact ⟨Same.refl _, d, e1, r1.kp s.kp s.lt⟩
theorem wk_tup {a : Addr} {vs : List V} {ds : List D} (e : SqT K H1 a vs) (r : RpA K C H1 M1 vs ds) : Wk K C H1 M1 U (Itt K a) ds := by
  have st : ∀ {H M}, Since U H1 M1 H M → SqT K H a vs := fun s => SqT.kp s.kp e
  refine ⟨fun i H M s hi => ?_, fun i H M s hi => ⟨vs, st s, by rw [r.length]; exact hi⟩, fun i H M x H' s hi y => ?_⟩
  · have hv : i < vs.length := by rw [r.length]; exact hi
    exact ⟨vs, vs[i], st s, List.getElem?_eq_getElem hv⟩
  · obtain ⟨rfl, y⟩ := y
    obtain ⟨d, e1, r1⟩ := r.get' (y _ (st s))
    exact ⟨Same.refl _, d, e1, r1.kp s.kp s.lt⟩
theorem wk_scr {a : Addr} {ns : List Int} (e : ScR K H1 a (ns.map V.int)) : Wk K C H1 M1 U (Itl K a) (ns.map D.int) := by
  have st : ∀ {H M}, Since U H1 M1 H M → SqL K H a (ns.map V.int) := fun {H M} s => by
    rcases e with ⟨o, e⟩ | e
    · rcases s.kp a _ e with ⟨_, w, z⟩ | z
      · cases z
      · exact .inl (.inr ⟨o, z⟩)
    · exact .inr e
  refine ⟨fun i H M s hi => ?_, fun i H M s hi => ⟨_, st s, by simpa using hi⟩, fun i H M x H' s hi y => ?_⟩
  · have hv : i < (ns.map V.int).length := by simpa using hi
    exact ⟨_, (ns.map V.int)[i], st s, List.getElem?_eq_getElem hv⟩
  · obtain ⟨rfl, y⟩ := y
    have z := y _ (st s)
    rw [List.getElem?_map] at z
    cases q : ns[i]? with
    | none => rw [q] at z; cases z
    | some n =>
      rw [q] at z; cases z
      exact ⟨Same.refl _, .int n, by rw [List.getElem?_map, q]; rfl, .int n⟩
theorem wk_rng {lo : Int} {n : Nat} : Wk K C H1 M1 U (Itr lo n) ((List.range n).map fun (i : Nat) => D.int (lo + i)) := by
  refine ⟨fun i H M s hi => (show i < n by simpa using hi), fun i H M s hi => (show n ≤ i by simpa using hi), fun i H M x H' s hi y => ?_⟩
  obtain ⟨rfl, rfl⟩ := y
  have hi : i < n := by simpa using hi
  exact ⟨Same.refl _, .int (lo + i), by simp [hi], .int _⟩
end
end VL
/-! VL7: the text of an expression keeps its plain reading. -/
namespace VL
open PySem PySem.Spec PyProof.Rows L2
section
variable {N : List Str} {G : Gam} {C : Cls0} {k : Nat}

/-! ### targets -/
def gAll : List Nat → TGs
  | [] => gNil
  | i :: is => gCons (gName i) (gAll is)
def gT (K : PySem.W.Frag) : Tg → TG
  | .nm i => gName i
  | .tp is => gTup K is.length (gAll is)
def TgX (X : Cx) (x : Str) : Prop := Loc X.env.scope x ∧ (X.fn x = true ∨ X.env.scope.names.lookup x = some .local)
theorem all_zip {α β : Type} {p : α × β → Bool} : ∀ {as : List α} {bs : List β}, as.length = bs.length → (as.zip bs).all p = true → ∀ a as' , as = a :: as' → ∃ b bs', bs = b :: bs' ∧ p (a, b) = true ∧ (as'.zip bs').all p = true ∧ as'.length = bs'.length
  | a :: as, b :: bs, hl, h, _, _, e => by
    cases e
    rw [List.zip_cons_cons, List.all_cons, Bool.and_eq_true] at h
    exact ⟨b, bs, rfl, h.1, h.2, Nat.succ.inj hl⟩
  | _ :: _, [], hl, _, _, _, _ => by cases hl
  | [], _, _, _, _, _, e => by cases e
def tgB (N : List Str) (sc : Scope) (p : Expr × Nat) : Bool := match p.1 with
  | .Name x _ => decide (N[p.2]? = some x) && locB sc x
  | _ => false
theorem pgs_all {X : Cx} {sc : Scope} (hn : X.N = N) (hN : N.Nodup) (ht : ∀ x, locB sc x = true → TgX X x) : ∀ (es : List Expr) (is : List Nat), es.length = is.length → (es.zip is).all (tgB N sc) = true → PGs X es (gAll is) ∧ (assignEach es X.env).length = es.length ∧ (assignEach es X.env).findIdx? (·.1) = none
  | [], [], _, _ => ⟨pgs_nil, rfl, rfl⟩
  | e :: es, i :: is, hl, h => by
    rw [List.zip_cons_cons, List.all_cons, Bool.and_eq_true] at h
    obtain ⟨h1, h2⟩ := h
    obtain ⟨p1, p2, p3⟩ := pgs_all hn hN ht es is (Nat.succ.inj hl) h2
    cases e <;> try (cases h1; done)
    rename_i x p
    have h1 : (decide (N[i]? = some x) && locB sc x) = true := h1
    rw [Bool.and_eq_true] at h1
    obtain ⟨t1, t2⟩ := ht x h1.2
    refine ⟨pgs_cons (pg_name (by rw [hn]; exact hN) (by rw [hn]; exact of_decide_eq_true h1.1) t1 t2) p1, ?_, ?_⟩
    · show (assignEach es X.env).length + 1 = _
      rw [p2]; rfl
    · show ((false, assign (.Name x p) X.env) :: assignEach es X.env).findIdx? (·.1) = none
      rw [List.findIdx?_cons, p3]
      rfl
  | [], _ :: _, hl, _ => by cases hl
  | _ :: _, [], hl, _ => by cases hl
theorem pg_T {X : Cx} {sc : Scope} {own : List Nat → Bool} (hc : X.calm = true) (hn : X.N = N) (hN : N.Nodup) (ht : ∀ x, locB sc x = true → TgX X x) {tg : Tg} {e : Expr} (h : chkT N sc own tg e = true) : PG X e (gT X.K tg) := by
  cases tg with
  | nm i =>
    cases e <;> try (cases h; done)
    rename_i x p
    have h : (decide (N[i]? = some x) && locB sc x && own [i]) = true := h
    rw [Bool.and_eq_true, Bool.and_eq_true] at h
    obtain ⟨t1, t2⟩ := ht x h.1.2
    exact pg_name (by rw [hn]; exact hN) (by rw [hn]; exact of_decide_eq_true h.1.1) t1 t2
  | tp is =>
    cases e <;> try (cases h; done)
    rename_i es j p
    have h : (decide (es.length = is.length) && (es.zip is).all (tgB N sc) && own is) = true := h
    rw [Bool.and_eq_true, Bool.and_eq_true] at h
    have hl := of_decide_eq_true h.1.1
    obtain ⟨p1, p2, p3⟩ := pgs_all hn hN ht es is hl h.1.2
    exact pg_tup hc p1 (by rw [p2, hl]) p3
def tgIn (own : List Nat) : Tg → Prop
  | .nm i => i ∈ own
  | .tp is => ∀ i ∈ is, i ∈ own
theorem wipe_set {σ : L2.St} {v : Option V} {i : Nat} : ∀ {vs : List Nat}, i ∈ vs → wipe (σ.set i v) vs = wipe σ vs
  | [], h => by cases h
  | j :: vs, h => by
    unfold wipe
    by_cases hj : i ∈ vs
    · rw [wipe_set hj]
    · have e : i = j := by
        rcases List.mem_cons.mp h with e | e
        · exact e
        · exact (hj e).elim
      subst e
      have : ∀ {us : List Nat}, i ∉ us → wipe (σ.set i v) us = (wipe σ us).set i v := fun {us} hu => by
        induction us with
        | nil => rfl
        | cons u us ih =>
          unfold wipe
          rw [ih fun z => hu (List.mem_cons_of_mem _ z), List.set_comm]
          exact fun z => hu (by rw [z]; exact List.mem_cons_self)
      rw [this hj, List.set_set]
theorem gAll_read {K : PySem.W.Frag} {H : Hp} {M U : Addr → Prop} {Q : L2.St → Hp → Prop} : ∀ {is : List Nat} {ds : List D} {vs : List V} {env env1 : Env} {σ : L2.St}, setAll is ds env = some env1 → EnvOk K C H M U σ env → RpA K C H M vs ds →
    (∀ σ1, EnvOk K C H M U σ1 env1 → (∀ own : List Nat, (∀ i ∈ is, i ∈ own) → wipe σ1 own = wipe σ own) → Q σ1 H) → gAll is vs σ H Q
  | [], [], _, env, env1, σ, e, he, r, q => by
    cases r; cases e
    exact ⟨rfl, q σ he fun _ _ => rfl⟩
  | i :: is, d :: ds, _, env, env1, σ, e, he, r, q => by
    cases r with
    | cons r1 r2 =>
      refine ⟨_, _, rfl, gAll_read e (he.set (i := i) (s := .sh d) ⟨_, rfl, r1⟩) r2 fun σ1 h1 h2 => q σ1 h1 fun own ho => ?_⟩
      rw [h2 own fun j hj => ho j (List.mem_cons_of_mem _ hj)]
      exact wipe_set (ho i List.mem_cons_self)
  | [], _ :: _, _, _, _, _, e, _, _, _ => by cases e
  | _ :: _, [], _, _, _, _, e, _, _, _ => by cases e
theorem gT_read {K : PySem.W.Frag} {H : Hp} {M U : Addr → Prop} {Q : L2.St → Hp → Prop} {tg : Tg} {d : D} {x : V} {env env1 : Env} {σ : L2.St} (e : bindT tg d env = some env1) (he : EnvOk K C H M U σ env) (r : Rp K C H M x d)
    (q : ∀ σ1, EnvOk K C H M U σ1 env1 → (∀ own : List Nat, tgIn own tg → wipe σ1 own = wipe σ own) → Q σ1 H) : gT K tg x σ H Q := by
  cases tg with
  | nm i =>
    cases e
    exact q _ (he.set (s := .sh d) ⟨x, rfl, r⟩) fun own ho => wipe_set ho
  | tp is =>
    cases d <;> try (cases e; done)
    rename_i ds
    cases r with
    | tup es rs =>
      have hl : ∀ {is : List Nat} {ds : List D} {env env1 : Env}, setAll is ds env = some env1 → ds.length = is.length := fun {is} => by
        induction is with
        | nil => intro ds env env1 e; cases ds <;> first | rfl | cases e
        | cons i is ih =>
          intro ds env env1 e
          cases ds with
          | nil => cases e
          | cons d ds => exact congrArg Nat.succ (ih e)
      exact ⟨_, _, rfl, es, by rw [rs.length, hl e], gAll_read e he rs q⟩
end

/-! ### tests -/
def okT : Expr → Bool
  | .BinOp .. => true
  | .ListComp .. => true
  | .Call .. => true
  | .Constant .. => true
  | .Subscript .. => true
  | .Name .. => true
  | .List .. => true
  | .Tuple .. => true
  | .UnaryOp .USub _ _ => true
  | _ => false
theorem isT_of {e : Expr} {env : PySem.Env} (h : okT e = true) : ∀ whole, isTrue e env whole = (do let v ← whole; standAt e.pos; holding [v] (truthy v)) := by
  cases e with
  | UnaryOp o a p => cases o <;> first | (intro _; rfl) | cases h
  | _ => first | (intro _; rfl) | cases h
/-- may stand as a test -/
def tOk : E → Bool
  | .ife _ _ _ => false
  | .and a b => tOk a && tOk b
  | .or a b => tOk a && tOk b
  | .not a => tOk a
  | _ => true
structure Snd (N : List Str) (G : Gam) (C : Cls0) (k : Nat) (c : E) : Prop where
  e : ∀ (X : Cx) (e : Expr), Gd N G C k X → chkE N c X.env.scope e = true → PE X e (tE G X.K C c)
  t : ∀ (X : Cx) (e : Expr), Gd N G C k X → tOk c = true → chkE N c X.env.scope e = true → PT X e (tT G X.K C c)
  o : ∀ (X : Cx) (e : Option Expr), Gd N G C k X → chkO N c X.env.scope e = true → PO X e (tO G X.K C c)
  a : ∀ (X : Cx) (es : List Expr), Gd N G C k X → chkA N c X.env.scope es = true → PA X es (tA G X.K C c)
  i : ∀ (m : Bool) (X : Cx) (tg e : Expr), Gd N G C k X → okSh e = true → chkI N c X.env.scope e = true → PI X tg e (tI G X.K C m c)
section
variable {N : List Str} {G : Gam} {C : Cls0} {k : Nat} {X : Cx}
theorem tT_of {c : E} {e : Expr} (h : PE X e (tE G X.K C c)) (he : okT e = true) : PT X e (tT G X.K C c) := by
  refine PT.imp (pt_val h (isT_of he)) fun σ H Q ⟨M, U, env, ok, w⟩ => ⟨M, U, env, ok, wE_mono c env _ _ (fun k d z v H' s r => ?_) w⟩
  obtain ⟨b, rfl, q⟩ := z
  exact ⟨b, r.b1.bl, q H' s⟩
/-- two expressions, one behind the other -/
theorem two {a b : E} {K : PySem.W.Frag} {σ : L2.St} {H : Hp} {M U : Addr → Prop} {env : Env} {R : V → V → Hp → Prop} {P : D → D → Prop} (ok : EnvOk K C H M U σ env) (w : wE G a env fun _ x => wE G b env fun _ y => P x y)
    (h : ∀ x y d1 d2 H', Same H H' → EnvOk K C H' M U σ env → Rb K C H' M x d1 → Rb K C H' M y d2 → P d1 d2 → R x y H') : tE G K C a σ H fun x H1 => tE G K C b σ H1 fun y H2 => R x y H2 :=
  ⟨M, U, env, ok, wE_mono a env _ _ (fun k1 d1 z1 x H1 s1 r1 => ⟨M, U, env, ok.same s1, wE_mono b env _ _ (fun k2 d2 z2 y H2 s2 r2 => h x y d1 d2 H2 (s1.trans s2) ((ok.same s1).same s2) (r1.b1.same s2) r2.b1 z2) z1⟩) w⟩
theorem Rk.back {K : PySem.W.Frag} {H0 H H' : Hp} {M : Addr → Prop} {kd : Kd} {v : V} {d : D} (s : Same H0 H) (h : Rk K C H H' M kd v d) : Rk K C H0 H' M kd v d := by
  cases kd with
  | nw =>
    obtain ⟨a, vs, ds, e1, e2, e3, r⟩ := h
    exact ⟨a, vs, ds, e1, e2, s.free e3, r⟩
  | fr => exact h
  | b1 => exact h
theorem one {a : E} {K : PySem.W.Frag} {σ : L2.St} {H : Hp} {M U : Addr → Prop} {env : Env} {R : V → Hp → Prop} {P : Kd → D → Prop} (ok : EnvOk K C H M U σ env) (w : wE G a env P)
    (h : ∀ kd x d H', Same H H' → EnvOk K C H' M U σ env → Rk K C H H' M kd x d → P kd d → R x H') : tE G K C a σ H R :=
  ⟨M, U, env, ok, wE_mono a env _ _ (fun k1 d1 z1 x H1 s1 r1 => h k1 x d1 H1 s1 (ok.same s1) r1 z1) w⟩
theorem args {a : E} {K : PySem.W.Frag} {σ : L2.St} {H : Hp} {M U : Addr → Prop} {env : Env} {R : List V → Hp → Prop} {P : List (Kd × D) → Prop} (ok : EnvOk K C H M U σ env) (w : wA G a env P)
    (h : ∀ vs xs H', Same H H' → EnvOk K C H' M U σ env → RkA K C H' M vs xs → P xs → R vs H') : tA G K C a σ H R :=
  ⟨M, U, env, ok, wA_mono a env _ _ (fun xs z vs H1 s1 r1 => h vs xs H1 s1 (ok.same s1) r1 z) w⟩
/-- nothing but an expression -/
theorem Snd.ofE {c : E} (e : ∀ (X : Cx) (e : Expr), Gd N G C k X → chkE N c X.env.scope e = true → PE X e (tE G X.K C c)) (t : ∀ (X : Cx) (e : Expr), Gd N G C k X → tOk c = true → chkE N c X.env.scope e = true → PT X e (tT G X.K C c))
    (o : ∀ sc e, chkO N c sc e = false := by intros; rfl) (a : ∀ sc e, chkA N c sc e = false := by intros; rfl) (i : ∀ sc e, chkI N c sc e = false := by intros; rfl) : Snd N G C k c :=
  ⟨e, t, fun X x _ h => absurd h (by rw [o]; decide), fun X x _ h => absurd h (by rw [a]; decide), fun m X tg x _ _ h => absurd h (by rw [i]; decide)⟩
theorem and3 {a b c : Bool} (h : (a && b && c) = true) : a = true ∧ b = true ∧ c = true := by
  rw [Bool.and_eq_true, Bool.and_eq_true] at h
  exact ⟨h.1.1, h.1.2, h.2⟩
theorem s_v (i : Nat) : Snd N G C k (.v i) := by
  have key : ∀ (X : Cx) (e : Expr), Gd N G C k X → chkE N (.v i) X.env.scope e = true → PE X e (tE G X.K C (.v i)) ∧ okT e = true := fun X e g h => by
    unfold chkE at h
    split at h
    · rename_i x ev
      obtain ⟨p, rfl⟩ := vw_name ev
      obtain ⟨h1, h2, h3⟩ := and3 h
      refine ⟨PE.imp (pe_var (by rw [g.nm]; exact of_decide_eq_true h1) (vis_of h2) (nm_of h3).1 (nm_of h3).2) fun σ H Q ⟨M, U, env, ok, w⟩ => ?_, rfl⟩
      obtain ⟨x, kd, d, e1, r, q⟩ := sl_v ok w
      exact ⟨x, e1, q x H (Same.refl H) r⟩
    · cases h
  exact .ofE (fun X e g h => (key X e g h).1) fun X e g _ h => tT_of (key X e g h).1 (key X e g h).2
theorem s_k (d : D) : Snd N G C k (.k d) := by
  have key : ∀ (X : Cx) (e : Expr), Gd N G C k X → chkE N (.k d) X.env.scope e = true → PE X e (tE G X.K C (.k d)) ∧ okT e = true := fun X e g h => by
    unfold chkE at h
    split at h
    · rename_i x ev
      obtain ⟨j, p, rfl⟩ := vw_con ev
      refine ⟨?_, rfl⟩
      cases d <;> cases x <;> try (cases h; done)
      · exact PE.imp pe_non fun σ H Q ⟨M, U, env, ok, w⟩ => w _ H (Same.refl H) .non
      · rename_i b b'
        have e : b = b' := eq_of_beq h
        subst e
        exact PE.imp pe_bl fun σ H Q ⟨M, U, env, ok, w⟩ => w _ H (Same.refl H) (.bl _)
      · rename_i b b'
        have e : b = b' := of_decide_eq_true h
        subst e
        exact PE.imp pe_int fun σ H Q ⟨M, U, env, ok, w⟩ => w _ H (Same.refl H) (.int _)
      · rename_i b b'
        have e : b = b' := of_decide_eq_true h
        subst e
        exact PE.imp pe_str fun σ H Q ⟨M, U, env, ok, w⟩ => w _ H (Same.refl H) (.str _)
    · cases h
  exact .ofE (fun X e g h => (key X e g h).1) fun X e g _ h => tT_of (key X e g h).1 (key X e g h).2
theorem s_gk (x : Str) : Snd N G C k (.gk x) := by
  have key : ∀ (X : Cx) (e : Expr), Gd N G C k X → chkE N (.gk x) X.env.scope e = true → PE X e (tE G X.K C (.gk x)) ∧ okT e = true := fun X e g h => by
    unfold chkE at h
    split at h
    · rename_i y ev
      obtain ⟨p, rfl⟩ := vw_name ev
      obtain ⟨h1, h2, h3⟩ := and3 h
      have e := of_decide_eq_true h1
      subst e
      refine ⟨?_, rfl⟩
      cases ec : G.cst x with
      | none => exact PE.imp (t := fun _ _ _ => False) ⟨fun _ _ _ _ _ _ z => z.elim⟩ fun σ H Q ⟨M, U, env, ok, w⟩ => by unfold wE at w; rw [ec] at w; exact w
      | some d =>
        obtain ⟨u, v, hm, rv, rp⟩ := g.cst x d ec
        refine PE.imp (pe_glob (glb_of h2) hm rv (nm_of h3).1) fun σ H Q ⟨M, U, env, ok, w⟩ => ?_
        unfold wE at w
        rw [ec] at w
        exact w _ H (Same.refl H) (rp H M)
    · cases h
  exact .ofE (fun X e g h => (key X e g h).1) fun X e g _ h => tT_of (key X e g h).1 (key X e g h).2
theorem s_op (o : Operator) {a b : E} (sa : Snd N G C k a) (sb : Snd N G C k b) : Snd N G C k (.op o a b) := by
  have key : ∀ (X : Cx) (e : Expr), Gd N G C k X → chkE N (.op o a b) X.env.scope e = true → PE X e (tE G X.K C (.op o a b)) ∧ okT e = true := fun X e g h => by
    unfold chkE at h
    split at h
    · rename_i o' x y ev
      obtain ⟨p, rfl⟩ := vw_bin ev
      obtain ⟨h1, h2, h3⟩ := and3 h
      have e := of_decide_eq_true h1
      subst e
      refine ⟨PE.imp (pe_op (op_D (C := C) o) (sa.e X x g h2) (sb.e X y g h3)) fun σ H Q ⟨M, U, env, ok, w⟩ => ?_, rfl⟩
      unfold wE at w
      refine two ok w fun x y d1 d2 H' s ok' r1 r2 z => ?_
      cases eo : opD o d1 d2 with
      | none => rw [eo] at z; exact z.elim
      | some r =>
        obtain ⟨kd, d⟩ := r
        rw [eo] at z
        exact ⟨M, d1, d2, kd, d, ok'.dom, r1, r2, eo, fun v H2 s2 r => z v H2 (s.trans s2) (Rk.back s r)⟩
    · cases h
  exact .ofE (fun X e g h => (key X e g h).1) fun X e g _ h => tT_of (key X e g h).1 (key X e g h).2
theorem s_neg {a : E} (sa : Snd N G C k a) : Snd N G C k (.neg a) := by
  have key : ∀ (X : Cx) (e : Expr), Gd N G C k X → chkE N (.neg a) X.env.scope e = true → PE X e (tE G X.K C (.neg a)) ∧ okT e = true := fun X e g h => by
    unfold chkE at h
    split at h
    · rename_i x ev
      obtain ⟨p, rfl⟩ := vw_neg ev
      refine ⟨PE.imp (pe_un (neg_D (C := C)) (sa.e X x g h)) fun σ H Q ⟨M, U, env, ok, w⟩ => ?_, rfl⟩
      unfold wE at w
      refine one ok w fun kd x d H' s ok' r z => ?_
      cases d <;> try (exact z.elim)
      exact ⟨_, r.b1.int, z _ H' s (.int _)⟩
    · cases h
  exact .ofE (fun X e g h => (key X e g h).1) fun X e g _ h => tT_of (key X e g h).1 (key X e g h).2
theorem s_cmp (o : CmpOp) {a b : E} (sa : Snd N G C k a) (sb : Snd N G C k b) : Snd N G C k (.cmp o a b) := by
  have key : ∀ (X : Cx) (e : Expr), Gd N G C k X → chkE N (.cmp o a b) X.env.scope e = true → PE X e (tE G X.K C (.cmp o a b)) ∧ PT X e (tT G X.K C (.cmp o a b)) := fun X e g h => by
    unfold chkE at h
    split at h
    · rename_i o' x y ev
      obtain ⟨p, rfl⟩ := vw_cmp ev
      rw [Bool.and_eq_true] at h
      obtain ⟨h, h3⟩ := h
      obtain ⟨h1, h0, h2⟩ := and3 h
      have e := of_decide_eq_true h1
      subst e
      refine ⟨PE.imp (pe_cmpR (cmp_D (C := C) g.units o) (sa.e X x g h2) (sb.e X y g h3) (nb_of o h0)) fun σ H Q ⟨M, U, env, ok, w⟩ => ?_, PT.imp (pt_cmpR (cmp_D (C := C) g.units o) (sa.e X x g h2) (sb.e X y g h3) (nb_of o h0)) fun σ H Q ⟨M, U, env, ok, w⟩ => ?_⟩
      · unfold wE at w
        refine two ok w fun x y d1 d2 H' s ok' r1 r2 z => ?_
        cases eo : cmpD o d1 d2 with
        | none => rw [eo] at z; exact z.elim
        | some r =>
          rw [eo] at z
          exact ⟨M, d1, d2, r, ok'.dom, r1, r2, eo, z _ H' s (.bl _)⟩
      · unfold wE at w
        refine two ok w fun x y d1 d2 H' s ok' r1 r2 z => ?_
        cases eo : cmpD o d1 d2 with
        | none => rw [eo] at z; exact z.elim
        | some r =>
          rw [eo] at z
          obtain ⟨r', er, z⟩ := z
          cases er
          exact ⟨M, d1, d2, r, ok'.dom, r1, r2, eo, r, rfl, z H' s⟩
    · cases h
  exact .ofE (fun X e g h => (key X e g h).1) fun X e g _ h => (key X e g h).2
theorem s_chn (o p : CmpOp) {a b c : E} (sa : Snd N G C k a) (sb : Snd N G C k b) (sc : Snd N G C k c) : Snd N G C k (.chn o p a b c) := by
  have rd : ∀ {X : Cx} {σ : L2.St} {H : Hp} {Q : VK}, tE G X.K C (.chn o p a b c) σ H Q → tChain (rC X.K C (cmpD o)) (rC X.K C (cmpD p)) (tE G X.K C a) (tE G X.K C b) (tE G X.K C c) σ H Q := fun {X σ H Q} ⟨M, U, env, ok, w⟩ => by
    unfold wE at w
    refine two ok w fun x y d1 d2 H' s ok' r1 r2 z => ?_
    cases eo : cmpD o d1 d2 with
    | none => rw [eo] at z; exact z.elim
    | some r =>
      rw [eo] at z
      refine ⟨M, d1, d2, r, ok'.dom, r1, r2, eo, r, rfl, ?_⟩
      cases r with
      | false => exact iteF (z _ H' s (.bl _))
      | true =>
        refine iteT (one ok' z fun kd u d H2 s2 ok2 r3 z => ?_)
        cases ep : cmpD p d2 d with
        | none => rw [ep] at z; exact z.elim
        | some r =>
          rw [ep] at z
          exact ⟨M, d2, d, r, ok2.dom, r2.same s2, r3.b1, ep, z _ H2 (s.trans s2) (.bl _)⟩
  have rt : ∀ {X : Cx} {σ : L2.St} {H : Hp} {Q : Bool → Hp → Prop}, tT G X.K C (.chn o p a b c) σ H Q → tE G X.K C (.chn o p a b c) σ H fun v H' => ∃ r, v = .bl r ∧ Q r H' := fun {X σ H Q} ⟨M, U, env, ok, w⟩ =>
    ⟨M, U, env, ok, wE_mono _ env _ _ (fun k d z v H' s r => by
      obtain ⟨b, rfl, q⟩ := z
      exact ⟨b, r.b1.bl, q H' s⟩) w⟩
  have key : ∀ (X : Cx) (e : Expr), Gd N G C k X → chkE N (.chn o p a b c) X.env.scope e = true → PE X e (tE G X.K C (.chn o p a b c)) ∧ PT X e (tT G X.K C (.chn o p a b c)) := fun X e g h => by
    unfold chkE at h
    split at h
    · rename_i o' p' x y z ev
      obtain ⟨q, rfl⟩ := vw_chn ev
      simp only [Bool.and_eq_true] at h
      obtain ⟨⟨⟨⟨⟨⟨h1, h2⟩, h3⟩, h4⟩, h5⟩, h6⟩, h7⟩ := h
      have e := of_decide_eq_true h1
      subst e
      have e := of_decide_eq_true h2
      subst e
      refine ⟨?_, ?_⟩
      · refine PE.imp (pe_chain (cmp_D (C := C) g.units o) (cmp_D (C := C) g.units p) (sa.e X x g h5) (sb.e X y g h6) (sc.e X z g h7) (nb_of _ h4)) fun σ H Q w => rd w
      · refine PT.imp (pt_chain (cmp_D (C := C) g.units o) (cmp_D (C := C) g.units p) (sa.e X x g h5) (sb.e X y g h6) (sc.e X z g h7) (nb_of _ h4)) fun σ H Q w => rd (rt w)
    · cases h
  exact .ofE (fun X e g h => (key X e g h).1) fun X e g _ h => (key X e g h).2
theorem PW.of {e : Expr} {t : TT} {op : PySem.BoolOp} {xs : List Expr} {p : Pos} (he : e = .BoolOp op xs p) (h : PT X e t) : PW X e t := by
  subst he
  exact ⟨fun whole pins s σ H Q I q => h.run pins s σ H Q I q⟩
theorem s_and {a b : E} (sa : Snd N G C k a) (sb : Snd N G C k b) : Snd N G C k (.and a b) := by
  refine .ofE (fun X e g h => ?_) fun X e g ht h => ?_
  · unfold chkE at h
    split at h
    · rename_i x y r p ev
      have ev := vw_bol ev
      subst ev
      rw [Bool.and_eq_true] at h
      have hb : PE X (.BoolOp .And (y :: r) p) (tE G X.K C b) := by
        cases r with
        | nil => exact pe_one (sb.e X _ g h.2)
        | cons z r => exact sb.e X _ g h.2
      refine PE.imp (pe_and (sa.e X x g h.1) hb) fun σ H Q ⟨M, U, env, ok, w⟩ => ?_
      unfold wE at w
      refine one ok w fun kd x d H' s ok' r z => ?_
      cases d <;> try (exact z.elim)
      rename_i q
      refine ⟨q, r.b1.bl, ?_⟩
      cases q with
      | true => exact iteT (one ok' z fun kd y d H2 s2 ok2 r2 z => z _ H2 (s.trans s2) (Rk.back s r2))
      | false => exact iteF (z _ H' s (.bl _))
    · cases h
  · unfold tOk at ht
    rw [Bool.and_eq_true] at ht
    unfold chkE at h
    split at h
    · rename_i x y r p ev
      have ev := vw_bol ev
      subst ev
      rw [Bool.and_eq_true] at h
      have hb : PW X (.BoolOp .And (y :: r) p) (tT G X.K C b) := by
        cases r with
        | nil => exact pw_and1 (sb.t X _ g ht.2 h.2)
        | cons z r => exact PW.of rfl (sb.t X _ g ht.2 h.2)
      refine PT.imp (PW.pt (pw_and (sa.t X x g ht.1 h.1) hb)) fun σ H Q ⟨M, U, env, ok, w⟩ => ?_
      unfold wE at w
      refine ⟨M, U, env, ok, wE_mono a env _ _ (fun kd d z => ?_) w⟩
      cases d <;> try (exact z.elim)
      rename_i q
      refine ⟨q, rfl, fun H' s => ?_⟩
      cases q with
      | true => exact iteT ⟨M, U, env, ok.same s, wE_mono b env _ _ (fun kd d z => by obtain ⟨r, er, z⟩ := z; exact ⟨r, er, fun H2 s2 => z H2 (s.trans s2)⟩) z⟩
      | false =>
        obtain ⟨r, er, z⟩ := z
        cases er
        exact iteF (z H' s)
    · cases h
theorem s_or {a b : E} (sa : Snd N G C k a) (sb : Snd N G C k b) : Snd N G C k (.or a b) := by
  refine .ofE (fun X e g h => ?_) fun X e g ht h => ?_
  · unfold chkE at h
    split at h
    · rename_i x y r p ev
      have ev := vw_bol ev
      subst ev
      rw [Bool.and_eq_true] at h
      have hb : PE X (.BoolOp .Or (y :: r) p) (tE G X.K C b) := by
        cases r with
        | nil => exact pe_one (sb.e X _ g h.2)
        | cons z r => exact sb.e X _ g h.2
      refine PE.imp (pe_or (sa.e X x g h.1) hb) fun σ H Q ⟨M, U, env, ok, w⟩ => ?_
      unfold wE at w
      refine one ok w fun kd x d H' s ok' r z => ?_
      cases d <;> try (exact z.elim)
      rename_i q
      refine ⟨q, r.b1.bl, ?_⟩
      cases q with
      | false => exact iteF (one ok' z fun kd y d H2 s2 ok2 r2 z => z _ H2 (s.trans s2) (Rk.back s r2))
      | true => exact iteT (z _ H' s (.bl _))
    · cases h
  · unfold tOk at ht
    rw [Bool.and_eq_true] at ht
    unfold chkE at h
    split at h
    · rename_i x y r p ev
      have ev := vw_bol ev
      subst ev
      rw [Bool.and_eq_true] at h
      have hb : PW X (.BoolOp .Or (y :: r) p) (tT G X.K C b) := by
        cases r with
        | nil => exact pw_or1 (sb.t X _ g ht.2 h.2)
        | cons z r => exact PW.of rfl (sb.t X _ g ht.2 h.2)
      refine PT.imp (PW.pt (pw_or (sa.t X x g ht.1 h.1) hb)) fun σ H Q ⟨M, U, env, ok, w⟩ => ?_
      unfold wE at w
      refine ⟨M, U, env, ok, wE_mono a env _ _ (fun kd d z => ?_) w⟩
      cases d <;> try (exact z.elim)
      rename_i q
      refine ⟨q, rfl, fun H' s => ?_⟩
      cases q with
      | false => exact iteF ⟨M, U, env, ok.same s, wE_mono b env _ _ (fun kd d z => by obtain ⟨r, er, z⟩ := z; exact ⟨r, er, fun H2 s2 => z H2 (s.trans s2)⟩) z⟩
      | true =>
        obtain ⟨r, er, z⟩ := z
        cases er
        exact iteT (z H' s)
    · cases h
theorem s_not {a : E} (sa : Snd N G C k a) : Snd N G C k (.not a) := by
  refine .ofE (fun X e g h => ?_) fun X e g ht h => ?_
  · unfold chkE at h
    split at h
    · rename_i x ev
      obtain ⟨p, rfl⟩ := vw_nt ev
      refine PE.imp (pe_not (sa.e X x g h)) fun σ H Q ⟨M, U, env, ok, w⟩ => ?_
      unfold wE at w
      refine one ok w fun kd x d H' s ok' r z => ?_
      cases d <;> try (exact z.elim)
      exact ⟨_, r.b1.bl, z _ H' s (.bl _)⟩
    · cases h
  · unfold tOk at ht
    unfold chkE at h
    split at h
    · rename_i x ev
      obtain ⟨p, rfl⟩ := vw_nt ev
      refine PT.imp (pt_not (sa.t X x g ht h)) fun σ H Q ⟨M, U, env, ok, w⟩ => ?_
      unfold wE at w
      refine ⟨M, U, env, ok, wE_mono a env _ _ (fun kd d z => ?_) w⟩
      cases d <;> try (exact z.elim)
      obtain ⟨r, er, z⟩ := z
      cases er
      exact ⟨_, rfl, z⟩
    · cases h
theorem s_ife {t a b : E} (st : Snd N G C k t) (sa : Snd N G C k a) (sb : Snd N G C k b) (ht : tOk t = true) : Snd N G C k (.ife t a b) := by
  refine .ofE (fun X e g h => ?_) fun X e g ht h => by cases ht
  unfold chkE at h
  split at h
  · rename_i u x y ev
    obtain ⟨p, rfl⟩ := vw_ife ev
    obtain ⟨h1, h2, h3⟩ := and3 h
    refine PE.imp (pe_ifExp (st.t X u g ht h1) (sa.e X x g h2) (sb.e X y g h3)) fun σ H Q ⟨M, U, env, ok, w⟩ => ?_
    unfold wE at w
    refine ⟨M, U, env, ok, wE_mono t env _ _ (fun kd d z => ?_) w⟩
    cases d <;> try (exact z.elim)
    rename_i q
    refine ⟨q, rfl, fun H' s => ?_⟩
    cases q with
    | true => exact iteT (one (ok.same s) z fun kd y d H2 s2 ok2 r2 z => z.2 _ H2 (s.trans s2) (r2.fr z.1))
    | false => exact iteF (one (ok.same s) z fun kd y d H2 s2 ok2 r2 z => z.2 _ H2 (s.trans s2) (r2.fr z.1))
  · cases h
theorem s_ix {a b : E} (sa : Snd N G C k a) (sb : Snd N G C k b) : Snd N G C k (.ix a b) := by
  have key : ∀ (X : Cx) (e : Expr), Gd N G C k X → chkE N (.ix a b) X.env.scope e = true → PE X e (tE G X.K C (.ix a b)) ∧ okT e = true := fun X e g h => by
    unfold chkE at h
    split at h
    · rename_i x y ev
      obtain ⟨p, rfl⟩ := vw_ix ev
      obtain ⟨h1, h2, h3⟩ := and3 h
      refine ⟨PE.imp (pe_ix (ix_D (C := C)) (sa.e X x g h2) (sb.e X y g h3) (ix_of h1)) fun σ H Q ⟨M, U, env, ok, w⟩ => ?_, rfl⟩
      unfold wE at w
      refine two ok w fun x y d1 d2 H' s ok' r1 r2 z => ?_
      cases eo : ixD d1 d2 with
      | none => rw [eo] at z; exact z.elim
      | some d =>
        rw [eo] at z
        exact ⟨M, d1, d2, d, ok'.dom, r1, r2, eo, fun v r => z v H' s r⟩
    · cases h
  exact .ofE (fun X e g h => (key X e g h).1) fun X e g _ h => tT_of (key X e g h).1 (key X e g h).2
theorem s_sl {a lo hi : E} (sa : Snd N G C k a) (sl : Snd N G C k lo) (sh : Snd N G C k hi) : Snd N G C k (.sl a lo hi) := by
  have key : ∀ (X : Cx) (e : Expr), Gd N G C k X → chkE N (.sl a lo hi) X.env.scope e = true → PE X e (tE G X.K C (.sl a lo hi)) ∧ okT e = true := fun X e g h => by
    unfold chkE at h
    split at h
    · rename_i x l u ev
      obtain ⟨p, q, rfl⟩ := vw_sl ev
      obtain ⟨h1, h2, h3⟩ := and3 h
      refine ⟨PE.imp (pe_slice (sl_D (C := C)) (sa.e X x g h1) (sl.o X l g h2) (sh.o X u g h3)) fun σ H Q ⟨M, U, env, ok, w⟩ => ?_, rfl⟩
      unfold wE at w
      refine one ok w fun kd x d1 H1 s1 ok1 r1 z => ⟨M, U, env, ok1, wO_mono lo env _ _ (fun l z H2 s2 => ⟨M, U, env, ok1.same s2, wO_mono hi env _ _ (fun u z H3 s3 => ?_) z⟩) z⟩
      cases eo : slD d1 l u with
      | none => rw [eo] at z; exact z.elim
      | some r =>
        obtain ⟨kd, d⟩ := r
        rw [eo] at z
        exact ⟨M, d1, kd, d, ((ok1.same s2).same s3).dom, (r1.b1.same s2).same s3, eo, fun v H4 s4 r => z v H4 (((s1.trans s2).trans s3).trans s4) (Rk.back ((s1.trans s2).trans s3) r)⟩
    · cases h
  exact .ofE (fun X e g h => (key X e g h).1) fun X e g _ h => tT_of (key X e g h).1 (key X e g h).2
theorem s_no : Snd N G C k .no := by
  refine ⟨fun X e g h => ?_, fun X e g _ h => ?_, fun X e g h => ?_, fun X e g h => ?_, fun m X tg e g _ h => ?_⟩
  · unfold chkE at h; cases h
  · unfold chkE at h; cases h
  · unfold chkO at h
    have e0 : e = none := Option.isNone_iff_eq_none.mp h
    subst e0
    refine PO.imp po_none fun σ H Q ⟨M, U, env, ok, w⟩ => ?_
    unfold wO at w
    exact w H (Same.refl H)
  · unfold chkA at h; cases h
  · unfold chkI at h; cases h
theorem s_so {a : E} (sa : Snd N G C k a) : Snd N G C k (.so a) := by
  refine ⟨fun X e g h => ?_, fun X e g _ h => ?_, fun X e g h => ?_, fun X e g h => ?_, fun m X tg e g _ h => ?_⟩
  · unfold chkE at h; cases h
  · unfold chkE at h; cases h
  · unfold chkO at h
    split at h
    · rename_i x
      refine PO.imp (po_some (sa.e X _ g h)) fun σ H Q ⟨M, U, env, ok, w⟩ => ?_
      unfold wO at w
      refine one ok w fun kd x d H1 s1 ok1 r1 z => ?_
      cases d <;> try (exact z.elim)
      exact ⟨_, r1.b1.int, z H1 s1⟩
    · cases h
  · unfold chkA at h; cases h
  · unfold chkI at h; cases h
theorem s_nil : Snd N G C k .nil := by
  refine ⟨fun X e g h => ?_, fun X e g _ h => ?_, fun X e g h => ?_, fun X e g h => ?_, fun m X tg e g _ h => ?_⟩
  · unfold chkE at h; cases h
  · unfold chkE at h; cases h
  · unfold chkO at h; cases h
  · rw [chkA_nil h]
    refine PA.imp pa_nil fun σ H Q ⟨M, U, env, ok, w⟩ => ?_
    unfold wA at w
    exact w [] H (Same.refl H) trivial
  · unfold chkI at h; cases h
theorem s_cons {a as : E} (sa : Snd N G C k a) (ss : Snd N G C k as) : Snd N G C k (.cons a as) := by
  refine ⟨fun X e g h => ?_, fun X e g _ h => ?_, fun X e g h => ?_, fun X e g h => ?_, fun m X tg e g _ h => ?_⟩
  · unfold chkE at h; cases h
  · unfold chkE at h; cases h
  · unfold chkO at h; cases h
  · obtain ⟨x, xs, rfl, h1, h2, h3⟩ := chkA_cons h
    refine PA.imp (pa_cons (sa.e X x g h2) (ss.a X xs g h3) (star_of h1)) fun σ H Q ⟨M, U, env, ok, w⟩ => ?_
    unfold wA at w
    refine one ok w fun kd x d H1 s1 ok1 r1 z => args ok1 z fun vs xs H2 s2 ok2 r2 z => ?_
    exact z (x :: vs) H2 (s1.trans s2) ⟨⟨r1.b1.same s2, fun q => (r1.fr q).same s2⟩, r2⟩
  · unfold chkI at h; cases h
end
end VL
/-! VL8: displays, calls, comprehensions; what is walked; the whole of the expressions. -/
namespace VL
open PySem PySem.Spec PyProof.Rows L2
section
variable {N : List Str} {G : Gam} {C : Cls0} {k : Nat} {X : Cx}
theorem few {xs : List (Kd × D)} (h : (xs.all (·.1.frz) && decide (xs.length ≤ 1000)) = true) : xs.all (·.1.frz) = true ∧ xs.length ≤ sizeLine := by
  rw [Bool.and_eq_true] at h
  have := of_decide_eq_true h.2
  exact ⟨h.1, by rw [sizeLine_eq]; omega⟩
theorem noIns_of {d : D} (h : noIns d = true) : ∀ c fs, d ≠ .ins c fs := fun c fs e => by
  subst e
  cases h
theorem s_lst {es : E} (ss : Snd N G C k es) : Snd N G C k (.lst es) := by
  have key : ∀ (X : Cx) (e : Expr), Gd N G C k X → chkE N (.lst es) X.env.scope e = true → PE X e (tE G X.K C (.lst es)) ∧ okT e = true := fun X e g h => by
    unfold chkE at h
    split at h
    · rename_i xs ev
      obtain ⟨p, rfl⟩ := vw_lst ev
      refine ⟨PE.imp (pe_lst (ss.a X xs g h)) fun σ H Q ⟨M, U, env, ok, w⟩ => ?_, rfl⟩
      unfold wE at w
      refine args ok w fun vs xs H1 s1 ok1 r1 z => ⟨by rw [r1.len]; exact (few z.1).2, fun p hp => z.2 _ _ (s1.trans (same_upd hp)) ?_⟩
      exact Rk.back s1 (kd := .nw) (rn_new ok1.dom hp (r1.rpA (few z.1).1))
    · cases h
  exact .ofE (fun X e g h => (key X e g h).1) fun X e g _ h => tT_of (key X e g h).1 (key X e g h).2
theorem s_tup {es : E} (ss : Snd N G C k es) : Snd N G C k (.tup es) := by
  have key : ∀ (X : Cx) (e : Expr), Gd N G C k X → chkE N (.tup es) X.env.scope e = true → PE X e (tE G X.K C (.tup es)) ∧ okT e = true := fun X e g h => by
    unfold chkE at h
    split at h
    · rename_i xs ev
      obtain ⟨j, p, rfl⟩ := vw_tup ev
      refine ⟨PE.imp (pe_tup (ss.a X xs g h)) fun σ H Q ⟨M, U, env, ok, w⟩ => ?_, rfl⟩
      unfold wE at w
      refine args ok w fun vs xs H1 s1 ok1 r1 z => ⟨by rw [r1.len]; exact (few z.1).2, fun p hp => z.2 _ _ (s1.trans (same_upd hp)) ?_⟩
      exact rp_tup hp (r1.rpA (few z.1).1)
    · cases h
  exact .ofE (fun X e g h => (key X e g h).1) fun X e g _ h => tT_of (key X e g h).1 (key X e g h).2
theorem bf_name (f : BF) : f.nm ∈ bnames ∧ f.nm ≠ "__name__" ∧ (f.nm == ("__debug__" : Str)) = false := by
  cases f <;> decide
theorem cons_of {α : Type} {xs : List α} (h : (!xs.isEmpty) = true) : ∃ y ys, xs = y :: ys := by
  cases xs with
  | nil => cases h
  | cons y ys => exact ⟨y, ys, rfl⟩
theorem s_bf (f : BF) {es : E} (ss : Snd N G C k es) : Snd N G C k (.bf f es) := by
  have key : ∀ (X : Cx) (e : Expr), Gd N G C k X → chkE N (.bf f es) X.env.scope e = true → PE X e (tE G X.K C (.bf f es)) ∧ okT e = true := fun X e g h => by
    unfold chkE at h
    split at h
    · rename_i x xs ev
      obtain ⟨p, q, rfl⟩ := vw_cl ev
      rw [Bool.and_eq_true] at h
      obtain ⟨h, h4⟩ := h
      obtain ⟨h1, h2, h3⟩ := and3 h
      obtain ⟨y, ys, rfl⟩ := cons_of h3
      have e := of_decide_eq_true h1
      subst e
      have hsh := chkA_ok h4
      have hs := hsh
      rw [List.all_cons, Bool.and_eq_true] at hs
      obtain ⟨n1, n2, n3⟩ := bf_name f
      have rd : ∀ (σ : L2.St) (H : Hp) (Q : VK), tE G X.K C (.bf f es) σ H Q → tCB (rBf X.K C (bfD f)) (tA G X.K C es) σ H Q := fun σ H Q ⟨M, U, env, ok, w⟩ => by
        unfold wE at w
        refine args ok w fun vs xs H1 s1 ok1 r1 z => ?_
        cases eb : bfD f (xs.map (·.2)) with
        | none => rw [eb] at z; exact z.elim
        | some r =>
          obtain ⟨kd, d⟩ := r
          rw [eb] at z
          exact ⟨M, xs.map (·.2), kd, d, ok1.dom, r1.rbA, eb, fun v H2 s2 r => z v H2 (s1.trans s2) (Rk.back s1 r)⟩
      refine ⟨PE.imp (t := tCB (rBf X.K C (bfD f)) (tA G X.K C es)) ?_ rd, rfl⟩
      have hb := f.boot
      have hd := bf_D (C := C) g.calm f
      cases hv : f.val with
      | builtin id =>
        rw [hv] at hb hd
        exact pe_callB hd (glb_of h2) (g.blt _ n1) hb (ss.a X _ g h4) n2 n3 (star_of hs.1) (plain_of q hs.2)
      | type T =>
        rw [hv] at hb hd
        exact pe_callTy hd (glb_of h2) (g.blt _ n1) hb (ss.a X _ g h4) n2 n3 (star_of hs.1) (plain_of q hs.2)
      | _ => cases f <;> cases hv
    · cases h
  exact .ofE (fun X e g h => (key X e g h).1) fun X e g _ h => tT_of (key X e g h).1 (key X e g h).2
theorem isi_boot : ∀ T ∈ isiTs, bootBuiltins (PySem.Str.ofString T) = some (.type T) ∧ PySem.Str.ofString T ∈ bnames ∧ PySem.Str.ofString T ≠ "__name__" ∧ (PySem.Str.ofString T == ("__debug__" : Str)) = false := by decide +kernel
theorem s_isi (T : String) {a : E} (sa : Snd N G C k a) : Snd N G C k (.isi T a) := by
  have key : ∀ (X : Cx) (e : Expr), Gd N G C k X → chkE N (.isi T a) X.env.scope e = true → PE X e (tE G X.K C (.isi T a)) ∧ okT e = true := fun X e g h => by
    unfold chkE at h
    split at h
    · rename_i x y t ev
      obtain ⟨p, q, rfl⟩ := vw_cl ev
      simp only [Bool.and_eq_true] at h
      obtain ⟨⟨⟨⟨⟨⟨h1, h2⟩, h3⟩, h4⟩, h5⟩, h6⟩, h7⟩ := h
      have e := of_decide_eq_true h1
      subst e
      have hT := of_decide_eq_true h5
      unfold vNm at h3
      split at h3
      · rename_i z ez
        obtain ⟨pz, rfl⟩ := vw_name ez
        have e := of_decide_eq_true h3
        subst e
        obtain ⟨b1, b2, b3, b4⟩ := isi_boot T hT
        have pt : PE X (.Name (PySem.Str.ofString T) pz) (tC (.ty T)) := pe_bltn (glb_of h4) (g.blt _ b2) b1 rfl b3 b4
        refine ⟨PE.imp (pe_callB (isi_D (C := C) hT) (glb_of h2) (g.blt _ (by decide)) (by decide +kernel) (pa_cons (sa.e X y g h7) (pa_cons pt pa_nil rfl) (star_of h6)) (by decide) (by decide) (star_of h6) rfl) fun σ H Q ⟨M, U, env, ok, w⟩ => ?_, rfl⟩
        unfold wE at w
        refine one ok w fun kd x d H1 s1 ok1 r1 z => ?_
        exact ⟨M, d, x, rfl, r1.b1, noIns_of z.1, z.2 _ H1 s1 (.bl _)⟩
      · cases h3
    · cases h
  exact .ofE (fun X e g h => (key X e g h).1) fun X e g _ h => tT_of (key X e g h).1 (key X e g h).2
theorem s_bm (m : BM) {o es : E} (so : Snd N G C k o) (ss : Snd N G C k es) : Snd N G C k (.bm m o es) := by
  have key : ∀ (X : Cx) (e : Expr), Gd N G C k X → chkE N (.bm m o es) X.env.scope e = true → PE X e (tE G X.K C (.bm m o es)) ∧ okT e = true := fun X e g h => by
    unfold chkE at h
    split at h
    · rename_i y n xs ap cp ev
      have ev := vw_mt ev
      subst ev
      simp only [Bool.and_eq_true] at h
      obtain ⟨⟨⟨⟨⟨⟨h1, h2⟩, h3⟩, h4⟩, h5⟩, h6⟩, h7⟩ := h
      obtain ⟨x, xs, rfl⟩ := cons_of h2
      have e := of_decide_eq_true h1
      subst e
      have hsh := chkA_ok h7
      have hs := hsh
      rw [List.all_cons, Bool.and_eq_true] at hs
      have hb : attributeBase y m.nm X.env (eval y X.env) = eval y X.env := noSup_ok h5
      have hfew : ((backTo cp (starEach (x :: xs) X.env)).all (fun x => !x.1) && (backToKw cp (keywordEach [] X.env)).all (fun x => x.1.isSome) && decide ((x :: xs).length + ([] : List Keyword).length + (if ([] : List Keyword).isEmpty then 0 else 1) < 30)) = true := by
        have a1 : (backTo cp (starEach (x :: xs) X.env)).all (fun x => !x.1) = true := by
          have z := plain_of (env := X.env) cp hsh
          rw [List.any_eq_false] at z
          rw [List.all_eq_true]
          intro w hw
          have := z w hw
          simpa using this
        rw [a1]
        have a2 : (x :: xs).length < 20 := of_decide_eq_true h3
        have a3 : (x :: xs).length + ([] : List Keyword).length + (if ([] : List Keyword).isEmpty then 0 else 1) < 30 := by
          show (x :: xs).length + 0 + 0 < 30
          omega
        rw [decide_eq_true a3]
        rfl
      refine ⟨?_, rfl⟩
      cases m with
      | index =>
        refine PE.imp (pe_bm PySem.F.plainAttrs_list PySem.F.slot_list_index PySem.F.type_list_index (index_D (C := C) g.units) (so.e X y g h6) (ss.a X _ g h7) hb hfew h4 (star_of hs.1) (plain_of cp hs.2)) fun σ H Q ⟨M, U, env, ok, w⟩ => ?_
        unfold wE at w
        refine one ok w fun kd x d H1 s1 ok1 r1 z => ⟨?_, args ok1 z.2 fun vs xs H2 s2 ok2 r2 z => ?_⟩
        · cases d with
          | lst ds =>
            obtain ⟨a, vs, rfl, ea, ra⟩ := r1.b1.lst
            exact .inl ⟨rfl, _, SqL.of ea⟩
          | _ => exact absurd z.1 (fun q => by cases q)
        · cases eb : bmD .index d (xs.map (·.2)) with
          | none => rw [eb] at z; exact z.elim
          | some r =>
            obtain ⟨kd, q⟩ := r
            rw [eb] at z
            exact ⟨M, d, xs.map (·.2), kd, q, ok2.dom, r1.b1.same s2, r2.rbA, eb, fun v H3 s3 r => z v H3 ((s1.trans s2).trans s3) (Rk.back (s1.trans s2) r)⟩
    · cases h
  exact .ofE (fun X e g h => (key X e g h).1) fun X e g _ h => tT_of (key X e g h).1 (key X e g h).2
theorem s_fn (f : Str) {es : E} (ss : Snd N G C k es) : Snd N G C k (.fn f es) := by
  have key : ∀ (X : Cx) (e : Expr), Gd N G C k X → chkE N (.fn f es) X.env.scope e = true → PE X e (tE G X.K C (.fn f es)) ∧ okT e = true := fun X e g h => by
    unfold chkE at h
    split at h
    · rename_i x xs ev
      obtain ⟨p, q, rfl⟩ := vw_cl ev
      simp only [Bool.and_eq_true] at h
      obtain ⟨⟨⟨⟨h1, h2⟩, h3⟩, h4⟩, h5⟩ := h
      obtain ⟨y, ys, rfl⟩ := cons_of h4
      have e := of_decide_eq_true h1
      subst e
      have hsh := chkA_ok h5
      have hs := hsh
      rw [List.all_cons, Bool.and_eq_true] at hs
      refine ⟨?_, rfl⟩
      cases ef : G.fn x with
      | none => exact PE.imp (t := fun _ _ _ => False) ⟨fun _ _ _ _ _ _ z => z.elim⟩ fun σ H Q ⟨M, U, env, ok, w⟩ => by unfold wE at w; rw [ef] at w; exact w
      | some S =>
        obtain ⟨a, fd, ps, F, hm, kp, hb⟩ := g.fns x S ef
        refine PE.imp (pe_call F g.room (glb_of h2) hm kp hb .nil pass0 (ss.a X _ g h5) (nm_of h3).1 (star_of hs.1) (plain_of q hs.2)) fun σ H Q ⟨M, U, env, ok, w⟩ => ?_
        unfold wE at w
        rw [ef] at w
        refine args ok w fun vs xs H1 s1 ok1 r1 z => ⟨M, xs.map (·.2), ok1.dom, ?_, S.mono _ _ _ (fun d z v H2 s2 r => z v H2 (s1.trans s2) (Rk.back s1 r)) z.2⟩
        rw [List.append_nil]
        exact r1.args z.1
    · cases h
  exact .ofE (fun X e g h => (key X e g h).1) fun X e g _ h => tT_of (key X e g h).1 (key X e g h).2
/-- a comprehension's test -/
def tC (G : Gam) (K : PySem.W.Frag) (C : Cls0) (c : E) : TT := fun σ H Q => ∃ M U env, EnvOk K C H M U σ env ∧ wC G c env fun r => ∀ H', Same H H' → Q r H'
def cOk : E → Bool
  | .so c => tOk c
  | _ => true
theorem PTs.imp {e : List Expr} {t t' : TT} (h : PTs X e t) (i : ∀ σ H Q, t' σ H Q → t σ H Q) : PTs X e t' := ⟨fun pins s σ H Q I q => h.run pins s σ H Q I (i _ _ _ q)⟩
theorem pts_of {c : E} (sc : ∀ d, c = .so d → Snd N G C k d) (g : Gd N G C k X) (hc : cOk c = true) {es : List Expr} (h : chkC N c X.env.scope es = true) : PTs X es (tC G X.K C c) := by
  unfold chkC at h
  split at h
  · have e : es = [] := List.isEmpty_iff.mp h
    subst e
    refine PTs.imp pts_nil fun σ H Q ⟨M, U, env, ok, w⟩ => ?_
    unfold wC at w
    exact w H (Same.refl H)
  · rename_i d
    split at h
    · refine PTs.imp (pts_one ((sc d rfl).t X _ g hc h)) fun σ H Q ⟨M, U, env, ok, w⟩ => ?_
      unfold wC at w
      refine ⟨M, U, env, ok, wE_mono d env _ _ (fun kd x z => ?_) w⟩
      cases x <;> try (exact z.elim)
      exact ⟨_, rfl, z⟩
    · cases h
  · cases h
theorem loc_of {sc : Scope} {x : Str} (h : locB sc x = true) : sc.names.lookup x = some .local ∨ sc.names.lookup x = some .cell := by
  unfold locB at h
  split at h
  · rename_i e; exact .inl e
  · rename_i e; exact .inr e
  · cases h
theorem tgX_blk {s : Shared} {H : Hp} {scope : Scope} {D0 : Addr} {cl : List (Str × Addr)} {fp : List Addr} {x : Str} (h : locB scope x = true) : TgX (X.blk s H scope (compEnvC scope cl D0 X.env) fp) x := by
  rcases loc_of h with e | e
  · have z : (relS scope X.env.scope).names.lookup x = some .local := lookup_relS_keep (by decide) e
    exact ⟨.inl z, .inr z⟩
  · have z : (relS scope X.env.scope).names.lookup x = some .cell := lookup_relS_keep (by decide) e
    refine ⟨.inr z, .inl ?_⟩
    show (scope.names.lookup x == some .cell) = true
    rw [e]
    rfl
theorem tgIn_of {sc : Scope} {own : List Nat} {tg : Tg} {e : Expr} (h : chkT N sc (fun is => is.all (own.contains ·)) tg e = true) : tgIn own tg := by
  have key : ∀ is : List Nat, is.all (own.contains ·) = true → ∀ i ∈ is, i ∈ own := fun is h i hi => by
    have := List.all_eq_true.mp h i hi
    simpa using this
  cases tg with
  | nm i =>
    cases e <;> try (cases h; done)
    rename_i x p
    have h : (decide (N[i]? = some x) && locB sc x && [i].all (own.contains ·)) = true := h
    rw [Bool.and_eq_true] at h
    exact key [i] h.2 i List.mem_cons_self
  | tp is =>
    cases e <;> try (cases h; done)
    rename_i es j p
    have h : (decide (es.length = is.length) && (es.zip is).all (tgB N sc) && is.all (own.contains ·)) = true := h
    rw [Bool.and_eq_true] at h
    exact key is h.2
theorem wipe_ownP (own : List Nat) : (ownP N own).map (·.2) = own := by
  unfold ownP
  rw [List.map_map]
  induction own with
  | nil => rfl
  | cons i is ih => rw [List.map_cons, ih]; rfl
theorem wipe_wipe (σ : L2.St) : ∀ vs : List Nat, wipe (wipe σ vs) vs = wipe σ vs
  | [] => rfl
  | j :: vs => by
    show wipe ((wipe σ vs).set j none) (j :: vs) = _
    rw [wipe_set List.mem_cons_self]
    show (wipe (wipe σ vs) vs).set j none = _
    rw [wipe_wipe σ vs]
    rfl
/-- the comprehension's reading -/
theorem lc_read {K : PySem.W.Frag} {σ : L2.St} {H : Hp} {Q : VK} {own : List Nat} {tg : Tg} {it cond elt : E} (htg : tgIn own tg) (w : tE G K C (.lc own tg it cond elt) σ H Q) :
    tLc (tI G K C false it) (gT K tg) (tC G K C cond) (tE G K C elt) own σ H Q := by
  obtain ⟨M, U, env, ok, w⟩ := w
  unfold wE at w
  have okF : EnvOk K C H M (fun _ => False) σ env := ⟨ok.len, ok.dom, fun i => by
    have r := ok.sl i
    cases e : slot env i with
    | un => trivial
    | sh d => rw [e] at r; exact r
    | bo d =>
      rw [e] at r
      obtain ⟨x, e1, r⟩ := r
      refine ⟨x, e1, ?_⟩
      rcases r with r | ⟨a, vs, ds, e2, e3, _, r⟩
      · exact .inl r
      · exact .inr ⟨a, vs, ds, e2, e3, fun z => z, r⟩
    | ow ds => rw [e] at r; exact r
    | lk ds => rw [e] at r; obtain ⟨a, vs, e1, _, r⟩ := r; exact ⟨a, vs, e1, fun z => z, r⟩⟩
  refine ⟨M, fun _ => False, env, okF, fun _ z => z.elim, fun _ _ z => z, wI_mono false it env _ _ (fun items z J H1 s1 wk D hD => ?_) w⟩
  obtain ⟨hz, z⟩ := z
  have ok1 := okF.same s1
  -- what the owned are while the new list grows
  refine ⟨fun i m H2 => i + m = items.length ∧ Since (fun _ => False) H1 M H2 (fun b => M b ∨ b = D) ∧ ∃ acc ds, H2 D = some (.lst acc) ∧ RpA K C H2 (fun b => M b ∨ b = D) acc ds ∧ acc.length ≤ i ∧
    wLc (fun x q => match bindT tg x (wipeE env own) with
        | some env1 => wC G cond env1 fun r => if r = true then wE G elt env1 fun k y => k.frz = true ∧ q (some y) else q none
        | none => False) (items.drop i) fun ys => ∀ v H', Same H H' → Rk K C H H' M .nw v (.lst (ds ++ ys)) → Q v H',
    ⟨items.length, by omega, ⟨fun b o e => .inr (by rw [upd_ne (ne_of_none e hD)]; exact e), fun b z => z.elim, fun a o e z => ?_⟩, [], [], upd_same, .nil, Nat.le_refl _, ?_⟩, ?_⟩
  · rcases z with z | z
    · exact z
    · rw [z, hD] at e; cases e
  · exact z
  · rintro i m H2 ⟨him, sn, acc, ds, hD2, ra, hl, z⟩
    have s2 : Same H1 H2 := fun b o e => (sn.keep b o e).resolve_left fun z => z
    by_cases hi : i < items.length
    · refine .inr ⟨wk.go i H2 _ sn hi, fun H3 => i + 1 + (m - 1) = items.length ∧ Since (fun _ => False) H1 M H3 (fun b => M b ∨ b = D) ∧ ∃ acc ds, H3 D = some (.lst acc) ∧ RpA K C H3 (fun b => M b ∨ b = D) acc ds ∧ acc.length ≤ i + 1 ∧
        wLc (fun x q => match bindT tg x (wipeE env own) with
            | some env1 => wC G cond env1 fun r => if r = true then wE G elt env1 fun k y => k.frz = true ∧ q (some y) else q none
            | none => False) (items.drop (i + 1)) fun ys => ∀ v H', Same H H' → Rk K C H H' M .nw v (.lst (ds ++ ys)) → Q v H', fun H' n => ⟨m - 1, by omega, n⟩, fun x H3 y => ?_⟩
      obtain ⟨s3, d, hd, rx⟩ := wk.yld i H2 _ x H3 sn hi y
      have e1 : items.drop i = d :: items.drop (i + 1) := by
        rw [List.drop_eq_getElem_cons hi]
        rw [List.getElem?_eq_getElem hi] at hd
        rw [Option.some.inj hd]
      rw [e1] at z
      unfold wLc at z
      cases eb : bindT tg d (wipeE env own) with
      | none => rw [eb] at z; exact z.elim
      | some env1 =>
        rw [eb] at z
        have lt2 : Lt H1 M (fun b => M b ∨ b = D) := sn.lt
        have ok3 : EnvOk K C H3 (fun b => M b ∨ b = D) (fun _ => False) (wipe σ own) (wipeE env own) := by
          refine (EnvOk.mk ok1.len ?_ fun j => (ok1.sl j).kp (fun a o e => s3 _ _ (s2 _ _ e)) lt2).wipe own
          intro a ma na
          rcases ma with ma | ma
          · exact (ok1.dom.same (s2.trans s3)) a ma na
          · rw [ma] at na
            have q : H3 D = none := na
            rw [s3 _ _ hD2] at q
            cases q
        refine gT_read eb ok3 rx fun σ1 ok4 hw => ⟨?_, ?_⟩
        · rw [hw own htg, wipe_wipe]
        · have sn3 : Since (fun _ => False) H1 M H3 (fun b => M b ∨ b = D) := ⟨fun b o e => .inr (s3 _ _ (s2 _ _ e)), fun b z => z.elim, lt2⟩
          have hD3 := s3 _ _ hD2
          have ra3 := ra.same s3
          refine ⟨_, _, env1, ok4, wC_mono cond env1 _ _ (fun r z H4 s4 => ?_) z⟩
          cases r with
          | false =>
            have z := (if_neg (show ¬ (false = true) from Bool.false_ne_true)).mp z
            exact iteF ⟨by omega, ⟨fun b o e => .inr (s4 _ _ (s3 _ _ (s2 _ _ e))), fun b z => z.elim, lt2⟩, acc, ds, s4 _ _ hD3, ra3.same s4, by omega, z⟩
          | true =>
            have z := (if_pos (show true = true from rfl)).mp z
            refine iteT (one (ok4.same s4) z fun kd v y H5 s5 ok5 r5 z => ?_)
            have hD5 := s5 _ _ (s4 _ _ hD3)
            have ne : ∀ {b o}, H1 b = some o → b ≠ D := fun e => ne_of_none e hD
            have kd5 : Kp (fun b => M b ∨ b = D) H5 (upd H5 D (.lst (acc ++ [v]))) := fun a o e => by
              by_cases ha : a = D
              · refine .inl ⟨.inr ha, acc, ?_⟩
                rw [ha, hD5] at e
                exact (Option.some.inj e).symm
              · exact .inr (by rw [upd_ne ha]; exact e)
            refine ⟨acc, hD5, by omega, by omega, ⟨fun b o e => .inr (by rw [upd_ne (ne e)]; exact s5 _ _ (s4 _ _ (s3 _ _ (s2 _ _ e)))), fun b z => z.elim, lt2⟩, acc ++ [v], ds ++ [y], upd_same, ?_, by rw [List.length_append, List.length_singleton]; omega, ?_⟩
            · exact (((ra3.same s4).same s5).append (.cons (r5.fr z.1) .nil)).kp kd5 Lt.refl
            · have e : ∀ ys, ds ++ [y] ++ ys = ds ++ (y :: ys) := fun ys => by rw [List.append_assoc]; rfl
              simp only [e]
              exact z.2
    · have ei : i = items.length := by omega
      refine .inl ⟨wk.stop i H2 _ sn (by omega), ?_⟩
      rw [ei, List.drop_length] at z
      unfold wLc at z
      exact z (.ref D) H2 (s1.trans s2) ⟨D, acc, ds, rfl, by rw [List.append_nil], s1.free hD, ok1.dom.ne hD, hD2, ra⟩
theorem s_lc {own : List Nat} {tg : Tg} {it cond elt : E} (si : Snd N G C k it) (sc : ∀ d, cond = .so d → Snd N G C k d) (se : Snd N G C k elt) (hc : cOk cond = true) : Snd N G C k (.lc own tg it cond elt) := by
  have key : ∀ (X : Cx) (e : Expr), Gd N G C k X → chkE N (.lc own tg it cond elt) X.env.scope e = true → PE X e (tE G X.K C (.lc own tg it cond elt)) ∧ okT e = true := fun X e g h => by
    unfold chkE at h
    split at h
    · rename_i x t i ifs sc' ev
      obtain ⟨p, rfl⟩ := vw_lc ev
      simp only [Bool.and_eq_true] at h
      obtain ⟨⟨⟨⟨⟨h1, h2⟩, h3⟩, h4⟩, h5⟩, h6⟩ := h
      refine ⟨?_, rfl⟩
      have b := blkOk_by h3
      have htg := tgIn_of h4
      have pp := pe_lc (X := X) (te := tE G X.K C elt) (tt := tC G X.K C cond) (g := gT X.K tg) (pos := p) g.calm (by rw [g.nm]; exact g.nd) (si.i false X t i g h1 h2) (by rw [g.nm]; exact b)
        (fun s H D0 cl fp => pg_T (X := X.blk s H sc' (compEnvC sc' cl D0 X.env) fp) g.calm g.nm g.nd (fun x hx => tgX_blk hx) h4) (fun s H D0 cl fp => pts_of sc (g.blk s H sc' _ fp) hc h5) (fun s H D0 cl fp => se.e _ x (g.blk s H sc' _ fp) h6) (fold_of h1)
      rw [wipe_ownP] at pp
      exact PE.imp pp fun σ H Q w => lc_read htg w
    · cases h
  exact .ofE (fun X e g h => (key X e g h).1) fun X e g _ h => tT_of (key X e g h).1 (key X e g h).2
/-! ### what is walked -/
theorem Snd.ofI {c : E} (i : ∀ (m : Bool) (X : Cx) (tg e : Expr), Gd N G C k X → okSh e = true → chkI N c X.env.scope e = true → PI X tg e (tI G X.K C m c))
    (e : ∀ sc e, chkE N c sc e = false := by intros; rfl) (o : ∀ sc e, chkO N c sc e = false := by intros; rfl) (a : ∀ sc e, chkA N c sc e = false := by intros; rfl) : Snd N G C k c :=
  ⟨fun X x _ h => absurd h (by rw [e]; decide), fun X x _ _ h => absurd h (by rw [e]; decide), fun X x _ h => absurd h (by rw [o]; decide), fun X x _ h => absurd h (by rw [a]; decide), i⟩
theorem PI.or {tg e : Expr} {t u : TI} (h : PI X tg e t) (h' : PI X tg e u) : PI X tg e (fun σ H R => t σ H R ∨ u σ H R) := ⟨fun pins s σ H R I q => q.elim (h.run pins s σ H R I) (h'.run pins s σ H R I)⟩
def cnt : E → Nat
  | .cons _ es => cnt es + 1
  | _ => 0
theorem wA_cnt : ∀ {c : E} {env : Env} {Q : List (Kd × D) → Prop}, wA G c env Q → wA G c env fun xs => xs.length = cnt c ∧ Q xs := fun {c} => by
  induction c with
  | nil => intro env Q w; unfold wA at w ⊢; exact ⟨rfl, w⟩
  | cons e es _ ih =>
    intro env Q w
    unfold wA at w ⊢
    exact wE_mono e env _ _ (fun k d z => wA_mono es env _ _ (fun xs z => ⟨congrArg Nat.succ z.1, z.2⟩) (ih z)) w
  | _ => intro env Q w; unfold wA at w; exact w.elim
theorem chkA_cnt {sc : Scope} : ∀ {c : E} {es : List Expr}, chkA N c sc es = true → es.length = cnt c := fun {c} => by
  induction c with
  | nil => intro es h; rw [chkA_nil h]; rfl
  | cons c cs _ ih =>
    intro es h
    obtain ⟨x, xs, rfl, h1, h2, h3⟩ := chkA_cons h
    exact congrArg Nat.succ (ih h3)
  | _ => intro es h; unfold chkA at h; cases h
theorem s_rng {es : E} (ss : Snd N G C k es) : Snd N G C k (.rng es) := by
  refine .ofI fun m X tg e g _ h => ?_
  unfold chkI at h
  split at h
  · rename_i x xs ev
    obtain ⟨p, q, rfl⟩ := vw_cl ev
    simp only [Bool.and_eq_true] at h
    obtain ⟨⟨⟨h1, h2⟩, h3⟩, h4⟩ := h
    have e := of_decide_eq_true h1
    subst e
    have hsh := chkA_ok h4
    have hcnt := chkA_cnt h4
    match xs, h3, h4, hsh, hcnt with
    | [a], _, h4, hsh, hcnt =>
      rw [List.all_cons, Bool.and_eq_true] at hsh
      refine PI.imp (pi_range1 (glb_of h2) (g.blt _ (by decide)) (ss.a X _ g h4) (star_of hsh.1)) fun σ H R ⟨M, U, env, ok, um, _, w⟩ => ?_
      unfold wI at w
      refine args ok (wA_cnt w) fun vs xs H1 s1 ok1 r1 z => ?_
      rw [← hcnt] at z
      match xs, vs, r1, z with
      | [(k1, d1)], [v], r1, z =>
        obtain ⟨zl, z⟩ := z
        clear zl
        cases d1 <;> try (exact z.elim)
        rename_i n
        have ev := r1.1.1.int
        subst ev
        have z : (match (if -(2 ^ 62) ≤ n ∧ n < 2 ^ 62 then some ((List.range n.toNat).map fun (i : Nat) => D.int i) else none) with
          | some ds => ∀ J H', Same H H' → Wk X.K C H' M U J ds → R J H'
          | none => False) := z
        by_cases hn : -(2 ^ 62) ≤ n ∧ n < 2 ^ 62
        · rw [if_pos hn] at z
          refine ⟨n, rfl, hn.1, hn.2, z _ H1 s1 ?_⟩
          have wk := wk_rng (K := X.K) (C := C) (H1 := H1) (M1 := M) (U := U) (lo := 0) (n := n.toNat)
          simpa using wk
        · rw [if_neg hn] at z; exact z.elim
    | [a, b], _, h4, hsh, hcnt =>
      rw [List.all_cons, List.all_cons, Bool.and_eq_true, Bool.and_eq_true] at hsh
      refine PI.imp (pi_range2 (glb_of h2) (g.blt _ (by decide)) (ss.a X _ g h4) (by rw [star_of hsh.1, star_of hsh.2.1]; rfl) (by rw [star_of hsh.2.1]; rfl)) fun σ H R ⟨M, U, env, ok, um, _, w⟩ => ?_
      unfold wI at w
      refine args ok (wA_cnt w) fun vs xs H1 s1 ok1 r1 z => ?_
      rw [← hcnt] at z
      match xs, vs, r1, z with
      | [(k1, d1), (k2, d2)], [v, u], r1, z =>
        obtain ⟨zl, z⟩ := z
        clear zl
        cases d1 <;> try (exact z.elim)
        cases d2 <;> try (exact z.elim)
        rename_i n n2
        have ev := r1.1.1.int
        have ev2 := r1.2.1.1.int
        subst ev ev2
        have z : (match (if -(2 ^ 62) ≤ n ∧ n < 2 ^ 62 ∧ -(2 ^ 62) ≤ n2 ∧ n2 < 2 ^ 62 then some ((List.range (n2 - n).toNat).map fun (i : Nat) => D.int (n + i)) else none) with
          | some ds => ∀ J H', Same H H' → Wk X.K C H' M U J ds → R J H'
          | none => False) := z
        by_cases hn : -(2 ^ 62) ≤ n ∧ n < 2 ^ 62 ∧ -(2 ^ 62) ≤ n2 ∧ n2 < 2 ^ 62
        · rw [if_pos hn] at z
          exact ⟨n, n2, rfl, hn, z _ H1 s1 wk_rng⟩
        · rw [if_neg hn] at z; exact z.elim
  · cases h
/-- a source as an expression -/
def tX (G : Gam) (K : PySem.W.Frag) (C : Cls0) (m : Bool) (c : E) : TE := fun σ H Q => ∃ M U env, EnvOk K C H M U σ env ∧ (∀ b, U b → M b ∧ ∃ vs, H b = some (.lst vs)) ∧ (m = false → ∀ b, ¬ U b) ∧ wX G m c env fun d => ∀ v H', Same H H' → Sx K C H' M U v d → Q v H'
theorem Sx.same {K : PySem.W.Frag} {H H' : Hp} {M U : Addr → Prop} {v : V} {d : D} (s : Same H H') (h : Sx K C H M U v d) : Sx K C H' M U v d := by
  rcases h with h | ⟨a, vs, ds, e1, e2, n, e3, r⟩
  · exact .inl (h.same s)
  · exact .inr ⟨a, vs, ds, e1, e2, n, s _ _ e3, r.same s⟩
theorem Sx.rb {K : PySem.W.Frag} {H : Hp} {M U : Addr → Prop} {v : V} {d : D} (h : Sx K C H M U v d) : Rb K C H M v d := by
  rcases h with h | ⟨a, vs, ds, e1, e2, n, e3, r⟩
  · exact .inl h
  · exact .inr ⟨a, vs, ds, e1, e2, e3, r⟩
theorem jn {o : Option (Option V)} {x : V} (e : o.join = some x) : o = some (some x) := by
  cases o with
  | none => cases e
  | some z => cases z with
    | none => cases e
    | some y => cases e; rfl
theorem pe_X {c : E} (sc : ∀ d, c = .se d → Snd N G C k d) (m : Bool) (g : Gd N G C k X) {e : Expr} (h : chkX N c X.env.scope e = true) : PE X e (tX G X.K C m c) := by
  unfold chkX at h
  split at h
  · rename_i i
    split at h
    · rename_i x ev
      obtain ⟨p, rfl⟩ := vw_name ev
      obtain ⟨h1, h2, h3⟩ := and3 h
      refine PE.imp (pe_var (by rw [g.nm]; exact of_decide_eq_true h1) (vis_of h2) (nm_of h3).1 (nm_of h3).2) fun σ H Q ⟨M, U, env, ok, um, mu, w⟩ => ?_
      have r := ok.sl i
      unfold wX at w
      cases e : slot env i with
      | un => rw [e] at w; exact w.elim
      | sh d => rw [e] at w r; obtain ⟨x, e1, r1⟩ := r; exact ⟨x, jn e1, w x H (Same.refl H) (.inl r1)⟩
      | bo d => rw [e] at w r; obtain ⟨x, e1, r1⟩ := r; exact ⟨x, jn e1, w x H (Same.refl H) r1⟩
      | ow ds =>
        rw [e] at w r
        obtain ⟨a, vs, e1, e2, r1⟩ := r
        exact ⟨_, jn e1, w.2 _ H (Same.refl H) (.inr ⟨a, vs, ds, rfl, rfl, mu w.1 a, e2, r1⟩)⟩
      | lk ds =>
        rw [e] at w r
        obtain ⟨a, vs, e1, n, e2, r1⟩ := r
        exact ⟨_, jn e1, w _ H (Same.refl H) (.inr ⟨a, vs, ds, rfl, rfl, n, e2, r1⟩)⟩
    · cases h
  · rename_i d
    rw [Bool.and_eq_true] at h
    refine PE.imp ((sc d rfl).e X e g h.2) fun σ H Q ⟨M, U, env, ok, um, mu, w⟩ => ?_
    unfold wX at w
    exact one ok w fun kd x d H' s ok' r z => z.2 x H' s (.inl (r.fr z.1))
  · cases h
/-- a list, a tuple or a text, walked -/
def iAny (K : PySem.W.Frag) (te : TE) : TI := fun σ H R => te σ H fun x H1 =>
  (∃ a, x = .ref a ∧ (∃ xs, SqL K H1 a xs) ∧ R (Itl K a) H1) ∨ (∃ a, x = .ref a ∧ (∃ xs, SqT K H1 a xs) ∧ R (Itt K a) H1) ∨ ∃ z, x = .str z ∧ R (Its z) H1
theorem pi_any {tg l : Expr} {tl : TE} (hl : PE X l tl) : PI X tg l (iAny X.K tl) := by
  refine ⟨fun pins s σ H R I h => ?_⟩
  refine thn (hl.run pins s σ H _ I h) ?_
  rintro v s1 ⟨x, H1, I1, r1, q1⟩
  rcases q1 with ⟨a, rfl, ⟨xs, hq⟩, q⟩ | ⟨a, rfl, ⟨xs, hq⟩, q⟩ | ⟨z, rfl, q⟩
  · cases r1
    obtain ⟨its, _, p, _⟩ := I1.list hq
    exact wpAny_pyIter_list p.isList (pi_one (tk := s1.toks) I1 _ (turn_list a _) ⟨_, Heap.get?_push_size _ rfl, rfl, rfl⟩ q)
  · cases r1
    obtain ⟨its, _, p, _⟩ := I1.tuple hq
    exact wpAny_pyIter_tuple (show s1.heap.IsTuple a its.toArray from p) (pi_one (tk := s1.toks) I1 _ (turn_tuple a _) ⟨_, Heap.get?_push_size _ rfl, rfl, rfl⟩ q)
  · obtain ⟨t, rfl⟩ := r1
    by_cases ha : z.cps.all (· < 128) = true
    · exact wpAny_pyIter_ascii ha (pi_one (tk := s1.toks) I1 _ (turn_str _ z t "str_ascii_iterator" (.inl rfl)) ⟨_, Heap.get?_push_size _ rfl, rfl, rfl⟩ q)
    · exact wpAny_pyIter_wide (by simpa using ha) (pi_one (tk := s1.toks) I1 _ (turn_str _ z t "str_iterator" (.inr rfl)) ⟨_, Heap.get?_push_size _ rfl, rfl, rfl⟩ q)
theorem wk_str {K : PySem.W.Frag} {H1 : Hp} {M1 U : Addr → Prop} {x : Str} : Wk K C H1 M1 U (Its x) (x.cps.toList.map fun c => D.str ⟨#[c]⟩) := by
  have hl : (x.cps.toList.map fun c => D.str ⟨#[c]⟩).length = x.cps.size := by simp
  refine ⟨fun i H M s hi => (show i < x.cps.size by omega), fun i H M s hi => (show x.cps.size ≤ i by omega), fun i H M y H' s hi z => ?_⟩
  obtain ⟨rfl, c, hc, rfl⟩ := z
  refine ⟨Same.refl _, .str ⟨#[c]⟩, ?_, .str _⟩
  rw [List.getElem?_map, Array.getElem?_toList, hc]
  rfl
theorem s_iv {c : E} (sc : ∀ d, c = .se d → Snd N G C k d) : Snd N G C k (.iv c) := by
  refine .ofI fun m X tg e g ho h => ?_
  have h : chkX N c X.env.scope e = true := h
  refine PI.imp (pi_any (pe_X sc m g h)) fun σ H R ⟨M, U, env, ok, um, mu, w⟩ => ?_
  unfold wI at w
  refine ⟨M, U, env, ok, um, mu, wX_mono m c env _ _ (fun d z v H1 s1 r1 => ?_) w⟩
  cases d with
  | lst ds =>
    obtain ⟨a, vs, rfl, na, ea, ra⟩ := Sx.lst (fun b z => (um b z).1) r1
    exact .inl ⟨a, rfl, ⟨vs, SqL.of ea⟩, z _ H1 s1 (wk_list na ea ra)⟩
  | tup ds =>
    obtain ⟨a, vs, rfl, ea, ra⟩ := (Sx.rb r1).tup
    exact .inr (.inl ⟨a, rfl, ⟨vs, ea⟩, z _ H1 s1 (wk_tup ea ra)⟩)
  | scr ns =>
    obtain ⟨a, rfl, ea⟩ := (Sx.rb r1).scr
    exact .inl ⟨a, rfl, ⟨_, ea.sq⟩, z _ H1 s1 (wk_scr ea)⟩
  | str x => exact .inr (.inr ⟨x, (Sx.rb r1).str, z _ H1 s1 wk_str⟩)
  | _ => exact z.elim
/-- nothing -/
theorem s_nop {c : E} (e : ∀ sc e, chkE N c sc e = false := by intros; rfl) (o : ∀ sc e, chkO N c sc e = false := by intros; rfl) (a : ∀ sc e, chkA N c sc e = false := by intros; rfl) (i : ∀ sc e, chkI N c sc e = false := by intros; rfl) : Snd N G C k c :=
  ⟨fun X x _ h => absurd h (by rw [e]; decide), fun X x _ _ h => absurd h (by rw [e]; decide), fun X x _ h => absurd h (by rw [o]; decide), fun X x _ h => absurd h (by rw [a]; decide), fun m X tg x _ _ h => absurd h (by rw [i]; decide)⟩
/-- tests within are tests -/
def wf : E → Bool
  | .op _ a b => wf a && wf b
  | .neg a => wf a
  | .cmp _ a b => wf a && wf b
  | .chn _ _ a b c => wf a && wf b && wf c
  | .and a b => wf a && wf b
  | .or a b => wf a && wf b
  | .not a => wf a
  | .ife t a b => tOk t && wf t && wf a && wf b
  | .ix a b => wf a && wf b
  | .sl a b c => wf a && wf b && wf c
  | .so a => wf a
  | .se a => wf a
  | .lst a => wf a
  | .tup a => wf a
  | .cons a b => wf a && wf b
  | .bf _ a => wf a
  | .isi _ a => wf a
  | .bm _ a b => wf a && wf b
  | .fn _ a => wf a
  | .lc _ _ a b c => cOk b && wf a && wf b && wf c
  | .rng a => wf a
  | .iv a => wf a
  | _ => true
/-- THE WHOLE of the expressions -/
theorem snd : ∀ c : E, wf c = true → Snd N G C k c ∧ (∀ d, c = .so d → Snd N G C k d) ∧ ∀ d, c = .se d → Snd N G C k d := by
  intro c
  induction c with
  | v i => exact fun _ => ⟨s_v i, fun d e => by (cases e), fun d e => by (cases e)⟩
  | k d => exact fun _ => ⟨s_k d, fun d e => by (cases e), fun d e => by (cases e)⟩
  | gk x => exact fun _ => ⟨s_gk x, fun d e => by (cases e), fun d e => by (cases e)⟩
  | op o a b ia ib =>
    intro h
    have h : (wf a && wf b) = true := h
    rw [Bool.and_eq_true] at h
    exact ⟨s_op o (ia h.1).1 (ib h.2).1, fun d e => by (cases e), fun d e => by (cases e)⟩
  | neg a ia => exact fun h => ⟨s_neg (ia h).1, fun d e => by (cases e), fun d e => by (cases e)⟩
  | cmp o a b ia ib =>
    intro h
    have h : (wf a && wf b) = true := h
    rw [Bool.and_eq_true] at h
    exact ⟨s_cmp o (ia h.1).1 (ib h.2).1, fun d e => by (cases e), fun d e => by (cases e)⟩
  | chn o p a b c ia ib ic =>
    intro h
    obtain ⟨h1, h2, h3⟩ := and3 (show (wf a && wf b && wf c) = true from h)
    exact ⟨s_chn o p (ia h1).1 (ib h2).1 (ic h3).1, fun d e => by (cases e), fun d e => by (cases e)⟩
  | and a b ia ib =>
    intro h
    have h : (wf a && wf b) = true := h
    rw [Bool.and_eq_true] at h
    exact ⟨s_and (ia h.1).1 (ib h.2).1, fun d e => by (cases e), fun d e => by (cases e)⟩
  | or a b ia ib =>
    intro h
    have h : (wf a && wf b) = true := h
    rw [Bool.and_eq_true] at h
    exact ⟨s_or (ia h.1).1 (ib h.2).1, fun d e => by (cases e), fun d e => by (cases e)⟩
  | not a ia => exact fun h => ⟨s_not (ia h).1, fun d e => by (cases e), fun d e => by (cases e)⟩
  | ife t a b it ia ib =>
    intro h
    have h : (tOk t && wf t && wf a && wf b) = true := h
    rw [Bool.and_eq_true, Bool.and_eq_true, Bool.and_eq_true] at h
    exact ⟨s_ife (it h.1.1.2).1 (ia h.1.2).1 (ib h.2).1 h.1.1.1, fun d e => by (cases e), fun d e => by (cases e)⟩
  | ix a b ia ib =>
    intro h
    have h : (wf a && wf b) = true := h
    rw [Bool.and_eq_true] at h
    exact ⟨s_ix (ia h.1).1 (ib h.2).1, fun d e => by (cases e), fun d e => by (cases e)⟩
  | sl a b c ia ib ic =>
    intro h
    obtain ⟨h1, h2, h3⟩ := and3 (show (wf a && wf b && wf c) = true from h)
    exact ⟨s_sl (ia h1).1 (ib h2).1 (ic h3).1, fun d e => by (cases e), fun d e => by (cases e)⟩
  | no => exact fun _ => ⟨s_no, fun d e => by (cases e), fun d e => by (cases e)⟩
  | so a ia => exact fun h => ⟨s_so (ia h).1, fun d e => by cases e; exact (ia h).1, fun d e => by (cases e)⟩
  | sv i => exact fun _ => ⟨s_nop, fun d e => by (cases e), fun d e => by (cases e)⟩
  | se a ia => exact fun h => ⟨s_nop, fun d e => by (cases e), fun d e => by cases e; exact (ia h).1⟩
  | lst a ia => exact fun h => ⟨s_lst (ia h).1, fun d e => by (cases e), fun d e => by (cases e)⟩
  | tup a ia => exact fun h => ⟨s_tup (ia h).1, fun d e => by (cases e), fun d e => by (cases e)⟩
  | nil => exact fun _ => ⟨s_nil, fun d e => by (cases e), fun d e => by (cases e)⟩
  | cons a b ia ib =>
    intro h
    have h : (wf a && wf b) = true := h
    rw [Bool.and_eq_true] at h
    exact ⟨s_cons (ia h.1).1 (ib h.2).1, fun d e => by (cases e), fun d e => by (cases e)⟩
  | bf f a ia => exact fun h => ⟨s_bf f (ia h).1, fun d e => by (cases e), fun d e => by (cases e)⟩
  | isi T a ia => exact fun h => ⟨s_isi T (ia h).1, fun d e => by (cases e), fun d e => by (cases e)⟩
  | bm m a b ia ib =>
    intro h
    have h : (wf a && wf b) = true := h
    rw [Bool.and_eq_true] at h
    exact ⟨s_bm m (ia h.1).1 (ib h.2).1, fun d e => by (cases e), fun d e => by (cases e)⟩
  | fn f a ia => exact fun h => ⟨s_fn f (ia h).1, fun d e => by (cases e), fun d e => by (cases e)⟩
  | lc own tg a b c ia ib ic =>
    intro h
    have h : (cOk b && wf a && wf b && wf c) = true := h
    rw [Bool.and_eq_true, Bool.and_eq_true, Bool.and_eq_true] at h
    exact ⟨s_lc (ia h.1.1.2).1 (ib h.1.2).2.1 (ic h.2).1 h.1.1.1, fun d e => by (cases e), fun d e => by (cases e)⟩
  | rng a ia => exact fun h => ⟨s_rng (ia h).1, fun d e => by (cases e), fun d e => by (cases e)⟩
  | iv a ia => exact fun h => ⟨s_iv (ia h).2.2, fun d e => by (cases e), fun d e => by (cases e)⟩
  | zip a b _ _ => exact fun _ => ⟨s_nop, fun d e => by (cases e), fun d e => by (cases e)⟩
end
end VL
/-! VL9: statements: their plain reading wS, the check, and that the text keeps the plain reading. -/
namespace VL
open PySem PySem.Spec PyProof.Rows L2

inductive S where
  | nil | seq (s r : S)
  | frz (i : Nat)
  | asg (i : Nat) (e : E)
  | asgl (i : Nat) (e : E)
  | asgT (is : List Nat) (e : E)
  | par (i j : Nat) (a b : E)
  | aug (i : Nat) (o : Operator) (e : E)
  | sub (i : Nat) (ix e : E)
  | app (i : Nat) (e : E)
  | appPop (i j : Nat) (e : E)
  | ret (e : E) | retv (i : Nat) | ret0
  | ifS (c : E) (a b : S)
  | for_ (lks : List Nat) (tg : Tg) (it : E) (body : S)
  | whl (c : E) (body : S)
  | brk | cnt | pass
  | nvr
inductive Out where
  | nx (env : Env) | rt (k : Kd) (d : D) | bk (env : Env) | ct (env : Env)
def mkS : Kd → D → Slot
  | .nw, .lst ds => .ow ds
  | _, d => .sh d
def frzE (env : Env) (i : Nat) : Env := match slot env i with
  | .ow ds => env.set i (.sh (.lst ds))
  | _ => env
/-- a loop's lists are locked .. -/
def lockE (env : Env) : List Nat → Env
  | [] => env
  | i :: is => match slot (lockE env is) i with
    | .ow ds => (lockE env is).set i (.lk ds)
    | _ => lockE env is
/-- .. those that it has locked are opened again -/
def unlE (env : Env) : List Nat → Env → Env
  | [], e => e
  | i :: is, e => match slot env i, slot (unlE env is e) i with
    | .ow _, .lk ds => (unlE env is e).set i (.ow ds)
    | _, _ => unlE env is e
def wFor (f : D → Env → (Out → Prop) → Prop) : List D → Env → (Out → Prop) → Prop
  | [], env, Q => Q (.nx env)
  | x :: xs, env, Q => f x env fun o => match o with
    | .nx e => wFor f xs e Q
    | .ct e => wFor f xs e Q
    | .bk e => Q (.nx e)
    | .rt k d => Q (.rt k d)
def wWh (c : Env → (Bool → Prop) → Prop) (f : Env → (Out → Prop) → Prop) : Nat → Env → (Out → Prop) → Prop
  | 0, _, _ => False
  | n + 1, env, Q => c env fun b => if b = true then f env fun o => match o with
    | .nx e => wWh c f n e Q
    | .ct e => wWh c f n e Q
    | .bk e => Q (.nx e)
    | .rt k d => Q (.rt k d)
    else Q (.nx env)
def augD : Operator → D → D → Option D
  | .Add, .int i, .int j => some (.int (i + j))
  | .Sub, .int i, .int j => some (.int (i - j))
  | _, _, _ => none
section
variable (G : Gam)
/-- a test -/
def wT (c : E) (env : Env) (Q : Bool → Prop) : Prop := wE G c env fun _ x => match x with
  | .bl r => Q r
  | _ => False
def wS : S → Env → (Out → Prop) → Prop
  | .nil, env, Q => Q (.nx env)
  | .seq s r, env, Q => wS s env fun o => match o with
    | .nx e => wS r e Q
    | .bk e => Q (.bk e)
    | .ct e => Q (.ct e)
    | .rt k d => Q (.rt k d)
  | .frz i, env, Q => Q (.nx (frzE env i))
  | .asg i e, env, Q => wE G e env fun k d => k.frz = true ∧ Q (.nx (env.set i (mkS k d)))
  | .asgl i e, env, Q => wE G e env fun k d => k.frz = true ∧ Q (.nx (env.set i (mkS k d)))
  | .asgT is e, env, Q => wE G e env fun k d => k.frz = true ∧ match bindT (.tp is) d env with
    | some e1 => Q (.nx e1)
    | none => False
  | .par i j a b, env, Q => wE G a env fun k x => wE G b env fun k2 y => k.frz = true ∧ k2.frz = true ∧ Q (.nx ((env.set i (.sh x)).set j (.sh y)))
  | .aug i o e, env, Q => match slot env i with
    | .sh x => wE G e env fun _ y => (match augD o x y with
      | some d => Q (.nx (env.set i (.sh d)))
      | none => False)
    | _ => False
  | .sub i ix e, env, Q => match slot env i with
    | .ow ds => wE G e env fun k d => k.frz = true ∧ wE G ix env fun _ n => (match n with
      | .int z => (match ixN ds.length z with
        | some j => Q (.nx (env.set i (.ow (ds.set j d))))
        | none => False)
      | _ => False)
    | _ => False
  | .app i e, env, Q => match slot env i with
    | .ow ds => wE G e env fun k d => k.frz = true ∧ ds.length < 16777216 ∧ Q (.nx (env.set i (.ow (ds ++ [d]))))
    | _ => False
  | .appPop i j e, env, Q => match slot env i, slot env j with
    | .ow ds, .ow es => i ≠ j ∧ (ds.length < 16777216 ∧ es.length ≤ 16777216) ∧ wE G e env fun _ n => (match n with
      | .int z => (match ixN es.length z with
        | some q => (match es[q]? with
          | some d => Q (.nx ((env.set j (.ow (es.eraseIdx q))).set i (.ow (ds ++ [d]))))
          | none => False)
        | none => False)
      | _ => False)
    | _, _ => False
  | .ret e, env, Q => wE G e env fun k d => k.frz = true ∧ Q (.rt k d)
  | .retv i, env, Q => match slot env i with
    | .ow ds => Q (.rt .nw (.lst ds))
    | .sh d => Q (.rt .fr d)
    | _ => False
  | .ret0, _, Q => Q (.rt .fr .non)
  | .ifS c a b, env, Q => wT G c env fun r => if r = true then wS a env Q else wS b env Q
  | .for_ lks tg it body, env, Q => wI G true it (lockE env lks) fun items => wFor (fun x e q => match bindT tg x e with
    | some e1 => wS body e1 q
    | none => False) items (lockE env lks) fun o => match o with
      | .nx e => Q (.nx (unlE env lks e))
      | .rt k d => Q (.rt k d)
      | .bk _ => False
      | .ct _ => False
  | .whl c body, env, Q => ∃ n, wWh (wT G c) (wS body) n env Q
  | .brk, env, Q => Q (.bk env)
  | .cnt, env, Q => Q (.ct env)
  | .pass, env, Q => Q (.nx env)
  | .nvr, _, _ => False
end
theorem wFor_mono {f : D → Env → (Out → Prop) → Prop} (hf : ∀ x e q q', (∀ r, q r → q' r) → f x e q → f x e q') : ∀ (xs : List D) (env : Env) (Q Q' : Out → Prop), (∀ o, Q o → Q' o) → wFor f xs env Q → wFor f xs env Q'
  | [], env, Q, Q', h, w => h _ w
  | x :: xs, env, Q, Q', h, w => by
    refine hf x env _ _ (fun o z => ?_) w
    cases o with
    | nx e => exact wFor_mono hf xs e _ _ h z
    | ct e => exact wFor_mono hf xs e _ _ h z
    | bk e => exact h _ z
    | rt k d => exact h _ z
theorem wWh_mono {c : Env → (Bool → Prop) → Prop} {f : Env → (Out → Prop) → Prop} (hc : ∀ e q q', (∀ r, q r → q' r) → c e q → c e q') (hf : ∀ e q q', (∀ r, q r → q' r) → f e q → f e q') : ∀ (n : Nat) (env : Env) (Q Q' : Out → Prop), (∀ o, Q o → Q' o) → wWh c f n env Q → wWh c f n env Q'
  | 0, _, _, _, _, w => w
  | n + 1, env, Q, Q', h, w => by
    refine hc env _ _ (fun b z => ?_) w
    cases b with
    | false => exact h _ z
    | true =>
      refine hf env _ _ (fun o z => ?_) z
      cases o with
      | nx e => exact wWh_mono hc hf n e _ _ h z
      | ct e => exact wWh_mono hc hf n e _ _ h z
      | bk e => exact h _ z
      | rt k d => exact h _ z
theorem wT_mono {G : Gam} {c : E} {env : Env} {Q Q' : Bool → Prop} (h : ∀ b, Q b → Q' b) (w : wT G c env Q) : wT G c env Q' := by
  refine wE_mono c env _ _ (fun k x z => ?_) w
  cases x <;> first | exact h _ z | exact z
theorem wS_mono {G : Gam} : ∀ (s : S) (env : Env) (Q Q' : Out → Prop), (∀ o, Q o → Q' o) → wS G s env Q → wS G s env Q' := by
  intro s
  induction s with
  | nil => exact fun env Q Q' h w => h _ w
  | seq s r is ir =>
    intro env Q Q' h w
    refine is env _ _ (fun o z => ?_) w
    cases o with
    | nx e => exact ir e _ _ h z
    | _ => exact h _ z
  | frz i => exact fun env Q Q' h w => h _ w
  | asg i e => exact fun env Q Q' h w => wE_mono e env _ _ (fun k d z => ⟨z.1, h _ z.2⟩) w
  | asgl i e => exact fun env Q Q' h w => wE_mono e env _ _ (fun k d z => ⟨z.1, h _ z.2⟩) w
  | asgT is e =>
    intro env Q Q' h w
    refine wE_mono e env _ _ (fun k d z => ⟨z.1, ?_⟩) w
    have z := z.2
    cases eb : bindT (.tp is) d env with
    | none => rw [eb] at z; exact z
    | some e1 => rw [eb] at z; exact h _ z
  | par i j a b => exact fun env Q Q' h w => wE_mono a env _ _ (fun k d z => wE_mono b env _ _ (fun k2 d2 z => ⟨z.1, z.2.1, h _ z.2.2⟩) z) w
  | aug i o e =>
    intro env Q Q' h w
    revert w
    show (match slot env i with | .sh x => wE G e env fun _ y => (match augD o x y with | some d => Q (.nx (env.set i (.sh d))) | none => False) | _ => False) → (match slot env i with | .sh x => wE G e env fun _ y => (match augD o x y with | some d => Q' (.nx (env.set i (.sh d))) | none => False) | _ => False)
    cases slot env i <;> intro w <;> try (exact w)
    rename_i x
    refine wE_mono e env _ _ (fun k y z => ?_) w
    revert z
    show (match augD o x y with | some d => Q (.nx (env.set i (.sh d))) | none => False) → (match augD o x y with | some d => Q' (.nx (env.set i (.sh d))) | none => False)
    cases augD o x y <;> intro z
    · exact z
    · exact h _ z
  | sub i ix e =>
    intro env Q Q' h w
    revert w
    unfold wS
    cases slot env i <;> intro w <;> try (exact w)
    rename_i ds
    refine wE_mono e env _ _ (fun k y z => ⟨z.1, wE_mono ix env _ _ (fun k2 n z => ?_) z.2⟩) w
    cases n <;> try (exact z)
    rename_i m
    revert z
    show (match ixN ds.length m with | some j => Q (.nx (env.set i (.ow (ds.set j y)))) | none => False) → (match ixN ds.length m with | some j => Q' (.nx (env.set i (.ow (ds.set j y)))) | none => False)
    cases ixN ds.length m <;> intro z
    · exact z
    · exact h _ z
  | app i e =>
    intro env Q Q' h w
    revert w
    unfold wS
    cases slot env i <;> intro w <;> try (exact w)
    exact wE_mono e env _ _ (fun k y z => ⟨z.1, z.2.1, h _ z.2.2⟩) w
  | appPop i j e =>
    intro env Q Q' h w
    revert w
    unfold wS
    cases slot env i <;> cases slot env j <;> intro w <;> try (exact w)
    rename_i ds es
    refine ⟨w.1, w.2.1, wE_mono e env _ _ (fun k y z => ?_) w.2.2⟩
    cases y <;> try (exact z)
    rename_i m
    revert z
    show (match ixN es.length m with | some q => (match es[q]? with | some d => Q (.nx ((env.set j (.ow (es.eraseIdx q))).set i (.ow (ds ++ [d])))) | none => False) | none => False) → (match ixN es.length m with | some q => (match es[q]? with | some d => Q' (.nx ((env.set j (.ow (es.eraseIdx q))).set i (.ow (ds ++ [d])))) | none => False) | none => False)
    cases ixN es.length m <;> intro z
    · exact z
    · rename_i q
      revert z
      show (match es[q]? with | some d => Q (.nx ((env.set j (.ow (es.eraseIdx q))).set i (.ow (ds ++ [d])))) | none => False) → (match es[q]? with | some d => Q' (.nx ((env.set j (.ow (es.eraseIdx q))).set i (.ow (ds ++ [d])))) | none => False)
      cases es[q]? <;> intro z
      · exact z
      · exact h _ z
  | ret e => exact fun env Q Q' h w => wE_mono e env _ _ (fun k d z => ⟨z.1, h _ z.2⟩) w
  | retv i =>
    intro env Q Q' h w
    revert w
    show (match slot env i with | .ow ds => Q (.rt .nw (.lst ds)) | .sh d => Q (.rt .fr d) | _ => False) → (match slot env i with | .ow ds => Q' (.rt .nw (.lst ds)) | .sh d => Q' (.rt .fr d) | _ => False)
    cases slot env i <;> intro w <;> first | exact h _ w | exact w
  | ret0 => exact fun env Q Q' h w => h _ w
  | ifS c a b ia ib =>
    intro env Q Q' h w
    refine wT_mono (fun r z => ?_) w
    cases r with
    | true => exact ia env _ _ h z
    | false => exact ib env _ _ h z
  | for_ lks tg it body ib =>
    intro env Q Q' h w
    refine wI_mono true it _ _ _ (fun items z => wFor_mono (fun x e q q' hq z => ?_) items _ _ _ (fun o z => ?_) z) w
    · cases eb : bindT tg x e with
      | none => rw [eb] at z; exact z
      | some e1 => rw [eb] at z; exact ib e1 _ _ hq z
    · cases o <;> first | exact h _ z | exact z
  | whl c body ib => exact fun env Q Q' h ⟨n, w⟩ => ⟨n, wWh_mono (c := wT G c) (f := wS G body) (fun e q q' hq z => wT_mono hq z) (fun e q q' hq z => ib e _ _ hq z) n env _ _ h w⟩
  | brk => exact fun env Q Q' h w => h _ w
  | cnt => exact fun env Q Q' h w => h _ w
  | pass => exact fun env Q Q' h w => h _ w
  | nvr => exact fun env Q Q' h w => w

/-! ### the check -/
def chkN (N : List Str) (sc : Scope) (i : Nat) (x : Str) : Bool := decide (N[i]? = some x) && locB sc x
def isLc : E → Bool
  | .lc .. => true
  | _ => false
def lcSw (sc : Scope) (x : Str) (line : Nat) (e : Expr) : Bool := match e with
  | .ListComp _ _ sc' p => (match sc.names.lookup x with
    | some .local => (line == p.line) && !(sc'.names.any fun (n, k) => n == x && (k == .local || k == .cell))
    | _ => false)
  | _ => false
def isLcE : Expr → Bool
  | .ListComp .. => true
  | _ => false
mutual
def chkS (N : List Str) (c : S) (sc : Scope) (st : Stmt) : Bool := match c with
  | .asg i e => (match st with
    | .Assign [.Name x p] v _ => chkN N sc i x && okSh v && wf e && chkE N e sc v && (!isLcE v || decide (sc.names.lookup x = some .cell))
    | _ => false)
  | .asgl i e => (match st with
    | .Assign [.Name x p] v _ => chkN N sc i x && wf e && chkE N e sc v && lcSw sc x p.line v && isLc e
    | _ => false)
  | .asgT is e => (match st with
    | .Assign [t] v _ => chkT N sc (fun _ => true) (.tp is) t && okSh v && !isLcE v && (match v with
      | .Tuple .. => false
      | _ => true) && wf e && chkE N e sc v
    | _ => false)
  | .par i j a b => (match st with
    | .Assign [.Tuple [.Name x px, .Name y py] _ _] (.Tuple [u, v] _ _) _ => chkN N sc i x && chkN N sc j y && decide (sc.names.lookup x = some .local) && decide (sc.names.lookup y = some .local) && decide (i ≠ j) && (px.line == py.line) && okSh u && okSh v &&
        !([u, v].all (foldedForSure 8)) && !([u, v].all (constantsAlone 8)) && wf a && wf b && chkE N a sc u && chkE N b sc v
    | _ => false)
  | .aug i o e => (match st with
    | .AugAssign (.Name x _) o' v _ => chkN N sc i x && decide (o = o') && (match o with | .Add => true | .Sub => true | _ => false) && wf e && chkE N e sc v
    | _ => false)
  | .sub i ix e => (match st with
    | .Assign [.Subscript (.Name x p) n _] v _ => decide (N[i]? = some x) && visB sc x && nmB x && okSh n && okSh v && !isLcE v && wf ix && wf e && chkE N ix sc n && chkE N e sc v
    | _ => false)
  | .app i e => (match st with
    | .Expr (.Call (.Attribute (.Name x _) n ap) [v] [] cp) _ => decide (n = ("append" : Str)) && decide (N[i]? = some x) && visB sc x && nmB x && (ap.endLine == cp.line) && okSh v && wf e && chkE N e sc v
    | _ => false)
  | .appPop i j e => (match st with
    | .Expr (.Call (.Attribute (.Name x _) n ap) [.Call (.Attribute (.Name y _) m aq) [v] [] cq] [] cp) _ => decide (n = ("append" : Str)) && decide (m = ("pop" : Str)) && decide (N[i]? = some x) && visB sc x && nmB x && decide (N[j]? = some y) && visB sc y && nmB y &&
        (ap.endLine == cp.line) && (aq.endLine == cq.line) && okSh v && wf e && chkE N e sc v
    | _ => false)
  | .ret e => (match st with
    | .Return (some v) _ => wf e && chkE N e sc v
    | _ => false)
  | .retv i => (match st with
    | .Return (some (.Name x _)) _ => decide (N[i]? = some x) && visB sc x && nmB x
    | _ => false)
  | .ret0 => (match st with
    | .Return none _ => true
    | _ => false)
  | .ifS c a b => (match st with
    | .If v xs ys _ => tOk c && wf c && chkE N c sc v && chkB N a sc xs && chkB N b sc ys
    | _ => false)
  | .for_ lks tg it body => (match st with
    | .For t i xs [] _ => chkT N sc (fun _ => true) tg t && okSh i && wf it && chkI N it sc i && chkB N body sc xs
    | _ => false)
  | .whl c body => (match st with
    | .While v xs [] _ => tOk c && wf c && chkE N c sc v && chkB N body sc xs
    | _ => false)
  | .brk => (match st with
    | .Break _ => true
    | _ => false)
  | .cnt => (match st with
    | .Continue _ => true
    | _ => false)
  | .pass => (match st with
    | .Pass _ => true
    | _ => false)
  | .nvr => true
  | _ => false
def chkB (N : List Str) (c : S) (sc : Scope) (sts : List Stmt) : Bool := match c with
  | .nil => sts.isEmpty
  | .seq s r => (match s with
    | .frz _ => chkB N r sc sts
    | s => (match sts with
      | st :: rest => chkS N s sc st && chkB N r sc rest
      | [] => false))
  | _ => false
end
end VL
/-! VL10: the text of a statement keeps its plain reading. -/
namespace VL
open PySem PySem.Spec PyProof.Rows L2

/-- the owned lists and those lent from outside -/
def Mo (B : Addr → Prop) (os : List (Option Addr)) : Addr → Prop := fun a => B a ∨ ∃ i : Nat, os[i]? = some (some a)
def SlOk (K : PySem.W.Frag) (C : Cls0) (B : Addr → Prop) (H0 H : Hp) (M : Addr → Prop) (o : Option Addr) (v : Option V) : Slot → Prop
  | .un => True
  | .sh d => ∃ x, v = some x ∧ Rp K C H M x d
  | .bo d => ∃ x, v = some x ∧ Rb K C H0 B x d
  | .ow ds => ∃ a vs, o = some a ∧ v = some (.ref a) ∧ H a = some (.lst vs) ∧ RpA K C H M vs ds
  | .lk ds => ∃ a vs, o = some a ∧ v = some (.ref a) ∧ H a = some (.lst vs) ∧ RpA K C H M vs ds
structure Rep (K : PySem.W.Frag) (C : Cls0) (B : Addr → Prop) (H0 : Hp) (σ : L2.St) (H : Hp) (os : List (Option Addr)) (env : Env) : Prop where
  l1 : σ.length = env.length
  l2 : os.length = env.length
  inj : ∀ (i j : Nat) a, os[i]? = some (some a) → os[j]? = some (some a) → i = j
  new : ∀ (i : Nat) a, os[i]? = some (some a) → H0 a = none ∧ ¬ B a ∧ ∃ vs, H a = some (.lst vs)
  bd : Dm H0 B
  sm : Same H0 H
  sl : ∀ i, SlOk K C B H0 H (Mo B os) (os[i]?).join (σ[i]?).join (slot env i)
/-- the owned lists that are open to change -/
def UO (os : List (Option Addr)) (env : Env) : Addr → Prop := fun a => ∃ i ds, os[i]? = some (some a) ∧ slot env i = .ow ds
structure FrS (H : Hp) (os : List (Option Addr)) (env : Env) (H' : Hp) (os' : List (Option Addr)) (env' : Env) : Prop where
  keep : ∀ a o, H a = some o → H' a = some o ∨ (UO os env a ∧ ∃ vs, H' a = some (.lst vs))
  own : ∀ a, UO os' env' a → H a = none ∨ UO os env a
  pos : ∀ (i : Nat) a, os'[i]? = some (some a) → H a = none ∨ os[i]? = some (some a)
section
variable {K : PySem.W.Frag} {C : Cls0} {B : Addr → Prop} {H0 H H' H'' : Hp} {σ σ' : L2.St} {os os' os'' : List (Option Addr)} {env env' env'' : Env}
theorem FrS.refl : FrS H os env H os env := ⟨fun _ _ e => .inl e, fun _ u => .inr u, fun _ _ e => .inr e⟩
theorem FrS.there (a : FrS H os env H' os' env') {x : Addr} (h : H' x = none) : H x = none := by
  cases q : H x with
  | none => rfl
  | some o =>
    rcases a.keep x o q with e | ⟨_, vs, e⟩ <;> rw [h] at e <;> cases e
theorem FrS.trans (a : FrS H os env H' os' env') (b : FrS H' os' env' H'' os'' env'') : FrS H os env H'' os'' env'' where
  keep := fun x o e => by
    rcases a.keep x o e with e1 | ⟨u, vs, e1⟩
    · rcases b.keep x o e1 with e2 | ⟨u, w⟩
      · exact .inl e2
      · rcases a.own x u with n | u
        · rw [e] at n; cases n
        · exact .inr ⟨u, w⟩
    · rcases b.keep x _ e1 with e2 | ⟨_, w⟩
      · exact .inr ⟨u, vs, e2⟩
      · exact .inr ⟨u, w⟩
  own := fun x u => by
    rcases b.own x u with n | u
    · exact .inl (a.there n)
    · exact a.own x u
  pos := fun i x e => by
    rcases b.pos i x e with n | e
    · exact .inl (a.there n)
    · exact a.pos i x e
theorem FrS.of_same (s : Same H H') (u : ∀ a, UO os' env' a → H a = none ∨ UO os env a) (p : ∀ (i : Nat) a, os'[i]? = some (some a) → H a = none ∨ os[i]? = some (some a)) : FrS H os env H' os' env' := ⟨fun a o e => .inl (s a o e), u, p⟩
theorem join_some {o : Option (Option Addr)} {a : Addr} (e : o.join = some a) : o = some (some a) := by
  cases o with
  | none => cases e
  | some z => cases z with
    | none => cases e
    | some y => cases e; rfl
theorem Rep.dom (r : Rep K C B H0 σ H os env) : Dm H (Mo B os) := fun a m z => by
  rcases m with m | ⟨i, e⟩
  · exact (r.bd.same r.sm) a m z
  · obtain ⟨_, _, vs, e1⟩ := r.new i a e
    have z : H a = none := z
    rw [e1] at z; cases z
/-- what was lent at the entry is lent still -/
theorem Rep.lt0 (r : Rep K C B H0 σ H os env) : Lt H0 B (Mo B os) := fun a o e m => by
  rcases m with m | ⟨i, e1⟩
  · exact m
  · rw [(r.new i a e1).1] at e; cases e
theorem Rep.eo (r : Rep K C B H0 σ H os env) : EnvOk K C H (Mo B os) (UO os env) σ env where
  len := r.l1
  dom := r.dom
  sl := fun i => by
    have h := r.sl i
    cases e : slot env i with
    | un => trivial
    | sh d => rw [e] at h; exact h
    | bo d =>
      rw [e] at h
      obtain ⟨x, e1, h⟩ := h
      refine ⟨x, e1, ?_⟩
      rcases h with h | ⟨a, vs, ds, e2, e3, e4, h⟩
      · exact .inl (h.kp (Kp.of_same r.sm) r.lt0)
      · refine .inr ⟨a, vs, ds, e2, e3, fun ⟨j, es, u, _⟩ => ?_, r.sm _ _ e4, h.kp (Kp.of_same r.sm) r.lt0⟩
        rw [(r.new j a u).1] at e4; cases e4
    | ow ds => rw [e] at h; obtain ⟨a, vs, e1, e2, e3, h⟩ := h; exact ⟨a, vs, e2, e3, h⟩
    | lk ds =>
      rw [e] at h
      obtain ⟨a, vs, e1, e2, e3, h⟩ := h
      refine ⟨a, vs, e2, fun ⟨j, es, u, q⟩ => ?_, e3, h⟩
      have := r.inj i j a (join_some e1) u
      subst this
      rw [e] at q; cases q
theorem Rep.u (r : Rep K C B H0 σ H os env) : ∀ b, UO os env b → Mo B os b ∧ ∃ vs, H b = some (.lst vs) := fun b ⟨i, ds, e, _⟩ => ⟨.inr ⟨i, e⟩, (r.new i b e).2.2⟩
/-- the heap grows -/
theorem Rep.same (r : Rep K C B H0 σ H os env) (s : Same H H') : Rep K C B H0 σ H' os env where
  l1 := r.l1
  l2 := r.l2
  inj := r.inj
  new := fun i a e => by
    obtain ⟨h1, h2, vs, h3⟩ := r.new i a e
    exact ⟨h1, h2, vs, s _ _ h3⟩
  bd := r.bd
  sm := r.sm.trans s
  sl := fun i => by
    have h := r.sl i
    cases e : slot env i with
    | un => trivial
    | sh d => rw [e] at h; obtain ⟨x, e1, h⟩ := h; exact ⟨x, e1, h.same s⟩
    | bo d => rw [e] at h; exact h
    | ow ds => rw [e] at h; obtain ⟨a, vs, e1, e2, e3, h⟩ := h; exact ⟨a, vs, e1, e2, s _ _ e3, h.same s⟩
    | lk ds => rw [e] at h; obtain ⟨a, vs, e1, e2, e3, h⟩ := h; exact ⟨a, vs, e1, e2, s _ _ e3, h.same s⟩
theorem get_set {α : Type} (l : List α) (i j : Nat) (v : α) : (l.set i v)[j]? = if i = j ∧ i < l.length then some v else l[j]? := by
  rw [List.getElem?_set]
  by_cases h : i = j
  · subst h
    by_cases hl : i < l.length
    · simp [hl]
    · simp [hl]
  · simp [h]
/-- what an owned list's change leaves -/
theorem SlOk.kp {M M' : Addr → Prop} {o : Option Addr} {v : Option V} {s : Slot} (k : Kp M H H') (l : Lt H M M') (h : SlOk K C B H0 H M o v s) (ow : ∀ a ds, o = some a → (s = .ow ds ∨ s = .lk ds) → ∀ vs, H a = some (.lst vs) → H' a = some (.lst vs)) : SlOk K C B H0 H' M' o v s := by
  cases s with
  | un => trivial
  | sh d => obtain ⟨x, e1, h⟩ := h; exact ⟨x, e1, h.kp k l⟩
  | bo d => exact h
  | ow ds => obtain ⟨a, vs, e1, e2, e3, h⟩ := h; exact ⟨a, vs, e1, e2, ow a ds e1 (.inl rfl) vs e3, h.kp k l⟩
  | lk ds => obtain ⟨a, vs, e1, e2, e3, h⟩ := h; exact ⟨a, vs, e1, e2, ow a ds e1 (.inr rfl) vs e3, h.kp k l⟩
/-- a frozen thing comes to a slot -/
theorem Rep.put (r : Rep K C B H0 σ H os env) {i : Nat} {v : V} {d : D} (h : Rp K C H (Mo B os) v d) : Rep K C B H0 (σ.set i (some v)) H (os.set i none) (env.set i (.sh d)) ∧ FrS H os env H (os.set i none) (env.set i (.sh d)) := by
  have sub : ∀ (j : Nat) a, (os.set i none)[j]? = some (some a) → os[j]? = some (some a) := fun j a e => by
    rw [get_set] at e
    by_cases c : i = j ∧ i < os.length
    · rw [if_pos c] at e; cases e
    · rw [if_neg c] at e; exact e
  have lt : Lt H (Mo B os) (Mo B (os.set i none)) := fun a o e m => by
    rcases m with m | ⟨j, e⟩
    · exact .inl m
    · exact .inr ⟨j, sub j a e⟩
  refine ⟨⟨by rw [List.length_set, List.length_set]; exact r.l1, by rw [List.length_set, List.length_set]; exact r.l2, fun j l a e1 e2 => r.inj j l a (sub j a e1) (sub l a e2), fun j a e => r.new j a (sub j a e), r.bd, r.sm, fun j => ?_⟩, FrS.of_same (Same.refl H) (fun a ⟨j, ds, e1, e2⟩ => ?_) fun j a e => .inr (sub j a e)⟩
  · rw [slot_set, join_set, r.l1]
    by_cases c : i = j ∧ i < env.length
    · rw [if_pos c, if_pos c]
      exact ⟨v, rfl, h.kp Kp.refl lt⟩
    · rw [if_neg c, if_neg c]
      have e : (os.set i none)[j]? = os[j]? := by
        rw [get_set, r.l2, if_neg c]
      rw [e]
      exact (r.sl j).kp Kp.refl lt fun a ds _ _ vs e => e
  · rw [slot_set] at e2
    by_cases c : i = j ∧ i < env.length
    · rw [if_pos c] at e2; cases e2
    · rw [if_neg c] at e2
      exact .inr ⟨j, ds, sub j a e1, e2⟩
/-- a new list comes to a slot; H1: the heap ahead of its making -/
theorem Rep.putN (r : Rep K C B H0 σ H os env) (hs : Same H H') {i : Nat} {v : V} {ds : List D} (h : Rn K C H H' (Mo B os) v (.lst ds)) : ∃ os', Rep K C B H0 (σ.set i (some v)) H' os' (env.set i (.ow ds)) ∧ FrS H os env H' os' (env.set i (.ow ds)) := by
  obtain ⟨a, vs, es, rfl, e, na, nm, e1, ra⟩ := h
  cases e
  have r' := r.same hs
  have sub : ∀ (j : Nat) b, (os.set i (some a))[j]? = some (some b) → (b = a ∧ i = j) ∨ (b ≠ a ∧ os[j]? = some (some b)) := fun j b e => by
    rw [get_set] at e
    by_cases c : i = j ∧ i < os.length
    · rw [if_pos c] at e
      exact .inl ⟨(Option.some.inj (Option.some.inj e)).symm, c.1⟩
    · rw [if_neg c] at e
      refine .inr ⟨fun z => ?_, e⟩
      subst z
      exact nm (.inr ⟨j, e⟩)

  have mo : ∀ b, Mo B (os.set i (some a)) b → Mo B os b ∨ b = a := fun b m => by
    rcases m with m | ⟨j, e⟩
    · exact .inl (.inl m)
    · rcases sub j b e with ⟨z, _⟩ | ⟨_, z⟩
      · exact .inr z
      · exact .inl (.inr ⟨j, z⟩)
  have ltH : Lt H (Mo B os) (Mo B (os.set i (some a))) := fun b o e m => by
    rcases mo b m with m | z
    · exact m
    · rw [z, na] at e; cases e
  refine ⟨os.set i (some a), ⟨by rw [List.length_set, List.length_set]; exact r.l1, by rw [List.length_set, List.length_set]; exact r.l2, fun j l b e1 e2 => ?_, fun j b e => ?_, r.bd, r.sm.trans hs, fun j => ?_⟩, FrS.of_same hs (fun b ⟨j, es, e2, e3⟩ => ?_) fun j b e => (sub j b e).elim (fun z => .inl (by rw [z.1]; exact na)) fun z => .inr z.2⟩
  · rcases sub j b e1 with ⟨z1, z2⟩ | ⟨z1, z2⟩ <;> rcases sub l b e2 with ⟨y1, y2⟩ | ⟨y1, y2⟩
    · rw [← z2, ← y2]
    · exact (y1 z1).elim
    · exact (z1 y1).elim
    · exact r.inj j l b z2 y2
  · rcases sub j b e with ⟨z1, _⟩ | ⟨_, z⟩
    · subst z1
      exact ⟨r.sm.free na, fun z => nm (.inl z), vs, e1⟩
    · exact r'.new j b z
  · rw [slot_set, join_set, r.l1]
    by_cases c : i = j ∧ i < env.length
    · rw [if_pos c, if_pos c]
      have e : (os.set i (some a))[j]? = some (some a) := by
        rw [get_set, r.l2, if_pos c]
      rw [e]
      exact ⟨a, vs, rfl, rfl, e1, ra.kp Kp.refl (Lt.of mo)⟩
    · rw [if_neg c, if_neg c]
      have e : (os.set i (some a))[j]? = os[j]? := by
        rw [get_set, r.l2, if_neg c]
      rw [e]
      exact (r.sl j).kp (Kp.of_same hs) ltH fun b ds _ _ vs e => hs _ _ e
  · rw [slot_set] at e3
    by_cases c : i = j ∧ i < env.length
    · obtain ⟨c1, c2⟩ := c
      subst c1
      rcases sub i b e2 with ⟨z, _⟩ | ⟨_, z⟩
      · rw [z]; exact .inl na
      · have e : (os.set i (some a))[i]? = some (some a) := by
          rw [get_set, r.l2, if_pos ⟨rfl, c2⟩]
        rw [e] at e2
        have z := Option.some.inj (Option.some.inj e2)
        rw [← z]; exact .inl na
    · rw [if_neg c] at e3
      rcases sub j b e2 with ⟨z1, z2⟩ | ⟨_, z⟩
      · rw [z1]; exact .inl na
      · exact .inr ⟨j, es, z, e3⟩
/-- an owned list is changed -/
theorem Rep.chg (r : Rep K C B H0 σ H os env) {i : Nat} {ds : List D} (hi : slot env i = .ow ds) : ∃ a vs, os[i]? = some (some a) ∧ σ[i]? = some (some (.ref a)) ∧ H a = some (.lst vs) ∧ RpA K C H (Mo B os) vs ds ∧
    ∀ vs' ds', RpA K C H (Mo B os) vs' ds' → Rep K C B H0 σ (upd H a (.lst vs')) os (env.set i (.ow ds')) ∧ FrS H os env (upd H a (.lst vs')) os (env.set i (.ow ds')) := by
  have h := r.sl i
  rw [hi] at h
  obtain ⟨a, vs, e1, e2, e3, h⟩ := h
  have e1 := join_some e1
  have hl : i < env.length := by
    rw [← r.l2]
    exact (List.getElem?_eq_some_iff.mp e1).1
  refine ⟨a, vs, e1, jn e2, e3, h, fun vs' ds' h' => ?_⟩
  have kp : Kp (Mo B os) H (upd H a (.lst vs')) := fun b o e => by
    by_cases hb : b = a
    · subst hb
      rw [e3] at e; cases e
      exact .inl ⟨.inr ⟨i, e1⟩, vs, rfl⟩
    · exact .inr (by rw [upd_ne hb]; exact e)
  have uo : ∀ b, UO os (env.set i (.ow ds')) b → UO os env b := fun b ⟨j, es, e2, e3⟩ => by
    rw [slot_set] at e3
    by_cases c : i = j ∧ i < env.length
    · rw [← c.1] at e2
      exact ⟨i, ds, e2, hi⟩
    · rw [if_neg c] at e3
      exact ⟨j, es, e2, e3⟩
  refine ⟨⟨by rw [List.length_set]; exact r.l1, by rw [List.length_set]; exact r.l2, r.inj, fun j b e => ?_, r.bd, fun b o e => ?_, fun j => ?_⟩, ⟨fun b o e => ?_, fun b u => .inr (uo b u), fun _ _ e => .inr e⟩⟩
  · obtain ⟨q1, q2, ws, q3⟩ := r.new j b e
    refine ⟨q1, q2, ?_⟩
    by_cases hb : b = a
    · exact ⟨vs', by rw [hb]; exact upd_same⟩
    · exact ⟨ws, by rw [upd_ne hb]; exact q3⟩
  · have hb : b ≠ a := fun z => by
      rw [z, (r.new i a e1).1] at e; cases e
    rw [upd_ne hb]
    exact r.sm _ _ e
  · rw [slot_set]
    by_cases c : i = j ∧ i < env.length
    · rw [if_pos c]
      obtain ⟨c1, _⟩ := c
      subst c1
      rw [e1]
      exact ⟨a, vs', rfl, e2, upd_same, h'.kp kp Lt.refl⟩
    · rw [if_neg c]
      refine (r.sl j).kp kp Lt.refl fun b es eo _ ws e => ?_
      have hb : b ≠ a := fun z => by
        subst z
        exact c ⟨r.inj i j b e1 (join_some eo), hl⟩
      rw [upd_ne hb]
      exact e
  · by_cases hb : b = a
    · exact .inr ⟨by rw [hb]; exact ⟨i, ds, e1, hi⟩, vs', by rw [hb]; exact upd_same⟩
    · exact .inl (by rw [upd_ne hb]; exact e)
/-- an owned list is frozen -/
theorem Rep.frz (r : Rep K C B H0 σ H os env) (i : Nat) : ∃ os', Rep K C B H0 σ H os' (frzE env i) ∧ FrS H os env H os' (frzE env i) := by
  unfold frzE
  cases hi : slot env i with
  | ow ds =>
    have h := r.sl i
    rw [hi] at h
    obtain ⟨a, vs, e1, e2, e3, h⟩ := h
    have e1 := join_some e1
    have p := r.put (i := i) (v := .ref a) (d := .lst ds)
    have sub : ∀ (j : Nat) b, (os.set i none)[j]? = some (some b) → b ≠ a ∧ os[j]? = some (some b) := fun j b e => by
      rw [get_set] at e
      by_cases c : i = j ∧ i < os.length
      · rw [if_pos c] at e; cases e
      · rw [if_neg c] at e
        refine ⟨fun z => ?_, e⟩
        subst z
        exact c ⟨r.inj i j b e1 e, (List.getElem?_eq_some_iff.mp e1).1⟩
    have lt : Lt H (Mo B os) (Mo B (os.set i none)) := fun b o e m => by
      rcases m with m | ⟨j, e⟩
      · exact .inl m
      · exact .inr ⟨j, (sub j b e).2⟩
    have nm : ¬ Mo B (os.set i none) a := fun m => by
      rcases m with m | ⟨j, e⟩
      · exact (r.new i a e1).2.1 m
      · exact (sub j a e).1 rfl
    refine ⟨os.set i none, ⟨by rw [List.length_set]; exact r.l1, by rw [List.length_set, List.length_set]; exact r.l2, fun j l b e1 e2 => r.inj j l b (sub j b e1).2 (sub l b e2).2, fun j b e => r.new j b (sub j b e).2, r.bd, r.sm, fun j => ?_⟩, FrS.of_same (Same.refl H) (fun b ⟨j, es, e4, e5⟩ => ?_) fun j b e => .inr (sub j b e).2⟩
    · rw [slot_set]
      by_cases c : i = j ∧ i < env.length
      · rw [if_pos c]
        obtain ⟨c1, _⟩ := c
        subst c1
        exact ⟨.ref a, e2, .lst e3 nm (h.kp Kp.refl lt)⟩
      · rw [if_neg c]
        have e : (os.set i none)[j]? = os[j]? := by
          rw [get_set, r.l2, if_neg c]
        rw [e]
        exact (r.sl j).kp Kp.refl lt fun a ds _ _ vs e => e
    · rw [slot_set] at e5
      by_cases c : i = j ∧ i < env.length
      · rw [if_pos c] at e5; cases e5
      · rw [if_neg c] at e5
        exact .inr ⟨j, es, (sub j b e4).2, e5⟩
  | _ => exact ⟨os, r, FrS.refl⟩
/-- slots that say the same otherwise -/
theorem Rep.as (r : Rep K C B H0 σ H os env) {env' : Env} (hl : env'.length = env.length) (h : ∀ i, slot env' i = slot env i ∨ ∃ ds, (slot env i = .ow ds ∨ slot env i = .lk ds) ∧ (slot env' i = .ow ds ∨ slot env' i = .lk ds)) : Rep K C B H0 σ H os env' where
  l1 := r.l1.trans hl.symm
  l2 := r.l2.trans hl.symm
  inj := r.inj
  new := r.new
  bd := r.bd
  sm := r.sm
  sl := fun i => by
    have q := r.sl i
    rcases h i with e | ⟨ds, e1, e2⟩
    · rw [e]; exact q
    · have q' : SlOk K C B H0 H (Mo B os) (os[i]?).join (σ[i]?).join (.ow ds) := by
        rcases e1 with e1 | e1 <;> rw [e1] at q <;> exact q
      rcases e2 with e2 | e2 <;> rw [e2] <;> exact q'
theorem lockE_len : ∀ (lks : List Nat), (lockE env lks).length = env.length
  | [] => rfl
  | i :: is => by
    unfold lockE
    split
    · rw [List.length_set]; exact lockE_len is
    · exact lockE_len is
theorem lockE_slot : ∀ (lks : List Nat) (j : Nat), slot (lockE env lks) j = slot env j ∨ ∃ ds, slot env j = .ow ds ∧ slot (lockE env lks) j = .lk ds
  | [], j => .inl rfl
  | i :: is, j => by
    have ih := lockE_slot is j
    unfold lockE
    split
    · rename_i ds e
      rw [slot_set]
      by_cases c : i = j ∧ i < (lockE env is).length
      · rw [if_pos c]
        obtain ⟨c1, _⟩ := c
        subst c1
        rcases ih with q | ⟨es, q1, q2⟩
        · rw [q] at e; exact .inr ⟨ds, e, rfl⟩
        · rw [q2] at e; cases e
      · rw [if_neg c]; exact ih
    · exact ih
theorem unlE_len {e : Env} : ∀ (lks : List Nat), (unlE env lks e).length = e.length
  | [] => rfl
  | i :: is => by
    unfold unlE
    split
    · rw [List.length_set]; exact unlE_len is
    · exact unlE_len is
theorem unlE_slot {e : Env} : ∀ (lks : List Nat) (j : Nat), slot (unlE env lks e) j = slot e j ∨ ∃ ds, slot e j = .lk ds ∧ slot (unlE env lks e) j = .ow ds ∧ ∃ es, slot env j = .ow es
  | [], j => .inl rfl
  | i :: is, j => by
    have ih := unlE_slot (e := e) is j
    unfold unlE
    split
    · rename_i es ds e1 e2
      rw [slot_set]
      by_cases c : i = j ∧ i < (unlE env is e).length
      · rw [if_pos c]
        obtain ⟨c1, _⟩ := c
        subst c1
        rcases ih with q | ⟨fs, q1, q2, q3⟩
        · rw [q] at e2; exact .inr ⟨ds, e2, rfl, es, e1⟩
        · rw [q2] at e2; cases e2
      · rw [if_neg c]; exact ih
    · exact ih
end
end VL
/-! VL11: the text of a statement keeps its plain reading. -/
namespace VL
open PySem PySem.Spec PyProof.Rows L2

def Post (K : PySem.W.Frag) (C : Cls0) (B : Addr → Prop) (H0 : Hp) (D : Ends) (H : Hp) (os : List (Option Addr)) (env : Env) : Out → Prop
  | .nx e => ∀ σ' H' os', Rep K C B H0 σ' H' os' e → FrS H os env H' os' e → D.nx σ' H'
  | .bk e => ∀ σ' H' os', Rep K C B H0 σ' H' os' e → FrS H os env H' os' e → D.bk σ' H'
  | .ct e => ∀ σ' H' os', Rep K C B H0 σ' H' os' e → FrS H os env H' os' e → D.ct σ' H'
  | .rt k d => ∀ v H', Same H0 H' → Rk K C H0 H' B k v d → D.rt v H'
def tS (G : Gam) (K : PySem.W.Frag) (C : Cls0) (B : Addr → Prop) (H0 : Hp) (s : S) : TS := fun D σ H => ∃ os env, Rep K C B H0 σ H os env ∧ wS G s env (Post K C B H0 D H os env)
section
variable {K : PySem.W.Frag} {C : Cls0} {B : Addr → Prop} {H0 H H' : Hp} {D : Ends} {os os' : List (Option Addr)} {env env' : Env}
theorem Post.lift (f : FrS H os env H' os' env') : ∀ {o : Out}, Post K C B H0 D H os env o → Post K C B H0 D H' os' env' o
  | .nx e, p => fun σ2 H2 os2 r g => p σ2 H2 os2 r (f.trans g)
  | .bk e, p => fun σ2 H2 os2 r g => p σ2 H2 os2 r (f.trans g)
  | .ct e, p => fun σ2 H2 os2 r g => p σ2 H2 os2 r (f.trans g)
  | .rt k d, p => p
end
structure GdS (N : List Str) (G : Gam) (C : Cls0) (k : Nat) (X : Cx) : Prop where
  g : Gd N G C k X
  kind : X.env.scope.kind = .function
  xe : X.xe = fun _ _ => False
  fn : ∀ x, X.fn x = true
section
variable {N : List Str} {G : Gam} {C : Cls0} {k : Nat} {X : Cx} {B : Addr → Prop} {H0 : Hp}
theorem GdS.pass (g : GdS N G C k X) : PassesOwn (model X.prog X.w) X.A X.env X.xe := by
  rw [g.xe]
  exact PassesOwn.never
theorem GdS.tg (g : GdS N G C k X) {x : Str} (h : locB X.env.scope x = true) : TgX X x := by
  refine ⟨?_, .inl (g.fn x)⟩
  rcases loc_of h with e | e
  · exact .inl e
  · exact .inr e
theorem PS.imp {st : Stmt} {t t' : TS} (h : PS X st t) (i : ∀ D σ H, t' D σ H → t D σ H) : PS X st t' := ⟨fun pins s σ H D I q => h.run pins s σ H D I (i _ _ _ q)⟩
theorem PSs.imp {st : List Stmt} {t t' : TS} (h : PSs X st t) (i : ∀ D σ H, t' D σ H → t D σ H) : PSs X st t' := ⟨fun pins s σ H D I q => h.run pins s σ H D I (i _ _ _ q)⟩
/-- a statement; a block -/
structure Sns (N : List Str) (G : Gam) (C : Cls0) (k : Nat) (s : S) : Prop where
  st : ∀ (X : Cx) (B : Addr → Prop) (H0 : Hp) (st : Stmt), GdS N G C k X → chkS N s X.env.scope st = true → PS X st (tS G X.K C B H0 s)
  bl : ∀ (X : Cx) (B : Addr → Prop) (H0 : Hp) (st : List Stmt), GdS N G C k X → chkB N s X.env.scope st = true → PSs X st (tS G X.K C B H0 s)
theorem Sns.ofS {c : S} (s : ∀ (X : Cx) (B : Addr → Prop) (H0 : Hp) (st : Stmt), GdS N G C k X → chkS N c X.env.scope st = true → PS X st (tS G X.K C B H0 c)) (b : ∀ sc st, chkB N c sc st = false := by intros; rfl) : Sns N G C k c :=
  ⟨s, fun X B H0 st _ h => absurd h (by rw [b]; decide)⟩
/-- an expression's value at a statement -/
theorem at_E {c : E} {K : PySem.W.Frag} {σ : L2.St} {H : Hp} {os : List (Option Addr)} {env : Env} {P : Kd → D → Prop} {R : VK} (r : Rep K C B H0 σ H os env) (w : wE G c env P)
    (h : ∀ kd v d H', Same H H' → Rep K C B H0 σ H' os env → FrS H os env H' os env → Rk K C H H' (Mo B os) kd v d → P kd d → R v H') : tE G K C c σ H R :=
  one r.eo w fun kd x d H' s _ rk z => h kd x d H' s (r.same s) (FrS.of_same s (fun _ u => .inr u) fun _ _ e => .inr e) rk z
theorem at_T {c : E} {K : PySem.W.Frag} {σ : L2.St} {H : Hp} {os : List (Option Addr)} {env : Env} {P : Bool → Prop} {R : Bool → Hp → Prop} (r : Rep K C B H0 σ H os env) (w : wT G c env P)
    (h : ∀ b H', Same H H' → Rep K C B H0 σ H' os env → FrS H os env H' os env → P b → R b H') : tT G K C c σ H R := by
  refine ⟨_, _, env, r.eo, wE_mono c env _ _ (fun kd d z => ?_) w⟩
  cases d <;> try (exact z.elim)
  rename_i b
  exact ⟨b, rfl, fun H' s => h b H' s (r.same s) (FrS.of_same s (fun _ u => .inr u) fun _ _ e => .inr e) z⟩
theorem chkN_of {sc : Scope} {i : Nat} {x : Str} (h : chkN N sc i x = true) : N[i]? = some x ∧ locB sc x = true := by
  unfold chkN at h
  rw [Bool.and_eq_true] at h
  exact ⟨of_decide_eq_true h.1, h.2⟩
theorem put_K {K : PySem.W.Frag} {σ : L2.St} {H H' : Hp} {os : List (Option Addr)} {env : Env} {R : Ends} {i : Nat} {kd : Kd} {v : V} {d : VL.D} (r : Rep K C B H0 σ H os env) (s : Same H H') (rk : Rk K C H H' (Mo B os) kd v d) (hf : kd.frz = true)
    (p : Post K C B H0 R H os env (.nx (env.set i (mkS kd d)))) : R.nx (σ.set i (some v)) H' := by
  have f := FrS.of_same (os := os) (env := env) s (fun _ u => .inr u) fun _ _ e => .inr e
  have fr : Rp K C H' (Mo B os) v d → mkS kd d = .sh d → R.nx (σ.set i (some v)) H' := fun h e => by
    obtain ⟨r2, f2⟩ := (r.same s).put (i := i) h
    rw [e] at p
    exact p _ _ _ r2 (f.trans f2)
  cases kd with
  | nw =>
    obtain ⟨a, vs, ds, e1, rfl, rest⟩ := id rk
    obtain ⟨os', r2, f2⟩ := r.putN (i := i) s rk
    exact p _ _ _ r2 f2
  | fr => exact fr rk rfl
  | b1 => cases hf
theorem n_nil : Sns N G C k .nil := by
  refine ⟨fun X B H0 st g h => ?_, fun X B H0 st g h => ?_⟩
  · unfold chkS at h; cases h
  · unfold chkB at h
    have e : st = [] := List.isEmpty_iff.mp h
    subst e
    exact PSs.imp pss_nil fun D σ H ⟨os, env, r, w⟩ => w σ H os r FrS.refl
theorem and2 {a b : Bool} (h : (a && b) = true) : a = true ∧ b = true := by rwa [Bool.and_eq_true] at h
theorem chkB_seq {s r : S} {sc : Scope} {st : List Stmt} (h : chkB N (.seq s r) sc st = true) : (∃ i, s = .frz i ∧ chkB N r sc st = true) ∨ ∃ x rest, st = x :: rest ∧ chkS N s sc x = true ∧ chkB N r sc rest = true := by
  cases s with
  | frz i => exact .inl ⟨i, rfl, h⟩
  | _ =>
    cases st with
    | nil => cases h
    | cons x rest => exact .inr ⟨x, rest, rfl, and2 (show (chkS N _ sc x && chkB N r sc rest) = true from h)⟩
theorem n_seq {s r : S} (hs : Sns N G C k s) (hr : Sns N G C k r) : Sns N G C k (.seq s r) := by
  refine ⟨fun X B H0 st g h => ?_, fun X B H0 st g h => ?_⟩
  · unfold chkS at h; cases h
  · rcases chkB_seq h with ⟨i, rfl, h⟩ | ⟨st, rest, rfl, h1, h2⟩
    · refine PSs.imp (hr.bl X B H0 st g h) fun D σ H ⟨os, env, rp, w⟩ => ?_
      obtain ⟨os', r2, f2⟩ := rp.frz i
      exact ⟨os', _, r2, wS_mono r _ _ _ (fun o z => Post.lift f2 z) w⟩
    · refine PSs.imp (pss_cons (hs.st X B H0 _ g h1) (hr.bl X B H0 _ g h2)) fun D σ H ⟨os, env, rp, w⟩ => ?_
      refine ⟨os, env, rp, wS_mono s _ _ _ (fun o z => ?_) w⟩
      cases o with
      | nx e => exact fun σ' H' os' r2 f2 => ⟨os', e, r2, wS_mono r _ _ _ (fun o z => Post.lift f2 z) z⟩
      | bk e => exact z
      | ct e => exact z
      | rt k d => exact z
theorem sw_true' {x : Str} {p : Pos} {e : Expr} {line : Nat} (g : GdS N G C k X) (h : lcSw X.env.scope x p.line e = true) : swapsWith e (some (.Name x p)) line X.env = pure true := by
  unfold lcSw at h
  split at h
  · rename_i el gs sc' pp
    split at h
    · rename_i hl
      rw [Bool.and_eq_true] at h
      exact sw_true g.kind hl h.1 (by simpa using h.2)
    · cases h
  · cases h
theorem n_asg (i : Nat) (e : E) : Sns N G C k (.asg i e) := by
  refine .ofS fun X B H0 st g h => ?_
  unfold chkS at h
  split at h
  · rename_i x p v q
    simp only [Bool.and_eq_true] at h
    obtain ⟨⟨⟨⟨h1, h2⟩, h3⟩, h4⟩, h5⟩ := h
    obtain ⟨hn, hl⟩ := chkN_of h1
    have hsw : swapsWith v (some (.Name x p)) q.line X.env = pure false := by
      cases hc : isLcE v with
      | false => exact sw_of h2 fun a b c d z => by rw [z] at hc; cases hc
      | true =>
        rw [hc] at h5
        have hk0 : X.env.scope.names.lookup x = some .cell := of_decide_eq_true (by simpa using h5)
        have hk : X.env.kindOf x = some .cell := hk0
        cases v <;> try (cases hc; done)
        unfold swapsWith
        have hl : ((some NameKind.cell : Option NameKind) == some NameKind.local) = false := rfl
        simp [hk, hl]
    refine PS.imp (ps_set (by rw [g.g.nm]; exact g.g.nd) (by rw [g.g.nm]; exact hn) (g.tg hl).1 ((snd (N := N) (G := G) (C := C) (k := k) e h3).1.e X v g.g h4) hsw (.inl (g.fn x))) fun D σ H ⟨os, env, r, w⟩ => ?_
    exact at_E r w fun kd v d H' s r' f rk z => put_K r s rk z.1 z.2
  · cases h
theorem n_asgl (i : Nat) (e : E) : Sns N G C k (.asgl i e) := by
  refine .ofS fun X B H0 st g h => ?_
  unfold chkS at h
  split at h
  · rename_i x p v q
    simp only [Bool.and_eq_true] at h
    obtain ⟨⟨⟨⟨h1, h3⟩, h4⟩, h5⟩, h6⟩ := h
    obtain ⟨hn, hl⟩ := chkN_of h1
    cases e <;> try (cases h6; done)
    rename_i own tg it cond elt
    have h3 : (cOk cond && wf it && wf cond && wf elt) = true := h3
    rw [Bool.and_eq_true, Bool.and_eq_true, Bool.and_eq_true] at h3
    have hloc : X.env.scope.names.lookup x = some .local := by
      unfold lcSw at h5
      split at h5
      · split at h5
        · assumption
        · cases h5
      · cases h5
    unfold chkE at h4
    split at h4
    · rename_i y t ii ifs sc' ev
      obtain ⟨pp, rfl⟩ := vw_lc ev
      simp only [Bool.and_eq_true] at h4
      obtain ⟨⟨⟨⟨⟨k1, k2⟩, k3⟩, k4⟩, k5⟩, k6⟩ := h4
      have b := blkOk_by k3
      have htg := tgIn_of k4
      have ps := ps_setLc (X := X) (i := i) (te := tE G X.K C elt) (tt := tC G X.K C cond) (g := gT X.K tg) (pos := pp) (spos := q) g.g.calm (by rw [g.g.nm]; exact g.g.nd) (by rw [g.g.nm]; exact hn) hloc (sw_true' g h5) ((snd it h3.1.1.2).1.i false X t ii g.g k1 k2) (by rw [g.g.nm]; exact b)
        (fun s H D0 cl fp => pg_T (X := X.blk s H sc' (compEnvC sc' cl D0 X.env) fp) g.g.calm g.g.nm g.g.nd (fun x hx => tgX_blk hx) k4) (fun s H D0 cl fp => pts_of (snd cond h3.1.2).2.1 (g.g.blk s H sc' _ fp) h3.1.1.1 k5) (fun s H D0 cl fp => (snd elt h3.2).1.e _ y (g.g.blk s H sc' _ fp) k6) (fold_of k1)
      rw [wipe_ownP] at ps
      refine PS.imp ps fun D σ H ⟨os, env, r, w⟩ => ?_
      exact lc_read htg (at_E r w fun kd v d H' s r' f rk z => put_K r s rk z.1 z.2)
    · cases h4
  · cases h
/-- a target's names come to their things -/
theorem gAll_rep {K : PySem.W.Frag} {Q : L2.St → Hp → Prop} {H : Hp} {os0 : List (Option Addr)} {env0 : Env} : ∀ {is : List Nat} {ds : List VL.D} {vs : List V} {env env1 : Env} {os : List (Option Addr)} {σ : L2.St}, setAll is ds env = some env1 → Rep K C B H0 σ H os env → FrS H os0 env0 H os env → RpA K C H (Mo B os) vs ds →
    (∀ σ1 os1, Rep K C B H0 σ1 H os1 env1 → FrS H os0 env0 H os1 env1 → Q σ1 H) → gAll is vs σ H Q
  | [], [], _, env, env1, os, σ, e, r, f, ra, q => by
    cases ra; cases e
    exact ⟨rfl, q σ os r f⟩
  | i :: is, d :: ds, _, env, env1, os, σ, e, r, f, ra, q => by
    cases ra with
    | cons r1 r2 =>
      obtain ⟨rp, fp⟩ := r.put (i := i) r1
      have lt : Lt H (Mo B os) (Mo B (os.set i none)) := fun a o e m => by
        rcases m with m | ⟨j, e⟩
        · exact .inl m
        · rw [get_set] at e
          by_cases c : i = j ∧ i < os.length
          · rw [if_pos c] at e; cases e
          · rw [if_neg c] at e; exact .inr ⟨j, e⟩
      exact ⟨_, _, rfl, gAll_rep e rp (f.trans fp) (r2.kp Kp.refl lt) q⟩
  | [], _ :: _, _, _, _, _, _, e, _, _, _, _ => by cases e
  | _ :: _, [], _, _, _, _, _, e, _, _, _, _ => by cases e
theorem gT_rep {K : PySem.W.Frag} {H : Hp} {Q : L2.St → Hp → Prop} {tg : Tg} {d : VL.D} {x : V} {env env1 : Env} {os : List (Option Addr)} {σ : L2.St} (e : bindT tg d env = some env1) (r : Rep K C B H0 σ H os env) (rx : Rp K C H (Mo B os) x d)
    (q : ∀ σ1 os1, Rep K C B H0 σ1 H os1 env1 → FrS H os env H os1 env1 → Q σ1 H) : gT K tg x σ H Q := by
  cases tg with
  | nm i =>
    cases e
    obtain ⟨rp, fp⟩ := r.put (i := i) rx
    exact q _ _ rp fp
  | tp is =>
    cases d <;> try (cases e; done)
    rename_i ds
    cases rx with
    | tup es rs =>
      have hl : ∀ {is : List Nat} {ds : List VL.D} {env env1 : Env}, setAll is ds env = some env1 → ds.length = is.length := fun {is} => by
        induction is with
        | nil => intro ds env env1 e; cases ds <;> first | rfl | cases e
        | cons i is ih =>
          intro ds env env1 e
          cases ds with
          | nil => cases e
          | cons d ds => exact congrArg Nat.succ (ih e)
      exact ⟨_, _, rfl, es, by rw [rs.length, hl e], gAll_rep e r FrS.refl rs q⟩
theorem sole_of {t v : Expr} {l : Nat} {env : PySem.Env} {r : Sem Bool} (h : swapsWith v (some t) l env = r) : swapsWithSole [t] v l env = r := by
  unfold swapsWithSole
  exact h
theorem n_asgT (is : List Nat) (e : E) : Sns N G C k (.asgT is e) := by
  refine .ofS fun X B H0 st g h => ?_
  unfold chkS at h
  split at h
  · rename_i t v q
    simp only [Bool.and_eq_true] at h
    obtain ⟨⟨⟨⟨⟨h1, h2⟩, h3⟩, h4⟩, h5⟩, h6⟩ := h
    have hno : ∀ a b c d, v ≠ .ListComp a b c d := fun a b c d z => by rw [z] at h3; cases h3
    have pg := pg_T (X := X) g.g.calm g.g.nm g.g.nd (fun x hx => g.tg hx) h1
    have ht : ∃ es j p, t = .Tuple es j p := by
      cases t <;> first | exact ⟨_, _, _, rfl⟩ | cases h1
    obtain ⟨es, j, p, rfl⟩ := ht
    have hw : swappedStores [.Tuple es j p] v X.env = pure none := by
      cases v <;> first | rfl | cases h4
    refine PS.imp (ps_asg ((snd (N := N) (G := G) (C := C) (k := k) e h5).1.e X v g.g h6) pg (sole_of (sw_of h2 hno)) hw rfl) fun D σ H ⟨os, env, r, w⟩ => ?_
    refine at_E r w fun kd v d H' s r' f rk z => ?_
    obtain ⟨z1, z2⟩ := z
    cases eb : bindT (.tp is) d env with
    | none => rw [eb] at z2; exact z2.elim
    | some e1 =>
      rw [eb] at z2
      exact gT_rep eb r' (rk.fr z1) fun σ1 os1 r1 f1 => z2 _ _ _ r1 (f.trans f1)
  · cases h
theorem n_aug (i : Nat) (o : Operator) (e : E) : Sns N G C k (.aug i o e) := by
  refine .ofS fun X B H0 st g h => ?_
  unfold chkS at h
  split at h
  · rename_i x p o' v q
    simp only [Bool.and_eq_true] at h
    obtain ⟨⟨⟨⟨h1, h2⟩, h0⟩, h3⟩, h4⟩ := h
    have eo := of_decide_eq_true h2
    subst eo
    obtain ⟨hn, hl⟩ := chkN_of h1
    have pe := (snd (N := N) (G := G) (C := C) (k := k) e h3).1.e X v g.g h4
    have rd : ∀ (f : Int → Int → Int), (∀ x y d, augD o x y = some d → ∃ a b, x = .int a ∧ y = .int b ∧ d = .int (f a b)) → ∀ (D : Ends) (σ : L2.St) (H : Hp), tS G X.K C B H0 (.aug i o e) D σ H → tAug i (tE G X.K C e) (ipI f) D σ H := fun f hf D σ H ⟨os, env, r, w⟩ => by
      have hr := r.sl i
      have w : (match slot env i with | .sh x => wE G e env fun _ y => (match augD o x y with | some d => Post X.K C B H0 D H os env (.nx (env.set i (.sh d))) | none => False) | _ => False) := w
      cases es : slot env i with
      | sh x =>
        rw [es] at hr w
        obtain ⟨y, e1, r1⟩ := hr
        refine ⟨y, jn e1, at_E r w fun kd v d H' s r' fr rk z => ?_⟩
        cases ea : augD o x d with
        | none => rw [ea] at z; exact z.elim
        | some u =>
          rw [ea] at z
          obtain ⟨a, b, rfl, rfl, rfl⟩ := hf _ _ _ ea
          have e2 : y = .int a := by cases r1; rfl
          subst e2
          refine ⟨a, b, rfl, rk.b1.int, ?_⟩
          obtain ⟨rp, fp⟩ := r'.put (i := i) (v := .int (f a b)) (d := .int (f a b)) (.int _)
          exact z _ _ _ rp (fr.trans fp)
      | _ => rw [es] at w; exact w.elim
    match o, h0, rd with
    | .Add, _, rd => exact PS.imp (ps_aug (by rw [g.g.nm]; exact g.g.nd) (by rw [g.g.nm]; exact hn) (g.tg hl).1 pe ip_add (.inl (g.fn x))) (rd _ fun x y d e => by cases x <;> cases y <;> first | (cases e; done) | (cases e; exact ⟨_, _, rfl, rfl, rfl⟩))
    | .Sub, _, rd => exact PS.imp (ps_aug (by rw [g.g.nm]; exact g.g.nd) (by rw [g.g.nm]; exact hn) (g.tg hl).1 pe ip_sub (.inl (g.fn x))) (rd _ fun x y d e => by cases x <;> cases y <;> first | (cases e; done) | (cases e; exact ⟨_, _, rfl, rfl, rfl⟩))
  · cases h
theorem n_par (i j : Nat) (a b : E) : Sns N G C k (.par i j a b) := by
  refine .ofS fun X B H0 st g h => ?_
  unfold chkS at h
  split at h
  · rename_i x px y py kt pt u v k2 pt2 q
    simp only [Bool.and_eq_true] at h
    obtain ⟨⟨⟨⟨⟨⟨⟨⟨⟨⟨⟨⟨⟨h1, h2⟩, h3⟩, h4⟩, h5⟩, h6⟩, h7⟩, h8⟩, h9⟩, h10⟩, h11⟩, h12⟩, h13⟩, h14⟩ := h
    obtain ⟨n1, l1⟩ := chkN_of h1
    obtain ⟨n2, l2⟩ := chkN_of h2
    have e3 : X.env.scope.names.lookup x = some .local := of_decide_eq_true h3
    have e4 : X.env.scope.names.lookup y = some .local := of_decide_eq_true h4
    have e5 := of_decide_eq_true h5
    have hxy : x ≠ y := fun z => e5 (nodup_ix g.g.nd n1 (z ▸ n2))
    have hw : swappedStores [.Tuple [.Name x px, .Name y py] kt pt] (.Tuple [u, v] k2 pt2) X.env = pure (some [x, y]) := by
      have kx : X.env.kindOf x = some .local := e3
      have ky : X.env.kindOf y = some .local := e4
      have hb : X.env.blockKind = .function := by unfold Env.blockKind; rw [g.kind]; rfl
      have hl : py.line = px.line := by rw [beq_iff_eq] at h6; exact h6.symm
      have hd : (y == x) = false := by simpa using hxy.symm
      simp only [Bool.not_eq_true'] at h9 h10
      simp [swappedStores, hb, kx, ky, hl, h9, h10, Expr.pos, List.filterMap_cons, List.eraseDups_cons, hd]
      intro hs
      exfalso
      rcases hs with hs | hs
      · cases u <;> first | (cases hs; done) | (cases h7; done)
      · cases v <;> first | (cases hs; done) | (cases h8; done)
    refine PS.imp (ps_par g.g.calm (by rw [g.g.nm]; exact g.g.nd) (by rw [g.g.nm]; exact n1) (by rw [g.g.nm]; exact n2) e5 e3 e4 (pa_cons ((snd (N := N) (G := G) (C := C) (k := k) a h11).1.e X u g.g h13) (pa_cons ((snd (N := N) (G := G) (C := C) (k := k) b h12).1.e X v g.g h14) pa_nil (star_of h8)) (star_of h7)) hw rfl) fun D σ H ⟨os, env, r, w⟩ => ?_
    refine at_E r w fun kd x d H1 s1 r1 f1 rk1 z => at_E r1 z fun kd2 y d2 H2 s2 r2 f2 rk2 z => ?_
    refine ⟨x, y, rfl, ?_⟩
    obtain ⟨rp, fp⟩ := r2.put (i := i) ((rk1.fr z.1).same s2)
    have lt : Lt H2 (Mo B os) (Mo B (os.set i none)) := fun a o e m => by
      rcases m with m | ⟨l, e⟩
      · exact .inl m
      · rw [get_set] at e
        by_cases c : i = l ∧ i < os.length
        · rw [if_pos c] at e; cases e
        · rw [if_neg c] at e; exact .inr ⟨l, e⟩
    obtain ⟨rq, fq⟩ := rp.put (i := j) ((rk2.fr z.2.1).kp Kp.refl lt)
    exact z.2.2 _ _ _ rq (f1.trans (f2.trans (fp.trans fq)))
  · cases h
theorem n_sub (i : Nat) (ix e : E) : Sns N G C k (.sub i ix e) := by
  refine .ofS fun X B H0 st g h => ?_
  unfold chkS at h
  split at h
  · rename_i x p n pn v q
    simp only [Bool.and_eq_true] at h
    obtain ⟨⟨⟨⟨⟨⟨⟨⟨⟨h1, h2⟩, h3⟩, h4⟩, h5⟩, h6⟩, h7⟩, h8⟩, h9⟩, h10⟩ := h
    have hno : ∀ a b c d, v ≠ .ListComp a b c d := fun a b c d z => by rw [z] at h6; cases h6
    have pv : PE X (.Name x p) (tVar i) := pe_var (by rw [g.g.nm]; exact of_decide_eq_true h1) (vis_of h2) (nm_of h3).1 (nm_of h3).2
    have ps := ps_asg (pos := q) ((snd (N := N) (G := G) (C := C) (k := k) e h8).1.e X v g.g h10) (pg_sub (pos := pn) pv ((snd (N := N) (G := G) (C := C) (k := k) ix h7).1.e X n g.g h9) set_list (by cases n <;> first | (intro _; rfl) | cases h4))
      (sole_of (sw_of h5 hno)) (by cases v <;> rfl) (by cases n <;> first | rfl | cases h4)
    refine PS.imp ps fun D σ H ⟨os, env, r, w⟩ => ?_
    unfold wS at w
    cases es : slot env i with
    | ow ds =>
      rw [es] at w
      refine at_E r w fun kd y d H1 s1 r1 f1 rk1 z => ?_
      obtain ⟨zf, z⟩ := z
      obtain ⟨a, vs, e1, e2, e3, ra, chg⟩ := r1.chg es
      refine ⟨.ref a, e2, at_E r1 z fun kd2 nn n H2 s2 r2 f2 rk2 z => ?_⟩
      cases n <;> try (exact z.elim)
      rename_i m
      have z : (match ixN ds.length m with | some j => Post X.K C B H0 D H os env (.nx (env.set i (.ow (ds.set j d)))) | none => False) := z
      cases ej : ixN ds.length m with
      | none => rw [ej] at z; exact z.elim
      | some j =>
        rw [ej] at z
        obtain ⟨a', vs', e1', e2', e3', ra', chg'⟩ := r2.chg es
        have ea : a' = a := by rw [e2] at e2'; cases e2'; rfl
        subst ea
        refine ⟨a', vs', m, j, rfl, rk2.b1.int, e3', by rw [ra'.length]; exact ej, ?_⟩
        obtain ⟨rp, fp⟩ := chg' (vs'.set j y) (ds.set j d) (ra'.set ((rk1.fr zf).same s2) j)
        exact z _ _ _ rp (f1.trans (f2.trans fp))
    | _ => rw [es] at w; exact w.elim
  · cases h
theorem n_app (i : Nat) (e : E) : Sns N G C k (.app i e) := by
  refine .ofS fun X B H0 st g h => ?_
  unfold chkS at h
  split at h
  · rename_i x p n ap v cp q
    simp only [Bool.and_eq_true] at h
    obtain ⟨⟨⟨⟨⟨⟨⟨h1, h2⟩, h3⟩, h4⟩, h5⟩, h6⟩, h7⟩, h8⟩ := h
    have en := of_decide_eq_true h1
    subst en
    have pv : PE X (.Name x p) (tVar i) := pe_var (by rw [g.g.nm]; exact of_decide_eq_true h2) (vis_of h3) (nm_of h4).1 (nm_of h4).2
    have pa := pa_cons ((snd (N := N) (G := G) (C := C) (k := k) e h7).1.e X v g.g h8) pa_nil (star_of h6)
    have hfew : ((backTo cp (starEach [v] X.env)).all (fun x => !x.1) && (backToKw cp (keywordEach [] X.env)).all (fun x => x.1.isSome) && decide (([v] : List Expr).length + ([] : List Keyword).length + (if ([] : List Keyword).isEmpty then 0 else 1) < 30)) = true := by
      rw [star_of h6]; rfl
    have pm := pe_bm (cpos := cp) PySem.F.plainAttrs_list PySem.F.slot_list_append PySem.F.type_list_append mt_append pv pa rfl hfew h5 (star_of h6) rfl
    refine PS.imp (ps_expr pm) fun D σ H ⟨os, env, r, w⟩ => ?_
    unfold wS at w
    cases es : slot env i with
    | ow ds =>
      rw [es] at w
      obtain ⟨a, vs, e1, e2, e3, ra, chg⟩ := r.chg es
      refine ⟨.ref a, e2, .inl ⟨rfl, _, SqL.of e3⟩, at_E r w fun kd y d H1 s1 r1 f1 rk1 z => ?_⟩
      obtain ⟨a', vs', e1', e2', e3', ra', chg'⟩ := r1.chg es
      have ea : a' = a := by rw [e2] at e2'; cases e2'; rfl
      subst ea
      refine ⟨a', vs', y, rfl, rfl, e3', by rw [ra'.length, sizeLine_eq]; exact z.2.1, ?_⟩
      obtain ⟨rp, fp⟩ := chg' (vs' ++ [y]) (ds ++ [d]) (ra'.append (.cons (rk1.fr z.1) .nil))
      exact z.2.2 _ _ _ rp (f1.trans fp)
    | _ => rw [es] at w; exact w.elim
  · cases h
theorem n_appPop (i j : Nat) (e : E) : Sns N G C k (.appPop i j e) := by
  refine .ofS fun X B H0 st g h => ?_
  unfold chkS at h
  split at h
  · rename_i x p n ap y p2 m aq v cq cp q
    simp only [Bool.and_eq_true] at h
    obtain ⟨⟨⟨⟨⟨⟨⟨⟨⟨⟨⟨⟨h1, h2⟩, h3⟩, h4⟩, h5⟩, h6⟩, h7⟩, h8⟩, h9⟩, h10⟩, h11⟩, h12⟩, h13⟩ := h
    have en := of_decide_eq_true h1
    subst en
    have en := of_decide_eq_true h2
    subst en
    have pv : PE X (.Name x p) (tVar i) := pe_var (by rw [g.g.nm]; exact of_decide_eq_true h3) (vis_of h4) (nm_of h5).1 (nm_of h5).2
    have pw : PE X (.Name y p2) (tVar j) := pe_var (by rw [g.g.nm]; exact of_decide_eq_true h6) (vis_of h7) (nm_of h8).1 (nm_of h8).2
    have pa := pa_cons ((snd (N := N) (G := G) (C := C) (k := k) e h12).1.e X v g.g h13) pa_nil (star_of h11)
    have hfew : ((backTo cq (starEach [v] X.env)).all (fun x => !x.1) && (backToKw cq (keywordEach [] X.env)).all (fun x => x.1.isSome) && decide (([v] : List Expr).length + ([] : List Keyword).length + (if ([] : List Keyword).isEmpty then 0 else 1) < 30)) = true := by
      rw [star_of h11]; rfl
    have pp := pe_bm (cpos := cq) PySem.F.plainAttrs_list PySem.F.slot_list_pop PySem.F.type_list_pop mt_popAt pw pa rfl hfew h10 (star_of h11) rfl
    have pm := pe_bm (cpos := cp) PySem.F.plainAttrs_list PySem.F.slot_list_append PySem.F.type_list_append mt_append pv (pa_cons pp pa_nil rfl) rfl rfl h9 rfl rfl
    refine PS.imp (ps_expr pm) fun D σ H ⟨os, env, r, w⟩ => ?_
    unfold wS at w
    cases es : slot env i with
    | ow ds =>
      cases et : slot env j with
      | ow es' =>
        rw [es, et] at w
        obtain ⟨hij, hlen, w⟩ := w
        obtain ⟨a, vs, e1, e2, e3, ra, chg⟩ := r.chg es
        obtain ⟨b, us, b1, b2, b3, rb, chgb⟩ := r.chg et
        refine ⟨.ref a, e2, .inl ⟨rfl, _, SqL.of e3⟩, .ref b, b2, .inl ⟨rfl, _, SqL.of b3⟩, at_E r w fun kd n d H1 s1 r1 f1 rk1 z => ?_⟩
        cases d <;> try (exact z.elim)
        rename_i m
        have z : (match ixN es'.length m with | some q => (match es'[q]? with | some d => Post X.K C B H0 D H os env (.nx ((env.set j (.ow (es'.eraseIdx q))).set i (.ow (ds ++ [d])))) | none => False) | none => False) := z
        cases eq : ixN es'.length m with
        | none => rw [eq] at z; exact z.elim
        | some q =>
          rw [eq] at z
          cases ed : es'[q]? with
          | none => simp only [ed] at z
          | some d =>
            simp only [ed] at z
            obtain ⟨b', us', b1', b2', b3', rb', chgb'⟩ := r1.chg et
            have eb : b' = b := by rw [b2] at b2'; cases b2'; rfl
            subst eb
            obtain ⟨yv, hy, ry⟩ := rb'.get ed
            obtain ⟨q1, q2, q3, q4⟩ := ixN_seq eq
            obtain ⟨rp, fp⟩ := chgb' (us'.eraseIdx q) (es'.eraseIdx q) (rb'.erase q)
            obtain ⟨hlen, hlen2⟩ := hlen
            have hsmall : (es'.length : Int) ≤ 16777216 := by omega
            refine ⟨b', us', m, q, yv, rfl, by rw [rk1.b1.int], b3', by omega, by omega, by rw [rb'.length]; exact q1, hy, ?_⟩
            have es2 : slot (env.set j (.ow (es'.eraseIdx q))) i = .ow ds := by
              rw [slot_set, if_neg (fun c => hij c.1.symm)]
              exact es
            obtain ⟨a', vs', a1', a2', a3', ra', chga'⟩ := rp.chg es2
            have ea : a' = a := by rw [e2] at a2'; cases a2'; rfl
            subst ea
            have kp : Kp (Mo B os) H1 (upd H1 b' (.lst (us'.eraseIdx q))) := fun c o e => by
              by_cases hc : c = b'
              · refine .inl ⟨.inr ⟨j, by rw [hc]; exact b1'⟩, us', ?_⟩
                rw [hc, b3'] at e
                exact (Option.some.inj e).symm
              · exact .inr (by rw [upd_ne hc]; exact e)
            obtain ⟨rq, fq⟩ := chga' (vs' ++ [yv]) (ds ++ [d]) (ra'.append (.cons (ry.kp kp Lt.refl) .nil))
            refine ⟨a', vs', yv, rfl, rfl, a3', by rw [ra'.length, sizeLine_eq]; exact hlen, z _ _ _ rq (f1.trans (fp.trans fq))⟩
      | _ => rw [es, et] at w; exact w.elim
    | _ => rw [es] at w; exact w.elim
  · cases h
end
end VL
/-! VL12: returns, branches, loops; the whole of the statements; a def's body. -/
namespace VL
open PySem PySem.Spec PyProof.Rows L2
section
variable {N : List Str} {G : Gam} {C : Cls0} {k : Nat} {X : Cx} {B : Addr → Prop} {H0 : Hp}
/-- what a def hands back is of its callers' kind -/
theorem rt_of {K : PySem.W.Frag} {σ : L2.St} {H H' : Hp} {os : List (Option Addr)} {env : Env} {kd : Kd} {v : V} {d : VL.D} (r : Rep K C B H0 σ H os env) (s : Same H H') (rk : Rk K C H H' (Mo B os) kd v d) (hf : kd.frz = true) : Rk K C H0 H' B kd v d := by
  have lt : ∀ a, B a → Mo B os a := fun a m => .inl m
  cases kd with
  | nw =>
    obtain ⟨a, vs, ds, rfl, rfl, na, nm, e1, ra⟩ := rk
    exact ⟨a, vs, ds, rfl, rfl, r.sm.free na, fun m => nm (lt a m), e1, ra.kp Kp.refl (Lt.of fun b m => m.elim (fun m => .inl (lt b m)) .inr)⟩
  | fr => exact Rp.kp Kp.refl (Lt.of lt) rk
  | b1 => cases hf
theorem n_ret (e : E) : Sns N G C k (.ret e) := by
  refine .ofS fun X B H0 st g h => ?_
  unfold chkS at h
  split at h
  · rename_i v q
    obtain ⟨h1, h2⟩ := and2 h
    refine PS.imp (ps_ret ((snd (N := N) (G := G) (C := C) (k := k) e h1).1.e X v g.g h2)) fun D σ H ⟨os, env, r, w⟩ => ?_
    exact at_E r w fun kd v d H1 s1 r1 f1 rk z => z.2 v H1 r1.sm (rt_of r s1 rk z.1)
  · cases h
theorem n_retv (i : Nat) : Sns N G C k (.retv i) := by
  refine .ofS fun X B H0 st g h => ?_
  unfold chkS at h
  split at h
  · rename_i x p q
    obtain ⟨h1, h2, h3⟩ := and3 h
    refine PS.imp (ps_ret (pe_var (by rw [g.g.nm]; exact of_decide_eq_true h1) (vis_of h2) (nm_of h3).1 (nm_of h3).2)) fun D σ H ⟨os, env, r, w⟩ => ?_
    unfold wS at w
    have hr := r.sl i
    cases es : slot env i with
    | ow ds =>
      rw [es] at w hr
      obtain ⟨a, vs, e1, e2, e3, ra⟩ := hr
      have e1 := join_some e1
      obtain ⟨n1, n2, _⟩ := r.new i a e1
      refine ⟨.ref a, jn e2, w _ H r.sm ⟨a, vs, ds, rfl, rfl, n1, n2, e3, ra.kp Kp.refl (Lt.of fun b m => ?_)⟩⟩
      rcases m with m | m
      · exact .inl m
      · rw [m]; exact .inr ⟨i, e1⟩
    | sh d =>
      rw [es] at w hr
      obtain ⟨x, e1, r1⟩ := hr
      exact ⟨x, jn e1, w x H r.sm (r1.kp Kp.refl (Lt.of fun a m => .inl m))⟩
    | _ => rw [es] at w; exact w.elim
  · cases h
theorem n_ret0 : Sns N G C k .ret0 := by
  refine .ofS fun X B H0 st g h => ?_
  unfold chkS at h
  split at h
  · exact PS.imp ps_retN fun D σ H ⟨os, env, r, w⟩ => w .non H r.sm .non
  · cases h
theorem n_brk : Sns N G C k .brk := by
  refine .ofS fun X B H0 st g h => ?_
  unfold chkS at h
  split at h
  · exact PS.imp ps_break fun D σ H ⟨os, env, r, w⟩ => w σ H os r FrS.refl
  · cases h
theorem n_cnt : Sns N G C k .cnt := by
  refine .ofS fun X B H0 st g h => ?_
  unfold chkS at h
  split at h
  · exact PS.imp ps_continue fun D σ H ⟨os, env, r, w⟩ => w σ H os r FrS.refl
  · cases h
theorem n_pass : Sns N G C k .pass := by
  refine .ofS fun X B H0 st g h => ?_
  unfold chkS at h
  split at h
  · exact PS.imp ps_pass fun D σ H ⟨os, env, r, w⟩ => w σ H os r FrS.refl
  · cases h
theorem n_nvr : Sns N G C k .nvr := by
  refine .ofS fun X B H0 st g h => ?_
  exact PS.imp (t := tNever) ⟨fun _ _ _ _ _ _ z => z.elim⟩ fun D σ H ⟨os, env, r, w⟩ => w
theorem n_frz (i : Nat) : Sns N G C k (.frz i) := by
  refine .ofS fun X B H0 st g h => ?_
  unfold chkS at h
  cases h
theorem n_ifS (c : E) {a b : S} (sa : Sns N G C k a) (sb : Sns N G C k b) : Sns N G C k (.ifS c a b) := by
  refine .ofS fun X B H0 st g h => ?_
  unfold chkS at h
  split at h
  · rename_i v xs ys q
    simp only [Bool.and_eq_true] at h
    obtain ⟨⟨⟨⟨h1, h2⟩, h3⟩, h4⟩, h5⟩ := h
    refine PS.imp (ps_if ((snd (N := N) (G := G) (C := C) (k := k) c h2).1.t X v g.g h1 h3) (sa.bl X B H0 xs g h4) (sb.bl X B H0 ys g h5)) fun D σ H ⟨os, env, r, w⟩ => ?_
    refine at_T r w fun b H1 s1 r1 f1 z => ?_
    cases b with
    | true => exact iteT ⟨os, env, r1, wS_mono _ _ _ _ (fun o z => Post.lift f1 z) z⟩
    | false => exact iteF ⟨os, env, r1, wS_mono _ _ _ _ (fun o z => Post.lift f1 z) z⟩
  · cases h
theorem n_whl (c : E) {body : S} (sb : Sns N G C k body) : Sns N G C k (.whl c body) := by
  refine .ofS fun X B H0 st g h => ?_
  unfold chkS at h
  split at h
  · rename_i v xs q
    simp only [Bool.and_eq_true] at h
    obtain ⟨⟨⟨h1, h2⟩, h3⟩, h4⟩ := h
    refine PS.imp (ps_while g.pass ((snd (N := N) (G := G) (C := C) (k := k) c h2).1.t X v g.g h1 h3) (sb.bl X B H0 xs g h4)) fun D σ H ⟨os, env, r, w⟩ => ?_
    obtain ⟨n, w⟩ := w
    refine ⟨fun m σ' H' => ∃ os' e', Rep X.K C B H0 σ' H' os' e' ∧ FrS H os env H' os' e' ∧ wWh (wT G c) (wS G body) m e' (Post X.K C B H0 D H os env), ⟨n, os, env, r, FrS.refl, w⟩, ?_⟩
    rintro m σ1 H1 ⟨os1, e1, r1, f1, w1⟩
    cases m with
    | zero => exact w1.elim
    | succ m =>
      unfold wWh at w1
      refine at_T r1 w1 fun b H2 s2 r2 f2 z => ?_
      cases b with
      | false =>
        have z := (if_neg (show ¬ (false = true) from Bool.false_ne_true)).mp z
        exact iteF (z σ1 H2 os1 r2 (f1.trans f2))
      | true =>
        have z := (if_pos (show true = true from rfl)).mp z
        refine iteT ⟨fun σ' H' => ∃ os' e', Rep X.K C B H0 σ' H' os' e' ∧ FrS H os env H' os' e' ∧ wWh (wT G c) (wS G body) m e' (Post X.K C B H0 D H os env), fun σ' H' n => ⟨m, Nat.lt_succ_self m, n⟩, os1, e1, r2, wS_mono _ _ _ _ (fun o z => ?_) z⟩
        cases o with
        | nx e => exact fun σ' H' os' r' f' => ⟨os', e, r', f1.trans (f2.trans f'), z⟩
        | ct e => exact fun σ' H' os' r' f' => ⟨os', e, r', f1.trans (f2.trans f'), z⟩
        | bk e => exact fun σ' H' os' r' f' => z σ' H' os' r' (f1.trans (f2.trans f'))
        | rt kd d => exact z
  · cases h
theorem n_for (lks : List Nat) (tg : Tg) (it : E) {body : S} (sb : Sns N G C k body) : Sns N G C k (.for_ lks tg it body) := by
  refine .ofS fun X B H0 st g h => ?_
  unfold chkS at h
  split at h
  · rename_i t ii xs q
    simp only [Bool.and_eq_true] at h
    obtain ⟨⟨⟨⟨h1, h2⟩, h3⟩, h4⟩, h5⟩ := h
    have pg := pg_T (X := X) g.g.calm g.g.nm g.g.nd (fun x hx => g.tg hx) h1
    refine PS.imp (ps_for g.pass g.g.calm ((snd (N := N) (G := G) (C := C) (k := k) it h3).1.i true X t ii g.g h2 h4) pg (sb.bl X B H0 xs g h5) (fold_of h2)) fun D σ H ⟨os, env, r, w⟩ => ?_
    unfold wS at w
    -- the lists that are walked are locked
    have rL : Rep X.K C B H0 σ H os (lockE env lks) := r.as (lockE_len lks) fun i => (lockE_slot (env := env) lks i).elim .inl fun ⟨ds, e1, e2⟩ => .inr ⟨ds, .inl e1, .inr e2⟩
    have uL : ∀ a, UO os (lockE env lks) a → UO os env a := fun a ⟨i, ds, e1, e2⟩ => by
      rcases lockE_slot (env := env) lks i with e | ⟨es, e3, e4⟩
      · exact ⟨i, ds, e1, by rw [← e]; exact e2⟩
      · rw [e4] at e2; cases e2
    have fL : FrS H os env H os (lockE env lks) := FrS.of_same (Same.refl H) (fun a u => .inr (uL a u)) fun _ _ e => .inr e
    generalize he : lockE env lks = eL at w rL uL fL
    refine ⟨Mo B os, UO os eL, eL, rL.eo, rL.u, fun z => (by cases z), wI_mono true it eL _ _ (fun items z J H1 s1 wk => ?_) w⟩
    have r1 := rL.same s1
    have since : ∀ {H2 : Hp} {os2 : List (Option Addr)} {e2 : Env}, FrS H1 os eL H2 os2 e2 → Since (UO os eL) H1 (Mo B os) H2 (Mo B os2) := fun {H2 os2 e2} f => by
      refine ⟨fun b o e => (f.keep b o e).elim .inr fun u => .inl u.1, r1.u, fun a o e m => ?_⟩
      rcases m with m | ⟨i, e3⟩
      · exact .inl m
      · rcases f.pos i a e3 with n | e4
        · rw [e] at n; cases n
        · exact .inr ⟨i, e4⟩
    -- behind the loop
    have fin : ∀ {e2 : Env} {σ2 : L2.St} {H2 : Hp} {os2 : List (Option Addr)}, Rep X.K C B H0 σ2 H2 os2 e2 → FrS H1 os eL H2 os2 e2 → Post X.K C B H0 D H os env (.nx (unlE env lks e2)) → D.nx σ2 H2 := fun {e2 σ2 H2 os2} r2 f2 p => by
      have fa : FrS H os env H2 os2 e2 := fL.trans (FrS.trans (FrS.of_same s1 (fun _ u => .inr u) fun _ _ e => .inr e) f2)
      refine p σ2 H2 os2 (r2.as (unlE_len lks) fun i => (unlE_slot (env := env) (e := e2) lks i).elim .inl fun ⟨ds, e3, e4, _⟩ => .inr ⟨ds, .inr e3, .inl e4⟩) ⟨fa.keep, fun a ⟨i, ds, e3, e4⟩ => ?_, fa.pos⟩
      rcases unlE_slot (env := env) (e := e2) lks i with e5 | ⟨ds', e5, e6, es, e7⟩
      · exact fa.own a ⟨i, ds, e3, by rw [← e5]; exact e4⟩
      · rcases fa.pos i a e3 with n | e8
        · exact .inl n
        · exact .inr ⟨i, es, e8, e7⟩
    refine ⟨fun i m σ' H' => i + m = items.length ∧ ∃ os' e', Rep X.K C B H0 σ' H' os' e' ∧ FrS H1 os eL H' os' e' ∧ wFor (fun x e q => match bindT tg x e with
        | some e1 => wS G body e1 q
        | none => False) (items.drop i) e' fun o => match o with
          | .nx e => Post X.K C B H0 D H os env (.nx (unlE env lks e))
          | .rt k d => Post X.K C B H0 D H os env (.rt k d)
          | .bk _ => False
          | .ct _ => False, ⟨items.length, by omega, os, eL, r1, FrS.refl, z⟩, ?_⟩
    rintro i m σ2 H2 ⟨him, os2, e2, r2, f2, z⟩
    by_cases hi : i < items.length
    · refine .inr ⟨wk.go i H2 _ (since f2) hi, _, fun σ' H' n => ⟨m - 1, by omega, n⟩, fun x H3 y => ?_⟩
      obtain ⟨s3, d, hd, rx⟩ := wk.yld i H2 _ x H3 (since f2) hi y
      have e1 : items.drop i = d :: items.drop (i + 1) := by
        rw [List.drop_eq_getElem_cons hi]
        rw [List.getElem?_eq_getElem hi] at hd
        rw [Option.some.inj hd]
      rw [e1] at z
      unfold wFor at z
      cases eb : bindT tg d e2 with
      | none => rw [eb] at z; exact z.elim
      | some e3 =>
        rw [eb] at z
        have r3 := r2.same s3
        have f3 : FrS H2 os2 e2 H3 os2 e2 := FrS.of_same s3 (fun _ u => .inr u) fun _ _ e => .inr e
        refine gT_rep eb r3 rx fun σ4 os4 r4 f4 => ⟨os4, e3, r4, wS_mono _ _ _ _ (fun o z => ?_) z⟩
        have f5 := f2.trans (f3.trans f4)
        cases o with
        | nx e => exact fun σ' H' os' r' f' => ⟨by omega, os', e, r', f5.trans f', z⟩
        | ct e => exact fun σ' H' os' r' f' => ⟨by omega, os', e, r', f5.trans f', z⟩
        | bk e => exact fun σ' H' os' r' f' => fin r' (f5.trans f') z
        | rt kd d => exact z
    · have ei : i = items.length := by omega
      refine .inl ⟨wk.stop i H2 _ (since f2) (by omega), ?_⟩
      rw [ei, List.drop_length] at z
      unfold wFor at z
      exact fin r2 f2 z
  · cases h
/-- THE WHOLE of the statements -/
theorem sns : ∀ s : S, Sns N G C k s := by
  intro s
  induction s with
  | nil => exact n_nil
  | seq s r hs hr => exact n_seq hs hr
  | frz i => exact n_frz i
  | asg i e => exact n_asg i e
  | asgl i e => exact n_asgl i e
  | asgT is e => exact n_asgT is e
  | par i j a b => exact n_par i j a b
  | aug i o e => exact n_aug i o e
  | sub i ix e => exact n_sub i ix e
  | app i e => exact n_app i e
  | appPop i j e => exact n_appPop i j e
  | ret e => exact n_ret e
  | retv i => exact n_retv i
  | ret0 => exact n_ret0
  | ifS c a b ha hb => exact n_ifS c ha hb
  | for_ lks tg it body hb => exact n_for lks tg it hb
  | whl c body hb => exact n_whl c hb
  | brk => exact n_brk
  | cnt => exact n_cnt
  | pass => exact n_pass
  | nvr => exact n_nvr

/-! ### a def -/
/-- the slots at a def's entry -/
def env0 : List Bool → List VL.D → Env
  | [], [] => []
  | true :: bs, d :: ds => .sh d :: env0 bs ds
  | false :: bs, d :: ds => .bo d :: env0 bs ds
  | _, _ => []
def unE : Nat → Env
  | 0 => []
  | n + 1 => .un :: unE n
/-- what a def's body is to show -/
def BodyOk (G : Gam) (n : Nat) (code : S) (S : Sem1) : Prop := ∀ ds (Q : VL.D → Prop), S.wp ds Q → wS G code (env0 S.fr ds ++ unE (n - S.fr.length)) fun o => match o with
  | .rt k d => (if S.nw = true then k = .nw else k.frz = true) ∧ Q d
  | .nx _ => S.nw = false ∧ Q .non
  | _ => False
end
end VL
/-! VL13: a def keeps what its body shows; tables of defs. -/
namespace VL
open PySem PySem.Spec PyProof.Rows L2
/-- what the module's names hold, at call room k -/
structure Md (G : Gam) (C : Cls0) (k : Nat) (P : Program) (w : World) (K : PySem.W.Frag) (mg : Str → Option Value) (base : Heap) : Prop where
  blt : ∀ x ∈ bnames, mg x = none
  fns : ∀ f S, G.fn f = some S → ∃ a fd ps, FnOk P w K mg base CX0 k a fd ps (spOf K C S) ∧ mg f = some (.ref a) ∧ PySem.W.keepIn K (.ref a) = true ∧ Binds K fd ps []
  cst : ∀ x d, G.cst x = some d → ∃ u v, mg x = some u ∧ RelV v u ∧ ∀ H M, Rp K C H M v d
def Gam.none : Gam := ⟨fun _ => .none, fun _ => .none⟩
def Gam.add (G : Gam) (f : Str) (S : Sem1) : Gam := ⟨fun x => if x = f then some S else G.fn x, G.cst⟩
def Gam.addC (G : Gam) (f : Str) (d : D) : Gam := ⟨G.fn, fun x => if x = f then some d else G.cst x⟩
section
variable {G : Gam} {C : Cls0} {k : Nat} {P : Program} {w : World} {K : PySem.W.Frag} {mg : Str → Option Value} {base : Heap}
theorem Md.none (h : ∀ x ∈ bnames, mg x = .none) : Md Gam.none C k P w K mg base := ⟨h, fun f S e => (by cases e), fun x d e => (by cases e)⟩
theorem Md.mono (m : Md G C k P w K mg base) {j : Nat} (h : k ≤ j) : Md G C j P w K mg base := ⟨m.blt, fun f S e => (m.fns f S e).elim fun a ⟨fd, ps, h1, h2⟩ => ⟨a, fd, ps, h1.mono h, h2⟩, m.cst⟩
theorem Md.add (m : Md G C k P w K mg base) {f : Str} {S : Sem1} {a : Addr} {fd : FuncData} {ps : List Str} (h : FnOk P w K mg base CX0 (k + 1) a fd ps (spOf K C S)) (hm : mg f = some (.ref a)) (hk : PySem.W.keepIn K (.ref a) = true) (hb : Binds K fd ps []) : Md (G.add f S) C (k + 1) P w K mg base := ⟨m.blt, fun g T e => by
  unfold Gam.add at e
  by_cases c : g = f
  · have e : (if g = f then some S else G.fn g) = some T := e
    rw [if_pos c] at e
    cases e
    subst c
    exact ⟨a, fd, ps, h, hm, hk, hb⟩
  · have e : (if g = f then some S else G.fn g) = some T := e
    rw [if_neg c] at e
    exact (m.mono (Nat.le_succ k)).fns g T e, m.cst⟩
theorem Md.addC (m : Md G C k P w K mg base) {f : Str} {d : VL.D} {u : Value} {v : V} (hm : mg f = some u) (r : RelV v u) (hr : ∀ H M, Rp K C H M v d) : Md (G.addC f d) C k P w K mg base := ⟨m.blt, m.fns, fun g T e => by
  have e : (if g = f then some d else G.cst g) = some T := e
  by_cases c : g = f
  · rw [if_pos c] at e
    cases e
    subst c
    exact ⟨u, v, hm, r, hr⟩
  · rw [if_neg c] at e
    exact m.cst g T e⟩
theorem argsR_start {B : Addr → Prop} {H : Hp} : ∀ {bs : List Bool} {vs : List V} {ds : List VL.D}, ArgsR K C H B bs vs ds → (env0 bs ds).length = bs.length ∧ ∀ i, SlOk K C B H H B none ((vs.map some)[i]?).join (slot (env0 bs ds) i)
  | _, _, _, .nil => ⟨rfl, fun i => trivial⟩
  | _, _, _, .fr (v := v) h t => by
    obtain ⟨e, s⟩ := argsR_start t
    refine ⟨congrArg Nat.succ e, fun i => ?_⟩
    cases i with
    | zero => exact ⟨v, rfl, h⟩
    | succ i => simpa [slot, env0] using s i
  | _, _, _, .bo (v := v) h t => by
    obtain ⟨e, s⟩ := argsR_start t
    refine ⟨congrArg Nat.succ e, fun i => ?_⟩
    cases i with
    | zero => exact ⟨v, rfl, h⟩
    | succ i => simpa [slot, env0] using s i
theorem slot_out : ∀ {env : Env} {i : Nat}, env.length ≤ i → slot env i = .un
  | [], i, _ => by cases i <;> rfl
  | s :: r, 0, h => by simp at h
  | s :: r, i + 1, h => slot_out (env := r) (by simpa using h)
theorem slot_app : ∀ {a b : Env} {i : Nat}, slot (a ++ b) i = if i < a.length then slot a i else slot b (i - a.length)
  | [], b, i => by simp
  | s :: r, b, 0 => by simp [slot]
  | s :: r, b, i + 1 => by
    show slot (r ++ b) i = _
    rw [slot_app (a := r)]
    simp [slot]
theorem slot_unE : ∀ {n i : Nat}, slot (unE n) i = .un
  | 0, i => by cases i <;> rfl
  | n + 1, 0 => rfl
  | n + 1, i + 1 => slot_unE (n := n)
theorem unE_len : ∀ n : Nat, (unE n).length = n
  | 0 => rfl
  | n + 1 => congrArg Nat.succ (unE_len n)
theorem rep_start {B : Addr → Prop} {H : Hp} {N : List Str} {bs : List Bool} {vs : List V} {ds : List VL.D} (a : ArgsR K C H B bs vs ds) (dm : Dm H B) (hl : bs.length ≤ N.length) : Rep K C B H (L2.start N vs) H (List.replicate N.length none) (env0 bs ds ++ unE (N.length - bs.length)) := by
  obtain ⟨e, s⟩ := argsR_start a
  have ev := a.len
  have rn : ∀ i : Nat, ((List.replicate N.length (none : Option Addr))[i]?).join = none := fun i => by
    rw [List.getElem?_replicate]
    split <;> rfl
  have rs : ∀ (i : Nat) (b : Addr), (List.replicate N.length (none : Option Addr))[i]? ≠ some (some b) := fun i b z => by
    have := rn i
    rw [z] at this
    cases this
  have mo : ∀ b, Mo B (List.replicate N.length (none : Option Addr)) b → B b := fun b m => m.elim id fun ⟨i, z⟩ => (rs i b z).elim
  refine ⟨?_, ?_, fun i j b h => (rs i b h).elim, fun i b h => (rs i b h).elim, dm, Same.refl H, fun i => ?_⟩
  · unfold L2.start
    simp [unE_len, e, ev]
  · simp [unE_len, e]
    omega
  · rw [rn, slot_app]
    unfold L2.start
    by_cases c : i < (env0 bs ds).length
    · rw [if_pos c, List.getElem?_append_left (by rw [List.length_map, ev, ← e]; exact c)]
      exact (s i).kp Kp.refl (Lt.of mo) fun a ds z => by cases z
    · rw [if_neg c, slot_unE]
      trivial
theorem fn_ok {x qual : Str} {params : Arguments} {body : List Stmt} {scope : Scope} {f : Addr} {fd : FuncData} {N ps : List Str} {code : S} {Sm : Sem1} (m : Md G C k P w K mg base)
    (F : FunD K x qual params body scope [] [] f fd) (S : FnScope N ps scope) (hfr : Sm.fr.length = ps.length) (hc : chkB N code scope body = true) (hb : BodyOk G N.length code Sm) :
    FnOk P w K mg base CX0 (k + 1) f fd ps (spOf K C Sm) := by
  have hpl : ps.length ≤ N.length := by have := congrArg List.length S.pre; rw [List.length_take] at this; omega
  refine F.ok S (fun vs H Q E h => ?_) fun cdv A outer s H vs Q E hr h => ?_
  · obtain ⟨B, ds, dm, a, _⟩ := h
    rw [a.len, hfr]
  · obtain ⟨B, ds, dm, a, h⟩ := h
    have g : GdS N G C k (cxOf CX0 P w K mg base N qual scope f cdv A outer s H E).nox := ⟨⟨rfl, S.nd, rfl, hr, m.blt, m.fns, m.cst⟩, S.kind, rfl, fun _ => rfl⟩
    refine ⟨_, PSs.nox ((sns (N := N) (G := G) (C := C) (k := k) code).bl _ B H body g hc), ?_⟩
    refine ⟨_, _, rep_start a dm (by rw [hfr]; exact hpl), wS_mono code _ _ _ (fun o z => ?_) (hb ds _ h)⟩
    cases o with
    | rt kd d =>
      intro v H' sm rk
      refine z.2 v H' sm ?_
      have z1 := z.1
      cases e : Sm.nw with
      | true => rw [e, if_pos rfl] at z1; rw [z1] at rk; exact rk
      | false =>
        rw [e, if_neg Bool.false_ne_true] at z1
        exact rk.fr z1
    | nx e1 =>
      intro σ' H' os' r f'
      refine z.2 _ H' r.sm ?_
      rw [z.1]
      exact .non
    | bk e1 => exact z.elim
    | ct e1 => exact z.elim
end
end VL
/-! VL14: for proofs about plain readings: promises of defs by domain and answer, rules for loops and comprehensions, values of operations. -/
namespace VL
open PySem PySem.Spec PyProof.Rows L2
/-- a def's promise: dom a are the arguments, pre a the demand, post a d: d may come back -/
def Sem1.of {α : Type} (fr : List Bool) (nw : Bool) (dom : α → List D) (pre : α → Prop) (post : α → D → Prop) : Sem1 where
  wp ds Q := ∃ a, ds = dom a ∧ pre a ∧ ∀ d, post a d → Q d
  mono ds Q Q' h w := by
    obtain ⟨a, e, p, w⟩ := w
    exact ⟨a, e, p, fun d z => h d (w d z)⟩
  fr := fr
  nw := nw
def fin (nw : Bool) (post : D → Prop) : Out → Prop
  | .rt k d => (if nw = true then k = .nw else k.frz = true) ∧ post d
  | .nx _ => nw = false ∧ post .non
  | _ => False
/-- wS, not to be opened by itself -/
@[irreducible] def RunS (G : Gam) (c : S) (env : Env) (Q : Out → Prop) : Prop := wS G c env Q
theorem RunS_eq (G c env Q) : RunS G c env Q = wS G c env Q := by unfold RunS; rfl
theorem bodyOk_of {G : Gam} {n : Nat} {code : S} {α : Type} {fr : List Bool} {nw : Bool} {dom : α → List D} {pre : α → Prop} {post : α → D → Prop}
    (h : ∀ a, pre a → RunS G code (env0 fr (dom a) ++ unE (n - fr.length)) (fin nw (post a))) : BodyOk G n code (Sem1.of fr nw dom pre post) := by
  rintro ds Q ⟨a, rfl, p, w⟩
  refine wS_mono code _ _ _ (fun o z => ?_) ((RunS_eq _ _ _ _).mp (h a p))
  cases o with
  | rt k d => exact ⟨z.1, w d z.2⟩
  | nx e => exact ⟨z.1, w _ z.2⟩
  | bk e => exact z
  | ct e => exact z
/-! ### loops -/
def lp (Q : Out → Prop) (I : Env → Prop) : Out → Prop
  | .nx e => I e
  | .ct e => I e
  | .bk e => Q (.nx e)
  | .rt k d => Q (.rt k d)
theorem wFor_inv {α : Type} {φ : α → D} {f : D → Env → (Out → Prop) → Prop} (hf : ∀ x e q q', (∀ r, q r → q' r) → f x e q → f x e q') (I : Nat → Env → Prop) {Q : Out → Prop} : ∀ {xs : List α} {env : Env} (n : Nat), I n env →
    (∀ i (hi : i < xs.length) e, I (n + i) e → f (φ xs[i]) e (lp Q (I (n + i + 1)))) → (∀ e, I (n + xs.length) e → Q (.nx e)) → wFor f (xs.map φ) env Q
  | [], env, n, h0, hs, hn => hn env h0
  | x :: xs, env, n, h0, hs, hn => by
    refine hf _ _ _ _ (fun o z => ?_) (hs 0 (Nat.succ_pos _) env h0)
    have go : ∀ e, I (n + 1) e → wFor f (xs.map φ) e Q := fun e h => wFor_inv hf I (n + 1) h (fun i hi e he => by
      have := hs (i + 1) (by simpa using hi) e (by rw [show n + (i + 1) = n + 1 + i by omega]; exact he)
      rw [show n + (i + 1) + 1 = n + 1 + i + 1 by omega] at this
      exact this) fun e he => hn e (by rw [show n + (x :: xs).length = n + 1 + xs.length by simp; omega]; exact he)
    cases o with
    | nx e => exact go e z
    | ct e => exact go e z
    | bk e => exact z
    | rt k d => exact z
/-- a loop's body keeps more -/
theorem body_mono {G : Gam} (tg : Tg) (b : S) : ∀ x e q q', (∀ r, q r → q' r) → (match bindT tg x e with
    | some e1 => wS G b e1 q
    | none => False) → (match bindT tg x e with
    | some e1 => wS G b e1 q'
    | none => False) := fun x e q q' h w => by
  cases eb : bindT tg x e with
  | none => rw [eb] at w; exact w
  | some e1 => rw [eb] at w; exact wS_mono b e1 _ _ h w
theorem for_inv {G : Gam} {tg : Tg} {b : S} {α : Type} {φ : α → D} {xs : List α} {env : Env} {Q : Out → Prop} (I : Nat → Env → Prop) (h0 : I 0 env)
    (hs : ∀ i (hi : i < xs.length) e, I i e → match bindT tg (φ xs[i]) e with
      | some e1 => wS G b e1 (lp Q (I (i + 1)))
      | none => False) (hn : ∀ e, I xs.length e → Q (.nx e)) : wFor (fun x e q => match bindT tg x e with
    | some e1 => wS G b e1 q
    | none => False) (xs.map φ) env Q :=
  wFor_inv (body_mono tg b) I 0 h0 (fun i hi e he => by rw [Nat.zero_add] at he ⊢; exact hs i hi e he) fun e he => hn e (by rw [Nat.zero_add] at he; exact he)
/-- a while loop: M counts down -/
theorem whl_inv {G : Gam} {c : E} {b : S} {env : Env} {Q : Out → Prop} (I : Nat → Env → Prop) (n : Nat) (h0 : I n env)
    (hs : ∀ m e, I m e → wT G c e fun r => if r = true then wS G b e (lp Q fun e1 => ∃ j, j < m ∧ I j e1) else Q (.nx e)) : ∃ n, wWh (wT G c) (wS G b) n env Q := by
  refine ⟨n + 1, ?_⟩
  have : ∀ m k e, m ≤ k → I m e → wWh (wT G c) (wS G b) (k + 1) e Q := by
    intro m
    induction m using Nat.strongRecOn with
    | _ m ih =>
      intro k e hk he
      refine wT_mono (fun r z => ?_) (hs m e he)
      cases r with
      | false => exact z
      | true =>
        refine wS_mono b _ _ _ (fun o z => ?_) z
        have go : ∀ e1, (∃ j, j < m ∧ I j e1) → wWh (wT G c) (wS G b) k e1 Q := fun e1 ⟨j, hj, hi⟩ => by
          cases k with
          | zero => omega
          | succ k => exact ih j hj k e1 (by omega) hi
        cases o with
        | nx e1 => exact go e1 z
        | ct e1 => exact go e1 z
        | bk e1 => exact z
        | rt k d => exact z
  exact this n n env (Nat.le_refl n) h0
/-- a comprehension -/
theorem wLc_map {α : Type} {φ : α → D} {f : D → (Option D → Prop) → Prop} (g : α → D) : ∀ {xs : List α} {Q : List D → Prop}, (∀ x ∈ xs, ∀ q : Option D → Prop, q (some (g x)) → f (φ x) q) → Q (xs.map g) → wLc f (xs.map φ) Q
  | [], Q, h, q => q
  | x :: xs, Q, h, q => h x List.mem_cons_self _ (wLc_map g (fun y m => h y (List.mem_cons_of_mem _ m)) q)
theorem wLc_fil {α : Type} {φ : α → D} {f : D → (Option D → Prop) → Prop} (g : α → Option D) : ∀ {xs : List α} {Q : List D → Prop}, (∀ x ∈ xs, ∀ q : Option D → Prop, q (g x) → f (φ x) q) → Q (xs.filterMap g) → wLc f (xs.map φ) Q
  | [], Q, h, q => q
  | x :: xs, Q, h, q => by
    refine h x List.mem_cons_self _ ?_
    rw [List.filterMap_cons] at q
    cases e : g x with
    | none => rw [e] at q; exact wLc_fil g (fun y m => h y (List.mem_cons_of_mem _ m)) q
    | some y => rw [e] at q; exact wLc_fil g (Q := fun ys => Q (y :: ys)) (fun y m => h y (List.mem_cons_of_mem _ m)) q
/-- a comprehension whose items come one by one with what is known of them -/
theorem wLc_rel {α : Type} {φ : α → D} {f : D → (Option D → Prop) → Prop} (P : α → D → Prop) : ∀ {xs : List α} {Q : List D → Prop}, (∀ x ∈ xs, ∀ q : Option D → Prop, (∀ d, P x d → q (some d)) → f (φ x) q) → (∀ ys : List D, ys.length = xs.length → (∀ (i : Nat) (h : i < xs.length) (h' : i < ys.length), P xs[i] ys[i]) → Q ys) → wLc f (xs.map φ) Q
  | [], Q, h, q => q [] rfl fun i h => by simp at h
  | x :: xs, Q, h, q => h x List.mem_cons_self _ fun d pd => wLc_rel P (Q := fun ys => Q (d :: ys)) (fun y m => h y (List.mem_cons_of_mem _ m)) fun ys hl hp => q (d :: ys) (by simp [hl]) fun i h h' => by
    cases i with
    | zero => exact pd
    | succ i => exact hp i (by simpa using h) (by simpa using h')
/-! ### values -/
abbrev li (ns : List Int) : List D := ns.map D.int
/-- Python indices -/
theorem ixN_lt {n : Nat} {z : Int} (h0 : 0 ≤ z) (h1 : z < n) : ixN n z = some z.toNat := by
  unfold ixN
  rw [if_pos h0, if_pos h1]
theorem ixN_nat {n i : Nat} (h : i < n) : ixN n (i : Int) = some i := by
  rw [ixN_lt (by omega) (by omega), Int.toNat_natCast]
theorem ixN_neg {n i : Nat} (h0 : 0 < i) (h : i ≤ n) : ixN n (-(i : Int)) = some (n - i) := by
  unfold ixN
  rw [if_neg (by omega), if_pos (by omega)]
  congr 1
  omega
theorem atI_nat {α : Type} {xs : List α} {i : Nat} (h : i < xs.length) : atI xs (i : Int) = some xs[i] := by
  unfold atI
  rw [ixN_nat h]
  exact List.getElem?_eq_getElem h
theorem atI_lt {α : Type} {xs : List α} {z : Int} (h0 : 0 ≤ z) (h1 : z < xs.length) : atI xs z = some (xs[z.toNat]'(by omega)) := by
  unfold atI
  rw [ixN_lt h0 h1]
  exact List.getElem?_eq_getElem _
theorem atI_map {α β : Type} {f : α → β} {xs : List α} {z : Int} : atI (xs.map f) z = (atI xs z).map f := by
  unfold atI
  rw [List.length_map]
  cases ixN xs.length z with
  | none => rfl
  | some j => simp
/-- values that == tells apart: no bools, no objects, no deep nests -/
def pl : Nat → D → Bool
  | _, .non => true
  | _, .int _ => true
  | _, .str x => PyData.strOk x
  | n + 1, .lst ds => ds.attach.all fun ⟨d, _⟩ => pl n d
  | n + 1, .tup ds => ds.attach.all fun ⟨d, _⟩ => pl n d
  | _, _ => false
end VL
/-! VL15: plain readings as rewriting rules (q0: all of them, one conjunction, for simp only). -/
namespace VL
open PySem PySem.Spec PyProof.Rows L2
/-- continuations that are not to be opened by themselves -/
def rdV : Slot → (Kd → D → Prop) → Prop
  | .sh d, Q => Q .fr d
  | .bo d, Q => Q .b1 d
  | .ow ds, Q => Q .b1 (.lst ds)
  | .lk ds, Q => Q .b1 (.lst ds)
  | .un, _ => False
@[irreducible] def opQ : Option (Kd × D) → (Kd → D → Prop) → Prop
  | some (k, d), Q => Q k d
  | none, _ => False
@[irreducible] def oQ {α : Type} : Option α → (α → Prop) → Prop
  | some d, Q => Q d
  | none, _ => False
def blQ : D → (Bool → Prop) → Prop
  | .bl b, Q => Q b
  | _, _ => False
def inQ : D → (Int → Prop) → Prop
  | .int b, Q => Q b
  | _, _ => False
@[irreducible] def andQ (G : Gam) (b : E) (env : Env) (Q : Kd → D → Prop) : Bool → Prop
  | true => wE G b env Q
  | false => Q .fr (.bl false)
@[irreducible] def orQ (G : Gam) (b : E) (env : Env) (Q : Kd → D → Prop) : Bool → Prop
  | false => wE G b env Q
  | true => Q .fr (.bl true)
@[irreducible] def ifeQ (G : Gam) (a b : E) (env : Env) (Q : Kd → D → Prop) : Bool → Prop
  | true => wE G a env fun k d => k.frz = true ∧ Q .fr d
  | false => wE G b env fun k d => k.frz = true ∧ Q .fr d
@[irreducible] def chQ (G : Gam) (p : CmpOp) (y : D) (c : E) (env : Env) (Q : Kd → D → Prop) : Bool → Prop
  | true => wE G c env fun _ z => oQ (cmpD p y z) fun r => Q .fr (.bl r)
  | false => Q .fr (.bl false)
@[irreducible] def lcF (G : Gam) (own : List Nat) (tg : Tg) (cond elt : E) (env : Env) (x : D) (q : Option D → Prop) : Prop := match bindT tg x (wipeE env own) with
  | some env1 => wC G cond env1 fun r => if r = true then wE G elt env1 fun k y => k.frz = true ∧ q (some y) else q none
  | none => False
@[irreducible] def cdQ (G : Gam) (elt : E) (env : Env) (q : Option D → Prop) : Bool → Prop
  | true => wE G elt env fun k y => k.frz = true ∧ q (some y)
  | false => q none
/-- a comprehension over items -/
@[irreducible] def LcS (G : Gam) (own : List Nat) (tg : Tg) (cond elt : E) (env : Env) (items : List D) (Q : List D → Prop) : Prop := items.length ≤ sizeLine ∧ wLc (lcF G own tg cond elt env) items Q
@[irreducible] def forF (G : Gam) (tg : Tg) (body : S) (x : D) (e : Env) (q : Out → Prop) : Prop := match bindT tg x e with
  | some e1 => wS G body e1 q
  | none => False
/-- a for loop over items -/
def forE (env : Env) (lks : List Nat) (Q : Out → Prop) : Out → Prop
  | .nx e => Q (.nx (unlE env lks e))
  | .rt k d => Q (.rt k d)
  | .bk _ => False
  | .ct _ => False
@[irreducible] def ForS (G : Gam) (lks : List Nat) (tg : Tg) (body : S) (env : Env) (items : List D) (Q : Out → Prop) : Prop := wFor (forF G tg body) items (lockE env lks) (forE env lks Q)
@[irreducible] def WhS (G : Gam) (c : E) (body : S) (env : Env) (Q : Out → Prop) : Prop := ∃ n, wWh (wT G c) (wS G body) n env Q
@[irreducible] def sq (G : Gam) (r : S) (Q : Out → Prop) : Out → Prop
  | .nx e => wS G r e Q
  | .bk e => Q (.bk e)
  | .ct e => Q (.ct e)
  | .rt k d => Q (.rt k d)
@[irreducible] def brQ (G : Gam) (a b : S) (env : Env) (Q : Out → Prop) : Bool → Prop
  | true => wS G a env Q
  | false => wS G b env Q
def augQ (G : Gam) (i : Nat) (o : Operator) (e : E) (env : Env) (Q : Out → Prop) : Slot → Prop
  | .sh x => wE G e env fun _ y => oQ (augD o x y) fun d => Q (.nx (env.set i (.sh d)))
  | _ => False
def subQ (G : Gam) (i : Nat) (ix e : E) (env : Env) (Q : Out → Prop) : Slot → Prop
  | .ow ds => wE G e env fun k d => k.frz = true ∧ wE G ix env fun _ n => inQ n fun z => oQ (ixN ds.length z) fun j => Q (.nx (env.set i (.ow (ds.set j d))))
  | _ => False
def appQ (G : Gam) (i : Nat) (e : E) (env : Env) (Q : Out → Prop) : Slot → Prop
  | .ow ds => wE G e env fun k d => k.frz = true ∧ ds.length < 16777216 ∧ Q (.nx (env.set i (.ow (ds ++ [d]))))
  | _ => False
def popQ (G : Gam) (i j : Nat) (e : E) (env : Env) (Q : Out → Prop) : Slot → Slot → Prop
  | .ow ds, .ow es => i ≠ j ∧ (ds.length < 16777216 ∧ es.length ≤ 16777216) ∧ wE G e env fun _ n => inQ n fun z => oQ (ixN es.length z) fun q => oQ es[q]? fun d => Q (.nx ((env.set j (.ow (es.eraseIdx q))).set i (.ow (ds ++ [d]))))
  | _, _ => False
def rvQ (Q : Out → Prop) : Slot → Prop
  | .ow ds => Q (.rt .nw (.lst ds))
  | .sh d => Q (.rt .fr d)
  | _ => False
def frQ (env : Env) (i : Nat) : Slot → Env
  | .ow ds => env.set i (.sh (.lst ds))
  | _ => env
def wxQ (m : Bool) (Q : D → Prop) : Slot → Prop
  | .sh d => Q d
  | .bo d => Q d
  | .lk ds => Q (.lst ds)
  | .ow ds => m = false ∧ Q (.lst ds)
  | .un => False
section
variable {G : Gam} {env : Env}
theorem blQ_eq {x : D} {Q : Bool → Prop} : (match x with
  | .bl r => Q r
  | _ => False) = blQ x Q := by cases x <;> first | rfl | (unfold oQ; rfl) | (unfold opQ; rfl) | (unfold andQ; rfl) | (unfold orQ; rfl) | (unfold ifeQ; rfl) | (unfold sq; rfl)
theorem qe_v (i : Nat) (Q) : wE G (.v i) env Q = rdV (slot env i) Q := by
  conv => lhs; unfold wE
  cases slot env i <;> first | rfl | (unfold oQ; rfl) | (unfold opQ; rfl) | (unfold andQ; rfl) | (unfold orQ; rfl) | (unfold ifeQ; rfl) | (unfold sq; rfl)
theorem qe_k (d : D) (Q) : wE G (.k d) env Q = Q .fr d := by unfold wE; rfl
theorem qe_gk (x : Str) (Q) : wE G (.gk x) env Q = oQ (G.cst x) fun d => Q .fr d := by
  conv => lhs; unfold wE
  cases G.cst x <;> first | rfl | (unfold oQ; rfl) | (unfold opQ; rfl) | (unfold andQ; rfl) | (unfold orQ; rfl) | (unfold ifeQ; rfl) | (unfold sq; rfl)
theorem cE {a : E} {P Q : Kd → D → Prop} (h : ∀ k d, P k d = Q k d) : wE G a env P = wE G a env Q := congrArg (wE G a env) (funext fun k => funext fun d => h k d)
theorem cA {a : E} {P Q : List (Kd × D) → Prop} (h : ∀ d, P d = Q d) : wA G a env P = wA G a env Q := congrArg (wA G a env) (funext fun d => h d)
theorem qe_op (o a b) (Q) : wE G (.op o a b) env Q = wE G a env fun _ x => wE G b env fun _ y => opQ (opD o x y) Q := by
  conv => lhs; unfold wE
  exact cE fun k x => cE fun k y => by cases opD o x y <;> first | rfl | (unfold oQ; rfl) | (unfold opQ; rfl) | (unfold andQ; rfl) | (unfold orQ; rfl) | (unfold ifeQ; rfl) | (unfold sq; rfl)
theorem qe_neg (a) (Q) : wE G (.neg a) env Q = wE G a env fun _ x => inQ x fun i => Q .fr (.int (-i)) := by
  conv => lhs; unfold wE
  exact cE fun k x => by cases x <;> first | rfl | (unfold oQ; rfl) | (unfold opQ; rfl) | (unfold andQ; rfl) | (unfold orQ; rfl) | (unfold ifeQ; rfl) | (unfold sq; rfl)
theorem qe_cmp (o a b) (Q) : wE G (.cmp o a b) env Q = wE G a env fun _ x => wE G b env fun _ y => oQ (cmpD o x y) fun r => Q .fr (.bl r) := by
  conv => lhs; unfold wE
  exact cE fun k x => cE fun k y => by cases cmpD o x y <;> first | rfl | (unfold oQ; rfl) | (unfold opQ; rfl) | (unfold andQ; rfl) | (unfold orQ; rfl) | (unfold ifeQ; rfl) | (unfold sq; rfl)
theorem qe_chn (o p a b c) (Q) : wE G (.chn o p a b c) env Q = wE G a env fun _ x => wE G b env fun _ y => oQ (cmpD o x y) (chQ G p y c env Q) := by
  conv => lhs; unfold wE
  refine cE fun k x => cE fun k y => ?_
  unfold oQ chQ
  cases cmpD o x y with
  | none => rfl
  | some r =>
    cases r with
    | false => rfl
    | true => exact cE fun k z => by cases cmpD p y z <;> first | rfl | (unfold oQ; rfl) | (unfold opQ; rfl) | (unfold andQ; rfl) | (unfold orQ; rfl) | (unfold ifeQ; rfl) | (unfold sq; rfl)
theorem qe_and (a b) (Q) : wE G (.and a b) env Q = wE G a env fun _ x => blQ x (andQ G b env Q) := by
  conv => lhs; unfold wE
  exact cE fun k x => by
    cases x <;> try rfl
    rename_i r
    cases r <;> first | rfl | (unfold oQ; rfl) | (unfold opQ; rfl) | (unfold andQ; rfl) | (unfold orQ; rfl) | (unfold ifeQ; rfl) | (unfold sq; rfl)
theorem qe_or (a b) (Q) : wE G (.or a b) env Q = wE G a env fun _ x => blQ x (orQ G b env Q) := by
  conv => lhs; unfold wE
  exact cE fun k x => by
    cases x <;> try rfl
    rename_i r
    cases r <;> first | rfl | (unfold oQ; rfl) | (unfold opQ; rfl) | (unfold andQ; rfl) | (unfold orQ; rfl) | (unfold ifeQ; rfl) | (unfold sq; rfl)
theorem qe_not (a) (Q) : wE G (.not a) env Q = wE G a env fun _ x => blQ x fun r => Q .fr (.bl !r) := by
  conv => lhs; unfold wE
  exact cE fun k x => by cases x <;> first | rfl | (unfold oQ; rfl) | (unfold opQ; rfl) | (unfold andQ; rfl) | (unfold orQ; rfl) | (unfold ifeQ; rfl) | (unfold sq; rfl)
theorem qe_ife (t a b) (Q) : wE G (.ife t a b) env Q = wE G t env fun _ x => blQ x (ifeQ G a b env Q) := by
  conv => lhs; unfold wE
  exact cE fun k x => by
    cases x <;> try rfl
    rename_i r
    cases r <;> first | rfl | (unfold oQ; rfl) | (unfold opQ; rfl) | (unfold andQ; rfl) | (unfold orQ; rfl) | (unfold ifeQ; rfl) | (unfold sq; rfl)
theorem qe_ix (a b) (Q) : wE G (.ix a b) env Q = wE G a env fun _ x => wE G b env fun _ y => oQ (ixD x y) fun d => Q .fr d := by
  conv => lhs; unfold wE
  exact cE fun k x => cE fun k y => by cases ixD x y <;> first | rfl | (unfold oQ; rfl) | (unfold opQ; rfl) | (unfold andQ; rfl) | (unfold orQ; rfl) | (unfold ifeQ; rfl) | (unfold sq; rfl)
theorem cO {a : E} {P Q : Option Int → Prop} (h : ∀ d, P d = Q d) : wO G a env P = wO G a env Q := congrArg (wO G a env) (funext fun d => h d)
theorem qe_sl (a lo hi) (Q) : wE G (.sl a lo hi) env Q = wE G a env fun _ x => wO G lo env fun l => wO G hi env fun h => opQ (slD x l h) Q := by
  conv => lhs; unfold wE
  exact cE fun k x => cO fun l => cO fun h => by cases slD x l h <;> first | rfl | (unfold oQ; rfl) | (unfold opQ; rfl) | (unfold andQ; rfl) | (unfold orQ; rfl) | (unfold ifeQ; rfl) | (unfold sq; rfl)
theorem qe_lst (es) (Q) : wE G (.lst es) env Q = wA G es env fun xs => (xs.all (·.1.frz) && decide (xs.length ≤ 1000)) = true ∧ Q .nw (.lst (xs.map (·.2))) := by
  conv => lhs; unfold wE
theorem qe_tup (es) (Q) : wE G (.tup es) env Q = wA G es env fun xs => (xs.all (·.1.frz) && decide (xs.length ≤ 1000)) = true ∧ Q .fr (.tup (xs.map (·.2))) := by
  conv => lhs; unfold wE
theorem qe_bf (f es) (Q) : wE G (.bf f es) env Q = wA G es env fun xs => opQ (bfD f (xs.map (·.2))) Q := by
  conv => lhs; unfold wE
  exact cA fun xs => by cases bfD f (xs.map (·.2)) <;> first | rfl | (unfold oQ; rfl) | (unfold opQ; rfl) | (unfold andQ; rfl) | (unfold orQ; rfl) | (unfold ifeQ; rfl) | (unfold sq; rfl)
theorem qe_isi (T a) (Q) : wE G (.isi T a) env Q = wE G a env fun _ x => noIns x = true ∧ Q .fr (.bl (isT T x)) := by
  conv => lhs; unfold wE
theorem qe_bm (m o es) (Q) : wE G (.bm m o es) env Q = wE G o env fun _ x => bmT m x = true ∧ wA G es env fun xs => opQ (bmD m x (xs.map (·.2))) Q := by
  conv => lhs; unfold wE
  exact cE fun k x => congrArg (bmT m x = true ∧ ·) (cA fun xs => by cases bmD m x (xs.map (·.2)) <;> first | rfl | (unfold oQ; rfl) | (unfold opQ; rfl) | (unfold andQ; rfl) | (unfold orQ; rfl) | (unfold ifeQ; rfl) | (unfold sq; rfl))
/-- a call of a def -/
def fnQ (G : Gam) (es : E) (env : Env) (Q : Kd → D → Prop) : Option Sem1 → Prop
  | some S => wA G es env fun xs => argsOk S.fr xs = true ∧ S.wp (xs.map (·.2)) fun d => Q (kOf S.nw) d
  | none => False
theorem qe_fn (f es) (Q) : wE G (.fn f es) env Q = fnQ G es env Q (G.fn f) := by
  conv => lhs; unfold wE
  cases G.fn f <;> first | rfl | (unfold oQ; rfl) | (unfold opQ; rfl) | (unfold andQ; rfl) | (unfold orQ; rfl) | (unfold ifeQ; rfl) | (unfold sq; rfl)
theorem cI {m : Bool} {a : E} {P Q : List D → Prop} (h : ∀ d, P d = Q d) : wI G m a env P = wI G m a env Q := congrArg (wI G m a env) (funext fun d => h d)
theorem qe_lc (own tg it cond elt) (Q) : wE G (.lc own tg it cond elt) env Q = wI G false it env fun items => LcS G own tg cond elt env items fun ys => Q .nw (.lst ys) := by
  conv => lhs; unfold wE
  unfold LcS lcF
  rfl
theorem qo_no (Q) : wO G .no env Q = Q none := by
  conv => lhs; unfold wO
theorem qo_so (e) (Q) : wO G (.so e) env Q = wE G e env fun _ x => inQ x fun i => Q (some i) := by
  conv => lhs; unfold wO
  exact cE fun k x => by cases x <;> first | rfl | (unfold oQ; rfl) | (unfold opQ; rfl) | (unfold andQ; rfl) | (unfold orQ; rfl) | (unfold ifeQ; rfl) | (unfold sq; rfl)
theorem qc_no (Q) : wC G .no env Q = Q true := by
  conv => lhs; unfold wC
theorem qc_so (e) (Q) : wC G (.so e) env Q = wE G e env fun _ x => blQ x Q := by
  conv => lhs; unfold wC
  exact cE fun k x => by cases x <;> first | rfl | (unfold oQ; rfl) | (unfold opQ; rfl) | (unfold andQ; rfl) | (unfold orQ; rfl) | (unfold ifeQ; rfl) | (unfold sq; rfl)
theorem qa_nil (Q) : wA G .nil env Q = Q [] := by
  conv => lhs; unfold wA
theorem qa_cons (e es) (Q) : wA G (.cons e es) env Q = wE G e env fun k x => wA G es env fun xs => Q ((k, x) :: xs) := by
  conv => lhs; unfold wA
theorem qx_sv (m i) (Q) : wX G m (.sv i) env Q = wxQ m Q (slot env i) := by
  conv => lhs; unfold wX
  cases slot env i <;> first | rfl | (unfold oQ; rfl) | (unfold opQ; rfl) | (unfold andQ; rfl) | (unfold orQ; rfl) | (unfold ifeQ; rfl) | (unfold sq; rfl)
theorem qx_se (m e) (Q) : wX G m (.se e) env Q = wE G e env fun k d => k.frz = true ∧ Q d := by
  conv => lhs; unfold wX
theorem cX {m : Bool} {a : E} {P Q : D → Prop} (h : ∀ d, P d = Q d) : wX G m a env P = wX G m a env Q := congrArg (wX G m a env) (funext fun d => h d)
theorem qi_rng (m es) (Q) : wI G m (.rng es) env Q = wA G es env fun xs => oQ (rngD xs) Q := by
  conv => lhs; unfold wI
  exact cA fun xs => by cases rngD xs <;> first | rfl | (unfold oQ; rfl) | (unfold opQ; rfl) | (unfold andQ; rfl) | (unfold orQ; rfl) | (unfold ifeQ; rfl) | (unfold sq; rfl)
theorem qi_iv (m a) (Q) : wI G m (.iv a) env Q = wX G m a env fun x => oQ (itemsD x) Q := by
  conv => lhs; unfold wI
  exact cX fun xs => by cases itemsD xs <;> first | rfl | (unfold oQ; rfl) | (unfold opQ; rfl) | (unfold andQ; rfl) | (unfold orQ; rfl) | (unfold ifeQ; rfl) | (unfold sq; rfl)
theorem q_lcF (own tg cond elt x q) : lcF G own tg cond elt env x q = oQ (bindT tg x (wipeE env own)) fun env1 => wC G cond env1 (cdQ G elt env1 q) := by
  unfold lcF oQ
  cases bindT tg x (wipeE env own) with
  | none => rfl
  | some e1 => exact congrArg (wC G cond e1) (funext fun r => by cases r <;> simp [cdQ])
/-! ### statements -/
theorem qs_T (c) (Q) : wT G c env Q = wE G c env fun _ x => blQ x Q := by
  unfold wT
  exact cE fun k x => by cases x <;> first | rfl | (unfold oQ; rfl) | (unfold opQ; rfl) | (unfold andQ; rfl) | (unfold orQ; rfl) | (unfold ifeQ; rfl) | (unfold sq; rfl)
theorem qs_seq (s r) (Q) : wS G (.seq s r) env Q = wS G s env (sq G r Q) := by
  conv => lhs; unfold wS
  exact congrArg (wS G s env) (funext fun o => by cases o <;> first | rfl | (unfold oQ; rfl) | (unfold opQ; rfl) | (unfold andQ; rfl) | (unfold orQ; rfl) | (unfold ifeQ; rfl) | (unfold sq; rfl))
theorem qs_nil (Q) : wS G .nil env Q = Q (.nx env) := by rfl
theorem qs_frz (i) (Q) : wS G (.frz i) env Q = Q (.nx (frQ env i (slot env i))) := by
  have : frzE env i = frQ env i (slot env i) := by unfold frzE; cases slot env i <;> first | rfl | (unfold oQ; rfl) | (unfold opQ; rfl) | (unfold andQ; rfl) | (unfold orQ; rfl) | (unfold ifeQ; rfl) | (unfold sq; rfl)
  rw [← this]; rfl
theorem qs_asg (i e) (Q) : wS G (.asg i e) env Q = wE G e env fun k d => k.frz = true ∧ Q (.nx (env.set i (mkS k d))) := by rfl
theorem qs_asgl (i e) (Q) : wS G (.asgl i e) env Q = wE G e env fun k d => k.frz = true ∧ Q (.nx (env.set i (mkS k d))) := by rfl
theorem qs_asgT (is e) (Q) : wS G (.asgT is e) env Q = wE G e env fun k d => k.frz = true ∧ oQ (bindT (.tp is) d env) fun e1 => Q (.nx e1) := by
  conv => lhs; unfold wS
  exact cE fun k d => congrArg (k.frz = true ∧ ·) (by cases bindT (.tp is) d env <;> first | rfl | (unfold oQ; rfl) | (unfold opQ; rfl) | (unfold andQ; rfl) | (unfold orQ; rfl) | (unfold ifeQ; rfl) | (unfold sq; rfl))
theorem qs_par (i j a b) (Q) : wS G (.par i j a b) env Q = wE G a env fun k x => wE G b env fun k2 y => k.frz = true ∧ k2.frz = true ∧ Q (.nx ((env.set i (.sh x)).set j (.sh y))) := by rfl
theorem qs_aug (i o e) (Q) : wS G (.aug i o e) env Q = augQ G i o e env Q (slot env i) := by
  conv => lhs; unfold wS
  cases slot env i <;> try rfl
  exact cE fun k y => by rename_i x; cases augD o x y <;> first | rfl | (unfold oQ; rfl) | (unfold opQ; rfl) | (unfold andQ; rfl) | (unfold orQ; rfl) | (unfold ifeQ; rfl) | (unfold sq; rfl)
theorem qs_sub (i ix e) (Q) : wS G (.sub i ix e) env Q = subQ G i ix e env Q (slot env i) := by
  conv => lhs; unfold wS
  cases slot env i <;> try rfl
  rename_i ds
  refine cE fun k y => congrArg (k.frz = true ∧ ·) (cE fun _ n => ?_)
  cases n <;> try rfl
  rename_i z
  show (match ixN ds.length z with | some j => Q (.nx (env.set i (.ow (ds.set j y)))) | none => False) = oQ (ixN ds.length z) _
  cases ixN ds.length z <;> first | rfl | (unfold oQ; rfl) | (unfold opQ; rfl) | (unfold andQ; rfl) | (unfold orQ; rfl) | (unfold ifeQ; rfl) | (unfold sq; rfl)
theorem qs_app (i e) (Q) : wS G (.app i e) env Q = appQ G i e env Q (slot env i) := by
  conv => lhs; unfold wS
  cases slot env i <;> first | rfl | (unfold oQ; rfl) | (unfold opQ; rfl) | (unfold andQ; rfl) | (unfold orQ; rfl) | (unfold ifeQ; rfl) | (unfold sq; rfl)
theorem qs_appPop (i j e) (Q) : wS G (.appPop i j e) env Q = popQ G i j e env Q (slot env i) (slot env j) := by
  conv => lhs; unfold wS
  cases slot env i <;> cases slot env j <;> try rfl
  rename_i ds es
  refine congrArg (fun z => i ≠ j ∧ (ds.length < 16777216 ∧ es.length ≤ 16777216) ∧ z) (cE fun _ n => ?_)
  cases n <;> try rfl
  rename_i z
  show (match ixN es.length z with | some q => (match es[q]? with | some d => Q (.nx ((env.set j (.ow (es.eraseIdx q))).set i (.ow (ds ++ [d])))) | none => False) | none => False) = oQ (ixN es.length z) fun q => oQ es[q]? fun d => Q (.nx ((env.set j (.ow (es.eraseIdx q))).set i (.ow (ds ++ [d]))))
  cases ixN es.length z with
  | none => unfold oQ; rfl
  | some q =>
    have e1 : ∀ {P : Nat → Prop}, oQ (some q) P = P q := by intro P; unfold oQ; rfl
    rw [e1]
    show (match es[q]? with | some d => Q (.nx ((env.set j (.ow (es.eraseIdx q))).set i (.ow (ds ++ [d])))) | none => False) = _
    cases es[q]? <;> (unfold oQ; rfl)
theorem qs_ret (e) (Q) : wS G (.ret e) env Q = wE G e env fun k d => k.frz = true ∧ Q (.rt k d) := by rfl
theorem qs_retv (i) (Q) : wS G (.retv i) env Q = rvQ Q (slot env i) := by
  conv => lhs; unfold wS
  cases slot env i <;> first | rfl | (unfold oQ; rfl) | (unfold opQ; rfl) | (unfold andQ; rfl) | (unfold orQ; rfl) | (unfold ifeQ; rfl) | (unfold sq; rfl)
theorem qs_ret0 (Q) : wS G .ret0 env Q = Q (.rt .fr .non) := by rfl
theorem qs_ifS (c a b) (Q) : wS G (.ifS c a b) env Q = wE G c env fun _ x => blQ x (brQ G a b env Q) := by
  conv => lhs; unfold wS
  rw [qs_T]
  refine cE fun k x => ?_
  cases x <;> try rfl
  rename_i r
  cases r <;> simp [blQ, brQ]
theorem qs_for (lks tg it body) (Q) : wS G (.for_ lks tg it body) env Q = wI G true it (lockE env lks) fun items => ForS G lks tg body env items Q := by
  conv => lhs; unfold wS
  refine cI fun items => ?_
  unfold ForS forF
  exact congrArg (wFor _ items (lockE env lks)) (funext fun o => by cases o <;> first | rfl | (unfold oQ; rfl) | (unfold opQ; rfl) | (unfold andQ; rfl) | (unfold orQ; rfl) | (unfold ifeQ; rfl) | (unfold sq; rfl))
theorem qs_whl (c body) (Q) : wS G (.whl c body) env Q = WhS G c body env Q := by
  unfold WhS
  rfl
theorem qs_brk (Q) : wS G .brk env Q = Q (.bk env) := by rfl
theorem qs_cnt (Q) : wS G .cnt env Q = Q (.ct env) := by rfl
theorem qs_pass (Q) : wS G .pass env Q = Q (.nx env) := by rfl
theorem qs_nvr (Q) : wS G .nvr env Q = False := by rfl
end
end VL
/-! VL16: the rewriting rules q0; loops and comprehensions by their rules. -/
namespace VL
open PySem PySem.Spec PyProof.Rows L2
def lkQ (env : Env) (i : Nat) : Slot → Env
  | .ow ds => env.set i (.lk ds)
  | _ => env
def ulQ (e : Env) (i : Nat) : Slot → Slot → Env
  | .ow _, .lk ds => e.set i (.ow ds)
  | _, _ => e
theorem lockE_cons (env : Env) (i : Nat) (is : List Nat) : lockE env (i :: is) = lkQ (lockE env is) i (slot (lockE env is) i) := by
  show (match slot (lockE env is) i with | .ow ds => (lockE env is).set i (.lk ds) | _ => lockE env is) = _
  cases slot (lockE env is) i <;> rfl
theorem unlE_cons (env e : Env) (i : Nat) (is : List Nat) : unlE env (i :: is) e = ulQ (unlE env is e) i (slot env i) (slot (unlE env is e) i) := by
  show (match slot env i, slot (unlE env is e) i with | .ow _, .lk ds => (unlE env is e).set i (.ow ds) | _, _ => unlE env is e) = _
  cases slot env i <;> cases slot (unlE env is e) i <;> rfl
theorem slot_z (s : Slot) (r : Env) : slot (s :: r) 0 = s := rfl
theorem slot_s (s : Slot) (r : Env) (n : Nat) : slot (s :: r) (n + 1) = slot r n := rfl
theorem wipeE_n (env : Env) : wipeE env [] = env := rfl
theorem wipeE_c (env : Env) (v : Nat) (vs : List Nat) : wipeE env (v :: vs) = (wipeE env vs).set v .un := rfl
theorem lockE_n (env : Env) : lockE env [] = env := rfl
theorem unlE_n (env e : Env) : unlE env [] e = e := rfl
theorem lkQ_o (env : Env) (i : Nat) (ds : List D) : lkQ env i (.ow ds) = env.set i (.lk ds) := rfl
theorem ulQ_o (e : Env) (i : Nat) (d ds : List D) : ulQ e i (.ow d) (.lk ds) = e.set i (.ow ds) := rfl
theorem frQ_o (env : Env) (i : Nat) (ds : List D) : frQ env i (.ow ds) = env.set i (.sh (.lst ds)) := rfl
theorem mkS_f (d : D) : mkS .fr d = .sh d := by cases d <;> rfl
theorem mkS_n (ds : List D) : mkS .nw (.lst ds) = .ow ds := rfl
theorem frz_f : (Kd.fr.frz = true) = True := by simp [Kd.frz]
theorem frz_n : (Kd.nw.frz = true) = True := by simp [Kd.frz]
theorem frz_f' : Kd.fr.frz = true := by simp [Kd.frz]
theorem frz_n' : Kd.nw.frz = true := by simp [Kd.frz]
theorem frz_b : Kd.b1.frz = false := by simp [Kd.frz]
theorem rdV_sh (d Q) : rdV (.sh d) Q = Q .fr d := rfl
theorem rdV_bo (d Q) : rdV (.bo d) Q = Q .b1 d := rfl
theorem rdV_ow (d Q) : rdV (.ow d) Q = Q .b1 (.lst d) := rfl
theorem rdV_lk (d Q) : rdV (.lk d) Q = Q .b1 (.lst d) := rfl
theorem opQ_s (k d Q) : opQ (some (k, d)) Q = Q k d := by unfold opQ; rfl
theorem opQ_i {c : Prop} [Decidable c] (r Q) : opQ (if c then r else none) Q = (c ∧ opQ r Q) := by
  by_cases h : c
  · rw [if_pos h]; simp [h]
  · rw [if_neg h]; simp [h, opQ]
theorem oQ_s {α : Type} (d : α) (Q) : oQ (some d) Q = Q d := by unfold oQ; rfl
theorem oQ_i {α : Type} {c : Prop} [Decidable c] (r : Option α) (Q) : oQ (if c then r else none) Q = (c ∧ oQ r Q) := by
  by_cases h : c
  · rw [if_pos h]; simp [h]
  · rw [if_neg h]; simp [h, oQ]
theorem oQ_m {α β : Type} (f : α → β) (r : Option α) (Q) : oQ (r.map f) Q = oQ r fun x => Q (f x) := by cases r <;> (unfold oQ; rfl)
theorem oQ_of {α : Type} {r : Option α} {x : α} {Q : α → Prop} (h : r = some x) (q : Q x) : oQ r Q := by rw [h, oQ_s]; exact q
theorem blQ_b (b Q) : blQ (.bl b) Q = Q b := rfl
theorem inQ_i (b Q) : inQ (.int b) Q = Q b := rfl
section
variable (G : Gam) (env : Env)
theorem andQ_t (b Q) : andQ G b env Q true = wE G b env Q := by unfold andQ; rfl
theorem andQ_f (b Q) : andQ G b env Q false = Q .fr (.bl false) := by unfold andQ; rfl
theorem orQ_t (b Q) : orQ G b env Q true = Q .fr (.bl true) := by unfold orQ; rfl
theorem orQ_f (b Q) : orQ G b env Q false = wE G b env Q := by unfold orQ; rfl
theorem ifeQ_t (a b Q) : ifeQ G a b env Q true = wE G a env fun k d => k.frz = true ∧ Q .fr d := by unfold ifeQ; rfl
theorem ifeQ_f (a b Q) : ifeQ G a b env Q false = wE G b env fun k d => k.frz = true ∧ Q .fr d := by unfold ifeQ; rfl
theorem chQ_t (p y c Q) : chQ G p y c env Q true = wE G c env fun _ z => oQ (cmpD p y z) fun r => Q .fr (.bl r) := by unfold chQ; rfl
theorem chQ_f (p y c Q) : chQ G p y c env Q false = Q .fr (.bl false) := by unfold chQ; rfl
theorem brQ_t (a b Q) : brQ G a b env Q true = wS G a env Q := by unfold brQ; rfl
theorem brQ_f (a b Q) : brQ G a b env Q false = wS G b env Q := by unfold brQ; rfl
theorem cdQ_t (a Q) : cdQ G a env Q true = wE G a env fun k y => k.frz = true ∧ Q (some y) := by unfold cdQ; rfl
theorem cdQ_f (a Q) : cdQ G a env Q false = Q none := by unfold cdQ; rfl
theorem fnQ_s (es Q S) : fnQ G es env Q (some S) = wA G es env fun xs => argsOk S.fr xs = true ∧ S.wp (xs.map (·.2)) fun d => Q (kOf S.nw) d := rfl
theorem sq_n (r Q) : sq G r Q (.nx env) = wS G r env Q := by unfold sq; rfl
theorem sq_b (r Q) : sq G r Q (.bk env) = Q (.bk env) := by unfold sq; rfl
theorem sq_c (r Q) : sq G r Q (.ct env) = Q (.ct env) := by unfold sq; rfl
theorem sq_r (r Q k d) : sq G r Q (.rt k d) = Q (.rt k d) := by unfold sq; rfl
theorem augQ_s (i o e Q x) : augQ G i o e env Q (.sh x) = wE G e env fun _ y => oQ (augD o x y) fun d => Q (.nx (env.set i (.sh d))) := rfl
theorem subQ_s (i ix e Q ds) : subQ G i ix e env Q (.ow ds) = wE G e env fun k d => k.frz = true ∧ wE G ix env fun _ n => inQ n fun z => oQ (ixN ds.length z) fun j => Q (.nx (env.set i (.ow (ds.set j d)))) := rfl
theorem appQ_s (i e Q ds) : appQ G i e env Q (.ow ds) = wE G e env fun k d => k.frz = true ∧ ds.length < 16777216 ∧ Q (.nx (env.set i (.ow (ds ++ [d])))) := rfl
theorem popQ_s (i j e Q ds es) : popQ G i j e env Q (.ow ds) (.ow es) = (i ≠ j ∧ (ds.length < 16777216 ∧ es.length ≤ 16777216) ∧ wE G e env fun _ n => inQ n fun z => oQ (ixN es.length z) fun q => oQ es[q]? fun d => Q (.nx ((env.set j (.ow (es.eraseIdx q))).set i (.ow (ds ++ [d]))))) := rfl
theorem rvQ_o (Q ds) : rvQ Q (.ow ds) = Q (.rt .nw (.lst ds)) := rfl
theorem rvQ_s (Q d) : rvQ Q (.sh d) = Q (.rt .fr d) := rfl
theorem wxQ_s (m Q d) : wxQ m Q (.sh d) = Q d := rfl
theorem wxQ_b (m Q d) : wxQ m Q (.bo d) = Q d := rfl
theorem wxQ_l (m Q d) : wxQ m Q (.lk d) = Q (.lst d) := rfl
theorem wxQ_o (m Q d) : wxQ m Q (.ow d) = (m = false ∧ Q (.lst d)) := rfl
theorem lp_n (Q I) : lp Q I (.nx env) = I env := rfl
theorem lp_c (Q I) : lp Q I (.ct env) = I env := rfl
theorem lp_b (Q I) : lp Q I (.bk env) = Q (.nx env) := rfl
theorem lp_r (Q I k d) : lp Q I (.rt k d) = Q (.rt k d) := rfl
theorem forE_n (l Q e) : forE env l Q (.nx e) = Q (.nx (unlE env l e)) := rfl
theorem forE_r (l Q k d) : forE env l Q (.rt k d) = Q (.rt k d) := rfl
theorem fin_t (p k d) : fin true p (.rt k d) = (k = .nw ∧ p d) := rfl
theorem fin_f (p k d) : fin false p (.rt k d) = (k.frz = true ∧ p d) := rfl
theorem fin_n (p) : fin false p (.nx env) = p .non := by simp [fin]
end
theorem eqD_int (i j : Int) : eqD (.int i) (.int j) = some (decide (i = j)) := by
  unfold eqD
  rw [if_pos ⟨by simp [D.py, SeqAt.shaped, PyData.canLay0, PyData.depth], by simp [D.py, SeqAt.shaped, PyData.canLay0, PyData.depth]⟩]
  simp only [D.py, PyData.eqv]
  congr 1
theorem eqD_bl (i j : Bool) : eqD (.bl i) (.bl j) = some (i == j) := by
  unfold eqD
  rw [if_pos ⟨by simp [D.py, SeqAt.shaped, PyData.canLay0, PyData.depth], by simp [D.py, SeqAt.shaped, PyData.canLay0, PyData.depth]⟩]
  simp only [D.py, PyData.eqv]
theorem forF_q (G tg b x env q) : forF G tg b x env q = oQ (bindT tg x env) fun e1 => wS G b e1 q := by
  unfold forF
  cases bindT tg x env <;> (unfold oQ; rfl)
theorem bindT_n (i d env) : bindT (.nm i) d env = some (env.set i (.sh d)) := rfl
theorem bindT_t (is ds env) : bindT (.tp is) (.tup ds) env = setAll is ds env := rfl
theorem setAll_n (env) : setAll [] [] env = some env := rfl
theorem setAll_c (i is d ds env) : setAll (i :: is) (d :: ds) env = setAll is ds (env.set i (.sh d)) := rfl
theorem ao_n : argsOk [] [] = true := rfl
theorem ao_c (b bs k d r) : argsOk (b :: bs) ((k, d) :: r) = ((!b || k.frz) && argsOk bs r) := rfl
def opP : Operator → (D → D → Option (Kd × D))
  | o => opD o
theorem od_a (i j : Int) : opD .Add (.int i) (.int j) = some (.fr, .int (i + j)) := rfl
theorem od_s (i j : Int) : opD .Sub (.int i) (.int j) = some (.fr, .int (i - j)) := rfl
theorem od_m (i j : Int) : opD .Mult (.int i) (.int j) = if mulOk i j = true then some (.fr, .int (i * j)) else none := rfl
theorem od_d (i j : Int) : opD .FloorDiv (.int i) (.int j) = if j ≠ 0 ∧ j.natAbs < 1073741824 then some (.fr, .int (i.fdiv j)) else none := rfl
theorem od_o (i j : Int) : opD .Mod (.int i) (.int j) = if j ≠ 0 then some (.fr, .int (i.fmod j)) else none := rfl
theorem od_p (i j : Int) : opD .Pow (.int i) (.int j) = if 0 ≤ j ∧ j ≤ 1000000 ∧ i.natAbs < 2 ^ 64 then some (.fr, .int (i ^ j.toNat)) else none := rfl
theorem od_al (xs ys) : opD .Add (.lst xs) (.lst ys) = if xs.length + ys.length ≤ sizeLine then some (.nw, .lst (xs ++ ys)) else none := rfl
theorem od_at (xs ys) : opD .Add (.tup xs) (.tup ys) = if xs.length + ys.length ≤ sizeLine ∧ xs ≠ [] then some (.fr, .tup (xs ++ ys)) else none := rfl
theorem od_ml (xs k) : opD .Mult (.lst xs) (.int k) = if -(2 ^ 63) ≤ k ∧ k < 2 ^ 63 ∧ xs.length * k.toNat ≤ sizeLine then some (.nw, .lst (List.replicate k.toNat xs).flatten) else none := rfl
theorem cd_e (x y) : cmpD .Eq x y = eqD x y := rfl
theorem cd_n (x y) : cmpD .NotEq x y = (eqD x y).map (!·) := rfl
theorem cd_l (i j : Int) : cmpD .Lt (.int i) (.int j) = some (decide (i < j)) := rfl
theorem cd_le (i j : Int) : cmpD .LtE (.int i) (.int j) = some (decide (i ≤ j)) := rfl
theorem cd_g (i j : Int) : cmpD .Gt (.int i) (.int j) = some (decide (j < i)) := rfl
theorem cd_ge (i j : Int) : cmpD .GtE (.int i) (.int j) = some (decide (j ≤ i)) := rfl
theorem cd_is (x y) : cmpD .Is x y = isnD x y := rfl
theorem cd_isn (x y) : cmpD .IsNot x y = (isnD x y).map (!·) := rfl
theorem cd_in (x y) : cmpD .In x y = inD x y := rfl
theorem cd_nin (x y) : cmpD .NotIn x y = (inD x y).map (!·) := rfl
theorem isn_n : isnD .non .non = some true := rfl
theorem isn_b (x) : isnD (.bl x) .non = some false := rfl
theorem isn_i (x) : isnD (.int x) .non = some false := rfl
theorem isn_s (x) : isnD (.str x) .non = some false := rfl
theorem isn_l (x) : isnD (.lst x) .non = some false := rfl
theorem isn_t (x) : isnD (.tup x) .non = some false := rfl
theorem isn_o (c x) : isnD (.ins c x) .non = some false := rfl
theorem ix_l (ds i) : ixD (.lst ds) (.int i) = atI ds i := rfl
theorem ix_t (ds i) : ixD (.tup ds) (.int i) = atI ds i := rfl
theorem ix_s (ns i) : ixD (.scr ns) (.int i) = (atI ns i).map .int := rfl
theorem sl_l (ds lo hi) : slD (.lst ds) lo hi = some (.nw, .lst (cutD ds lo hi)) := rfl
theorem bf_ll (ds) : bfD .len [.lst ds] = some (.fr, .int ds.length) := rfl
theorem bf_lt (ds) : bfD .len [.tup ds] = some (.fr, .int ds.length) := rfl
theorem bf_ls (ds) : bfD .len [.scr ds] = some (.fr, .int ds.length) := rfl
theorem bf_ii (i) : bfD .int_ [.int i] = some (.fr, .int i) := rfl
theorem bf_ib (b : Bool) : bfD .int_ [.bl b] = some (.fr, .int (if b then 1 else 0)) := rfl
theorem bf_tl (ds) : bfD .tuple_ [.lst ds] = some (.fr, .tup ds) := rfl
theorem bf_tt (ds) : bfD .tuple_ [.tup ds] = some (.fr, .tup ds) := rfl
theorem bf_l1 (ds) : bfD .list_ [.lst ds] = some (.nw, .lst ds) := rfl
theorem bf_l2 (ds) : bfD .list_ [.tup ds] = some (.nw, .lst ds) := rfl
theorem au_a (i j : Int) : augD .Add (.int i) (.int j) = some (.int (i + j)) := rfl
theorem au_s (i j : Int) : augD .Sub (.int i) (.int j) = some (.int (i - j)) := rfl
theorem rg_1 (k n) : rngD [(k, .int n)] = if -(2 ^ 62) ≤ n ∧ n < 2 ^ 62 then some ((List.range n.toNat).map fun (i : Nat) => D.int i) else none := rfl
theorem rg_2 (k m l n) : rngD [(k, .int m), (l, .int n)] = if -(2 ^ 62) ≤ m ∧ m < 2 ^ 62 ∧ -(2 ^ 62) ≤ n ∧ n < 2 ^ 62 then some ((List.range (n - m).toNat).map fun (i : Nat) => D.int (m + i)) else none := rfl
theorem it_l (ds) : itemsD (.lst ds) = some ds := rfl
theorem it_t (ds) : itemsD (.tup ds) = some ds := rfl
theorem it_s (ds) : itemsD (.scr ds) = some (ds.map .int) := rfl
theorem kO_t : kOf true = .nw := rfl
theorem kO_f : kOf false = .fr := rfl
theorem tr_and (p : Prop) : (True ∧ p) = p := true_and p
theorem env0_n : env0 [] [] = [] := rfl
theorem env0_t (bs d ds) : env0 (true :: bs) (d :: ds) = .sh d :: env0 bs ds := rfl
theorem env0_f (bs d ds) : env0 (false :: bs) (d :: ds) = .bo d :: env0 bs ds := rfl
theorem unE_z : unE 0 = [] := rfl
theorem unE_s (n) : unE (n + 1) = .un :: unE n := rfl
/-- the expressions -/
def q1 := And.intro @qe_v <| And.intro @qe_k <| And.intro @qe_gk <| And.intro @qe_op <| And.intro @qe_neg <| And.intro @qe_cmp <| And.intro @qe_chn <| And.intro @qe_and <| And.intro @qe_or <| And.intro @qe_not <| And.intro @qe_ife <| And.intro @qe_ix <| And.intro @qe_sl <| And.intro @qe_lst <| And.intro @qe_tup <|
  And.intro @qe_bf <| And.intro @qe_isi <| And.intro @qe_bm <| And.intro @qe_fn <| And.intro @qe_lc <| And.intro @qo_no <| And.intro @qo_so <| And.intro @qc_no <| And.intro @qc_so <| And.intro @qa_nil <| And.intro @qa_cons <| And.intro @qx_sv <| And.intro @qx_se <| And.intro @qi_rng <| And.intro @qi_iv @q_lcF
/-- the statements -/
def q2 := And.intro @RunS_eq <| And.intro @qs_seq <| And.intro @qs_nil <| And.intro @qs_frz <| And.intro @qs_asg <| And.intro @qs_asgl <| And.intro @qs_asgT <| And.intro @qs_par <| And.intro @qs_aug <| And.intro @qs_sub <| And.intro @qs_app <| And.intro @qs_appPop <| And.intro @qs_ret <| And.intro @qs_retv <| And.intro @qs_ret0 <| And.intro @qs_ifS <|
  And.intro @qs_for <| And.intro @qs_whl <| And.intro @qs_brk <| And.intro @qs_cnt <| And.intro @qs_pass <| And.intro @qs_nvr <| And.intro @qs_T @forF_q
/-- continuations, slots -/
def q3 := And.intro @slot_z <| And.intro @slot_s <| And.intro @wipeE_n <| And.intro @wipeE_c <| And.intro @lockE_n <| And.intro @lockE_cons <| And.intro @unlE_n <| And.intro @unlE_cons <| And.intro @lkQ_o <| And.intro @ulQ_o <| And.intro @frQ_o <| And.intro @mkS_f <| And.intro @mkS_n <| And.intro @frz_f' <| And.intro @frz_n' <|
  And.intro @frz_b <| And.intro @rdV_sh <| And.intro @rdV_bo <| And.intro @rdV_ow <| And.intro @rdV_lk <| And.intro @opQ_s <| And.intro @opQ_i <| And.intro @oQ_s <| And.intro @oQ_i <| And.intro @oQ_m <| And.intro @blQ_b <| And.intro @inQ_i <| And.intro @andQ_t <| And.intro @andQ_f <| And.intro @orQ_t <| And.intro @orQ_f <|
  And.intro @ifeQ_t <| And.intro @ifeQ_f <| And.intro @chQ_t <| And.intro @chQ_f <| And.intro @brQ_t <| And.intro @brQ_f <| And.intro @cdQ_t <| And.intro @cdQ_f <| And.intro @fnQ_s <| And.intro @sq_n <| And.intro @sq_b <| And.intro @sq_c <| And.intro @sq_r <| And.intro @augQ_s <| And.intro @subQ_s <| And.intro @appQ_s <|
  And.intro @popQ_s <| And.intro @rvQ_o <| And.intro @rvQ_s <| And.intro @wxQ_s <| And.intro @wxQ_b <| And.intro @wxQ_l <| And.intro @wxQ_o <| And.intro @lp_n <| And.intro @lp_c <| And.intro @lp_b <| And.intro @lp_r <| And.intro @forE_n <| And.intro @forE_r <| And.intro @fin_t <| And.intro @fin_f @fin_n
/-- values -/
def q4 := And.intro @eqD_int <| And.intro @eqD_bl <| And.intro @bindT_n <| And.intro @bindT_t <| And.intro @setAll_n <| And.intro @setAll_c <| And.intro @ao_n <| And.intro @ao_c <| And.intro @od_a <| And.intro @od_s <| And.intro @od_m <| And.intro @od_d <| And.intro @od_o <| And.intro @od_p <| And.intro @od_al <|
  And.intro @od_at <| And.intro @od_ml <| And.intro @cd_e <| And.intro @cd_n <| And.intro @cd_l <| And.intro @cd_le <| And.intro @cd_g <| And.intro @cd_ge <| And.intro @cd_is <| And.intro @cd_isn <| And.intro @cd_in <| And.intro @cd_nin <| And.intro @isn_n <| And.intro @isn_b <| And.intro @isn_i <| And.intro @isn_s <|
  And.intro @isn_l <| And.intro @isn_t <| And.intro @isn_o <| And.intro @ix_l <| And.intro @ix_t <| And.intro @ix_s <| And.intro @sl_l <| And.intro @bf_ll <| And.intro @bf_lt <| And.intro @bf_ls <| And.intro @bf_ii <| And.intro @bf_ib <| And.intro @bf_tl <| And.intro @bf_tt <| And.intro @bf_l1 <| And.intro @bf_l2 <|
  And.intro @au_a <| And.intro @au_s <| And.intro @rg_1 <| And.intro @rg_2 <| And.intro @it_l <| And.intro @it_t <| And.intro @it_s <| And.intro @kO_t <| And.intro @kO_f <| And.intro @tr_and <| And.intro @env0_n <| And.intro @env0_t <| And.intro @env0_f <| And.intro @unE_z @unE_s
/-! ### loops by invariants -/
theorem body_monoF {G : Gam} (tg : Tg) (b : S) : ∀ x e q q', (∀ r, q r → q' r) → forF G tg b x e q → forF G tg b x e q' := by
  unfold forF
  exact body_mono tg b
theorem ForS_inv {G : Gam} {lks : List Nat} {tg : Tg} {b : S} {env : Env} {α : Type} {φ : α → D} {xs : List α} {Q : Out → Prop} (I : Nat → Env → Prop) (h0 : I 0 (lockE env lks))
    (hs : ∀ i (hi : i < xs.length) e, I i e → forF G tg b (φ xs[i]) e (lp (forE env lks Q) (I (i + 1)))) (hn : ∀ e, I xs.length e → Q (.nx (unlE env lks e))) : ForS G lks tg b env (xs.map φ) Q := by
  unfold ForS
  exact wFor_inv (f := forF G tg b) (body_monoF tg b) I 0 h0 (fun i hi e he => by rw [Nat.zero_add] at he ⊢; exact hs i hi e he) fun e he => hn e (by rw [Nat.zero_add] at he; exact he)
theorem WhS_inv {G : Gam} {c : E} {b : S} {env : Env} {Q : Out → Prop} (I : Nat → Env → Prop) (n : Nat) (h0 : I n env)
    (hs : ∀ m e, I m e → wT G c e fun r => if r = true then wS G b e (lp Q fun e1 => ∃ j, j < m ∧ I j e1) else Q (.nx e)) : WhS G c b env Q := by
  unfold WhS
  exact whl_inv I n h0 hs
theorem LcS_map {G : Gam} {own : List Nat} {tg : Tg} {cond elt : E} {env : Env} {α : Type} {φ : α → D} (g : α → D) {xs : List α} {Q : List D → Prop} (hl : xs.length ≤ sizeLine)
    (h : ∀ x ∈ xs, ∀ q : Option D → Prop, q (some (g x)) → lcF G own tg cond elt env (φ x) q) (q : Q (xs.map g)) : LcS G own tg cond elt env (xs.map φ) Q := by
  unfold LcS
  exact ⟨by rw [List.length_map]; exact hl, wLc_map g h q⟩
theorem LcS_fil {G : Gam} {own : List Nat} {tg : Tg} {cond elt : E} {env : Env} {α : Type} {φ : α → D} (g : α → Option D) {xs : List α} {Q : List D → Prop} (hl : xs.length ≤ sizeLine)
    (h : ∀ x ∈ xs, ∀ q : Option D → Prop, q (g x) → lcF G own tg cond elt env (φ x) q) (q : Q (xs.filterMap g)) : LcS G own tg cond elt env (xs.map φ) Q := by
  unfold LcS
  exact ⟨by rw [List.length_map]; exact hl, wLc_fil g h q⟩
theorem LcS_rel {G : Gam} {own : List Nat} {tg : Tg} {cond elt : E} {env : Env} {α : Type} {φ : α → D} (P : α → D → Prop) {xs : List α} {Q : List D → Prop} (hl : xs.length ≤ sizeLine)
    (h : ∀ x ∈ xs, ∀ q : Option D → Prop, (∀ d, P x d → q (some d)) → lcF G own tg cond elt env (φ x) q) (q : ∀ ys : List D, ys.length = xs.length → (∀ (i : Nat) (h : i < xs.length) (h' : i < ys.length), P xs[i] ys[i]) → Q ys) : LcS G own tg cond elt env (xs.map φ) Q := by
  unfold LcS
  exact ⟨by rw [List.length_map]; exact hl, wLc_rel P h q⟩
end VL
/-! VL17: lists of natural numbers as data; more rules. -/
namespace VL
open PySem PySem.Spec PyProof.Rows L2
def dn (n : Nat) : D := .int n
theorem dn_eq (n : Nat) : dn n = .int (n : Int) := rfl
/-- a list or a tuple of data -/
def sqD : Bool → List D → D
  | true, ds => .tup ds
  | false, ds => .lst ds
theorem sqD_it (b ds) : itemsD (sqD b ds) = some ds := by cases b <;> rfl
theorem sqD_ix (b ds i) : ixD (sqD b ds) (.int i) = atI ds i := by cases b <;> rfl
theorem sqD_len (b ds) : bfD .len [sqD b ds] = some (.fr, .int ds.length) := by cases b <;> rfl
theorem sqD_tup (b ds) : bfD .tuple_ [sqD b ds] = some (.fr, .tup ds) := by cases b <;> rfl
theorem sqD_list (b ds) : bfD .list_ [sqD b ds] = some (.nw, .lst ds) := by cases b <;> rfl
theorem atI_dn {m : List Nat} {i : Nat} (h : i < m.length) : atI (m.map dn) (i : Int) = some (.int (m[i] : Int)) := by
  rw [atI_map, atI_nat h]; rfl
theorem atI_dn' {m : List Nat} {i : Nat} (h : i < m.length) : atI (m.map dn) (i : Int) = some (.int ((m.getD i 0 : Nat) : Int)) := by
  rw [atI_dn h]
  simp [h]
theorem atI_last {α : Type} {ds : List α} (h : 0 < ds.length) : atI ds (-1) = some (ds[ds.length - 1]'(by omega)) := by
  unfold atI
  rw [show (-1 : Int) = -((1 : Nat) : Int) by rfl, ixN_neg (by omega) h]
  exact List.getElem?_eq_getElem _
theorem rng_dn (n : Nat) : (List.range n).map (fun (i : Nat) => D.int i) = (List.range n).map dn := rfl
/-- tuples and lists that hold only numbers -/
theorem shaped_ints (ns : List Int) : SeqAt.shaped (.list (pyAll (ns.map .int))) = true ∧ SeqAt.shaped (.tuple (pyAll (ns.map .int))) = true := by
  have h1 : PyData.canLayAll0 (pyAll (ns.map D.int)) = true := by
    induction ns with
    | nil => simp [pyAll, PyData.canLayAll0]
    | cons n r ih => simp [pyAll, PyData.canLayAll0, D.py, PyData.canLay0]; exact ih
  have h2 : PyData.depthAll (pyAll (ns.map D.int)) = 0 := by
    clear h1
    induction ns with
    | nil => simp [pyAll, PyData.depthAll]
    | cons n r ih => simp [pyAll, PyData.depthAll, D.py, PyData.depth]; exact ih
  constructor <;> simp [SeqAt.shaped, PyData.canLay0, PyData.depth, h1, h2]
theorem eqvAll_ints : ∀ (ns ms : List Int), PyData.eqvAll (pyAll (ns.map D.int)) (pyAll (ms.map D.int)) = decide (ns = ms)
  | [], [] => by simp [pyAll, PyData.eqvAll]
  | [], _ :: _ => by simp [pyAll, PyData.eqvAll]
  | _ :: _, [] => by simp [pyAll, PyData.eqvAll]
  | n :: ns, m :: ms => by
    have ih := eqvAll_ints ns ms
    simp only [List.map_cons, pyAll, PyData.eqvAll, D.py, PyData.eqv]
    rw [ih]
    by_cases h : n = m
    · subst h
      simp
    · have : (n == m) = false := beq_eq_false_iff_ne.mpr h
      rw [this]
      simp [h]
theorem eqD_li (ns ms : List Int) : eqD (.lst (ns.map .int)) (.lst (ms.map .int)) = some (decide (ns = ms)) := by
  unfold eqD
  rw [if_pos ⟨(shaped_ints ns).1, (shaped_ints ms).1⟩]
  simp only [D.py, PyData.eqv, eqvAll_ints]
theorem eqD_ti (ns ms : List Int) : eqD (.tup (ns.map .int)) (.tup (ms.map .int)) = some (decide (ns = ms)) := by
  unfold eqD
  rw [if_pos ⟨(shaped_ints ns).2, (shaped_ints ms).2⟩]
  simp only [D.py, PyData.eqv, eqvAll_ints]
theorem dn_int (ns : List Nat) : ns.map dn = (ns.map fun (n : Nat) => (n : Int)).map D.int := by
  rw [List.map_map]; rfl
theorem cast_inj (ns ms : List Nat) : (ns.map (fun (n : Nat) => (n : Int)) = ms.map fun (n : Nat) => (n : Int)) ↔ ns = ms := by
  constructor
  · intro h
    have := congrArg (List.map Int.toNat) h
    rw [List.map_map, List.map_map] at this
    have e : (Int.toNat ∘ fun (n : Nat) => (n : Int)) = id := by funext n; simp
    rw [e, List.map_id, List.map_id] at this
    exact this
  · intro h; rw [h]
theorem eqD_ln (ns ms : List Nat) : eqD (.lst (ns.map dn)) (.lst (ms.map dn)) = some (decide (ns = ms)) := by
  rw [dn_int, dn_int, eqD_li]
  congr 1
  exact decide_eq_decide.mpr (cast_inj ns ms)
theorem eqD_tn (ns ms : List Nat) : eqD (.tup (ns.map dn)) (.tup (ms.map dn)) = some (decide (ns = ms)) := by
  rw [dn_int, dn_int, eqD_ti]
  congr 1
  exact decide_eq_decide.mpr (cast_inj ns ms)
theorem set_dn (m : List Nat) (i v : Nat) : (m.map dn).set i (.int (v : Int)) = (m.set i v).map dn := by
  rw [← dn_eq, List.map_set]
theorem app_dn (m : List Nat) (v : Nat) : m.map dn ++ [.int (v : Int)] = (m ++ [v]).map dn := by
  simp [dn_eq]
theorem dn_inj {m ms : List Nat} (h : m.map dn = ms.map dn) : m = ms := by
  rw [dn_int, dn_int] at h
  have : ∀ a b : List Int, a.map D.int = b.map D.int → a = b := by
    intro a
    induction a with
    | nil => intro b h; cases b <;> simp_all
    | cons x r ih => intro b h; cases b with
      | nil => simp at h
      | cons y s =>
        simp only [List.map_cons, List.cons.injEq] at h
        obtain ⟨h1, h2⟩ := h
        cases h1
        rw [ih s h2]
  exact (cast_inj _ _).mp (this _ _ h)
theorem intsOf_li : ∀ ns : List Int, intsOf (ns.map .int) = some ns
  | [] => rfl
  | n :: ns => by rw [List.map_cons, intsOf, intsOf_li ns]; rfl
theorem shaped_int (i : Int) : SeqAt.shaped (D.int i).py = true := by simp [D.py, SeqAt.shaped, PyData.canLay0, PyData.depth]
theorem shaped_bl (i : Bool) : SeqAt.shaped (D.bl i).py = true := by simp [D.py, SeqAt.shaped, PyData.canLay0, PyData.depth]
theorem shaped_bls (ns : List Bool) : SeqAt.shaped (.list (pyAll (ns.map .bl))) = true := by
  have h1 : PyData.canLayAll0 (pyAll (ns.map D.bl)) = true := by
    induction ns with
    | nil => simp [pyAll, PyData.canLayAll0]
    | cons n r ih => simp [pyAll, PyData.canLayAll0, D.py, PyData.canLay0]; exact ih
  have h2 : PyData.depthAll (pyAll (ns.map D.bl)) = 0 := by
    clear h1
    induction ns with
    | nil => simp [pyAll, PyData.depthAll]
    | cons n r ih => simp [pyAll, PyData.depthAll, D.py, PyData.depth]; exact ih
  simp [SeqAt.shaped, PyData.canLay0, PyData.depth, h1, h2]
theorem inD_bls (b : Bool) (ns : List Bool) : inD (.bl b) (.lst (ns.map .bl)) = some (ns.any (· == b)) := by
  show (if SeqAt.shaped (D.bl b).py = true ∧ SeqAt.shaped (PyData.list (pyAll (ns.map .bl))) = true then some ((ns.map D.bl).any fun d => PyData.eqv d.py (D.bl b).py) else none) = _
  rw [if_pos ⟨shaped_bl b, shaped_bls ns⟩]
  congr 1
  rw [List.any_map]
  congr 1
theorem inD_ints (i : Int) (ns : List Int) : inD (.int i) (.lst (ns.map .int)) = some (ns.any (· == i)) := by
  show (if SeqAt.shaped (D.int i).py = true ∧ SeqAt.shaped (PyData.list (pyAll (ns.map .int))) = true then some ((ns.map D.int).any fun d => PyData.eqv d.py (D.int i).py) else none) = _
  rw [if_pos ⟨shaped_int i, (shaped_ints ns).1⟩]
  congr 1
  rw [List.any_map]
  congr 1
theorem fmod_nat (a b : Nat) : Int.fmod (a : Int) (b : Int) = ((a % b : Nat) : Int) := by
  rw [Int.fmod_eq_emod_of_nonneg _ (by omega)]
  rfl
theorem fdiv_nat (a b : Nat) : Int.fdiv (a : Int) (b : Int) = ((a / b : Nat) : Int) := by
  rw [Int.fdiv_eq_ediv_of_nonneg _ (by omega)]
  rfl
/-- a number that is not negative -/
theorem nat_of {z : Int} (h : 0 ≤ z) : ∃ n : Nat, z = n := ⟨z.toNat, by omega⟩
theorem fmod_pos (a : Int) {b : Int} (h : 0 < b) : ∃ n : Nat, a.fmod b = n ∧ (n : Int) < b := by
  have h1 := Int.fmod_nonneg_of_pos a h
  have h2 := Int.fmod_lt_of_pos a h
  exact ⟨(a.fmod b).toNat, by omega, by omega⟩
theorem mulOk_l {i j : Int} (h : -1000000000000000000 < i ∧ i < 1000000000000000000) : mulOk i j = true := by
  unfold mulOk
  simp only [Bool.or_eq_true, Bool.and_eq_true, decide_eq_true_eq]
  omega
theorem mulOk_r {i j : Int} (h : -1000000000000000000 < j ∧ j < 1000000000000000000) : mulOk i j = true := by
  unfold mulOk
  simp only [Bool.or_eq_true, Bool.and_eq_true, decide_eq_true_eq]
  omega
theorem sz {n : Nat} (h : n ≤ 1000000) : n ≤ sizeLine := Nat.le_trans h (by decide)
theorem cut_from (ds : List D) (a : Nat) : cutD ds (some (a : Int)) none = ds.drop a := by
  unfold cutD
  rw [HT.sIx_nat, HT.sIx_none]
  by_cases h : a ≤ ds.length
  · rw [Nat.min_eq_left h]
    exact List.take_of_length_le (by simp)
  · rw [Nat.min_eq_right (by omega), List.drop_of_length_le (i := a) (by omega)]
    simp
theorem cut_to (ds : List D) (a : Nat) : cutD ds none (some (a : Int)) = ds.take a := by
  unfold cutD
  rw [HT.sIx_nat, HT.sIx_none]
  by_cases h : a ≤ ds.length
  · rw [Nat.min_eq_left h]; simp
  · rw [Nat.min_eq_right (by omega)]
    simp [List.take_of_length_le (show ds.length ≤ a by omega)]
theorem minL_spec : ∀ (ns : List Int) (m : Int), minL m ns ∈ m :: ns ∧ ∀ x ∈ m :: ns, minL m ns ≤ x
  | [], m => ⟨List.mem_cons_self, fun x hx => by simp at hx; subst hx; exact Int.le_refl _⟩
  | n :: ns, m => by
    unfold minL
    by_cases c : n < m
    · rw [if_pos c]
      obtain ⟨h1, h2⟩ := minL_spec ns n
      refine ⟨List.mem_cons_of_mem _ h1, fun x hx => ?_⟩
      rcases List.mem_cons.mp hx with rfl | hx
      · have := h2 n List.mem_cons_self; omega
      · exact h2 x hx
    · rw [if_neg c]
      obtain ⟨h1, h2⟩ := minL_spec ns m
      refine ⟨?_, fun x hx => ?_⟩
      · rcases List.mem_cons.mp h1 with e | e
        · rw [e]; exact List.mem_cons_self
        · exact List.mem_cons_of_mem _ (List.mem_cons_of_mem _ e)
      · rcases List.mem_cons.mp hx with rfl | hx
        · exact h2 _ List.mem_cons_self
        · rcases List.mem_cons.mp hx with rfl | hx
          · have := h2 m List.mem_cons_self; omega
          · exact h2 x (List.mem_cons_of_mem _ hx)
theorem min_dn {l : List Nat} (h : l ≠ []) : ∃ t, t ∈ l ∧ (∀ x ∈ l, t ≤ x) ∧ bfD .min_ [.lst (l.map dn)] = some (.fr, .int (t : Int)) := by
  cases l with
  | nil => exact (h rfl).elim
  | cons n r =>
    obtain ⟨h1, h2⟩ := minL_spec (r.map fun (n : Nat) => (n : Int)) n
    have e : bfD .min_ [.lst ((n :: r).map dn)] = some (.fr, .int (minL n (r.map fun (n : Nat) => (n : Int)))) := by
      show (match intsOf ((n :: r).map dn) with | some (n :: ns) => some (Kd.fr, D.int (minL n ns)) | _ => none) = _
      rw [dn_int, intsOf_li]
      rfl
    have h1 : minL n (r.map fun (n : Nat) => (n : Int)) ∈ (n :: r).map fun (n : Nat) => (n : Int) := h1
    obtain ⟨t, ht, e1⟩ := List.mem_map.mp h1
    refine ⟨t, ht, fun x hx => ?_, by rw [e, ← e1]⟩
    have := h2 x (show (x : Int) ∈ (n :: r).map fun (n : Nat) => (n : Int) from List.mem_map.mpr ⟨x, hx, rfl⟩)
    omega
theorem ixOf_dn : ∀ (l : List Nat) (t k : Nat), t ∈ l → ∃ a, ∃ h : a < l.length, l[a] = t ∧ ixOf (.int (t : Int)) (l.map dn) k = some (k + a)
  | [], t, k, h => by cases h
  | x :: r, t, k, h => by
    rw [List.map_cons, ixOf]
    by_cases c : x = t
    · subst c
      exact ⟨0, by simp, rfl, by rw [if_pos (by simp [dn, D.py, PyData.eqv])]; rfl⟩
    · obtain ⟨a, h1, h2, h3⟩ := ixOf_dn r t (k + 1) ((List.mem_cons.mp h).resolve_left fun e => c e.symm)
      refine ⟨a + 1, by simpa using h1, by simpa using h2, ?_⟩
      rw [if_neg (by simp [dn, D.py, PyData.eqv]; omega), h3]
      congr 1; omega
theorem index_dn {l : List Nat} {t : Nat} (h : t ∈ l) : ∃ a, ∃ h : a < l.length, l[a] = t ∧ bmD .index (.lst (l.map dn)) [.int (t : Int)] = some (.fr, .int (a : Int)) := by
  obtain ⟨a, h1, h2, h3⟩ := ixOf_dn l t 0 h
  refine ⟨a, h1, h2, ?_⟩
  unfold bmD
  simp only []
  rw [if_pos ⟨shaped_int _, by rw [dn_int]; exact (shaped_ints _).1⟩, h3, Nat.zero_add]
  rfl
theorem bmT_il (ds : List D) : bmT .index (.lst ds) = true := rfl
section
variable {α β : Type}
theorem l_mc (f : α → β) (a : α) (l : List α) : (a :: l).map f = f a :: l.map f := rfl
theorem l_mn (f : α → β) : [].map f = [] := rfl
theorem l_sz (a b : α) (l : List α) : (a :: l).set 0 b = b :: l := rfl
theorem l_ss (a b : α) (l : List α) (n : Nat) : (a :: l).set (n + 1) b = a :: l.set n b := rfl
theorem l_ac (f : α → Bool) (a : α) (l : List α) : (a :: l).all f = (f a && l.all f) := rfl
theorem l_an (f : α → Bool) : [].all f = true := rfl
theorem l_lc (a : α) (l : List α) : (a :: l).length = l.length + 1 := rfl
theorem l_ln : ([] : List α).length = 0 := rfl
theorem l_lm (f : α → β) (l : List α) : (l.map f).length = l.length := List.length_map f
theorem l_ls (l : List α) (i : Nat) (a : α) : (l.set i a).length = l.length := List.length_set
end
theorem ni_n : noIns .non = true := rfl
theorem ni_b (x) : noIns (.bl x) = true := rfl
theorem ni_i (x) : noIns (.int x) = true := rfl
theorem ni_s (x) : noIns (.str x) = true := rfl
theorem ni_l (x) : noIns (.lst x) = true := rfl
theorem ni_t (x) : noIns (.tup x) = true := rfl
theorem ni_c (x) : noIns (.scr x) = true := rfl
theorem ty_n : tyOf .non = "NoneType" := rfl
theorem ty_b (x) : tyOf (.bl x) = "bool" := rfl
theorem ty_i (x) : tyOf (.int x) = "int" := rfl
theorem ty_s (x) : tyOf (.str x) = "str" := rfl
theorem ty_l (x) : tyOf (.lst x) = "list" := rfl
theorem ty_t (x) : tyOf (.tup x) = "tuple" := rfl
theorem ty_c (x) : tyOf (.scr x) = "list" := rfl
theorem isT_eq (T d) : isT T d = isS (tyOf d) T := rfl
theorem is00 : isS "NoneType" "int" = false := by decide
theorem is01 : isS "NoneType" "bool" = false := by decide
theorem is02 : isS "NoneType" "str" = false := by decide
theorem is03 : isS "NoneType" "list" = false := by decide
theorem is04 : isS "NoneType" "tuple" = false := by decide
theorem is05 : isS "NoneType" "dict" = false := by decide
theorem is10 : isS "bool" "int" = true := by decide
theorem is11 : isS "bool" "bool" = true := by decide
theorem is12 : isS "bool" "str" = false := by decide
theorem is13 : isS "bool" "list" = false := by decide
theorem is14 : isS "bool" "tuple" = false := by decide
theorem is15 : isS "bool" "dict" = false := by decide
theorem is20 : isS "int" "int" = true := by decide
theorem is21 : isS "int" "bool" = false := by decide
theorem is22 : isS "int" "str" = false := by decide
theorem is23 : isS "int" "list" = false := by decide
theorem is24 : isS "int" "tuple" = false := by decide
theorem is25 : isS "int" "dict" = false := by decide
theorem is30 : isS "str" "int" = false := by decide
theorem is31 : isS "str" "bool" = false := by decide
theorem is32 : isS "str" "str" = true := by decide
theorem is33 : isS "str" "list" = false := by decide
theorem is34 : isS "str" "tuple" = false := by decide
theorem is35 : isS "str" "dict" = false := by decide
theorem is40 : isS "list" "int" = false := by decide
theorem is41 : isS "list" "bool" = false := by decide
theorem is42 : isS "list" "str" = false := by decide
theorem is43 : isS "list" "list" = true := by decide
theorem is44 : isS "list" "tuple" = false := by decide
theorem is45 : isS "list" "dict" = false := by decide
theorem is50 : isS "tuple" "int" = false := by decide
theorem is51 : isS "tuple" "bool" = false := by decide
theorem is52 : isS "tuple" "str" = false := by decide
theorem is53 : isS "tuple" "list" = false := by decide
theorem is54 : isS "tuple" "tuple" = true := by decide
theorem is55 : isS "tuple" "dict" = false := by decide
/-- types -/
def q6 := And.intro @ni_n <| And.intro @ni_b <| And.intro @ni_i <| And.intro @ni_s <| And.intro @ni_l <| And.intro @ni_t <| And.intro @ni_c <| And.intro @ty_n <| And.intro @ty_b <| And.intro @ty_i <| And.intro @ty_s <| And.intro @ty_l <| And.intro @ty_t <| And.intro @ty_c <| And.intro @isT_eq <| And.intro @is00 <| And.intro @is01 <| And.intro @is02 <| And.intro @is03 <| And.intro @is04 <| And.intro @is05 <| And.intro @is10 <| And.intro @is11 <| And.intro @is12 <| And.intro @is13 <| And.intro @is14 <| And.intro @is15 <| And.intro @is20 <| And.intro @is21 <| And.intro @is22 <| And.intro @is23 <| And.intro @is24 <| And.intro @is25 <| And.intro @is30 <| And.intro @is31 <| And.intro @is32 <| And.intro @is33 <| And.intro @is34 <| And.intro @is35 <| And.intro @is40 <| And.intro @is41 <| And.intro @is42 <| And.intro @is43 <| And.intro @is44 <| And.intro @is45 <| And.intro @is50 <| And.intro @is51 <| And.intro @is52 <| And.intro @is53 <| And.intro @is54 @is55
/-- lists, tests -/
def q5 := And.intro @l_mc <| And.intro @l_mn <| And.intro @l_sz <| And.intro @l_ss <| And.intro @l_ac <| And.intro @l_an <| And.intro @l_lc <| And.intro @l_ln <| And.intro @l_lm <| And.intro @l_ls <| And.intro @List.length_range <|
  And.intro @Bool.and_true <| And.intro @Bool.true_and <| And.intro @Bool.and_false <| And.intro @Bool.false_and <| And.intro @true_and <| And.intro @and_true <| And.intro @Bool.not_true <| And.intro @Bool.not_false <| And.intro @Bool.or_true <| And.intro @Bool.true_or <| And.intro @Bool.or_false <| And.intro @Bool.false_or <|
  And.intro @Int.toNat_natCast <| And.intro @sqD_it <| And.intro @sqD_ix <| And.intro @sqD_len <| And.intro @sqD_tup <| And.intro @sqD_list <| And.intro @decide_true <| And.intro @Bool.false_eq_true <| And.intro @bmT_il <| And.intro @cut_from <| And.intro @cut_to @dn_eq
end VL
/-! VL18: tables of defs at one call room; the script at the entry. -/
namespace VL
open PySem PySem.Spec PyProof.Rows L2
/-- a def of the module keeps its promise -/
def Kn (P : Program) (w : World) (K : PySem.W.Frag) (mg : Str → Option Value) (base : Heap) (C : Cls0) (k : Nat) (f : Str) (S : Sem1) : Prop :=
  ∃ a fd ps, FnOk P w K mg base CX0 k a fd ps (spOf K C S) ∧ mg f = some (.ref a) ∧ PySem.W.keepIn K (.ref a) = true ∧ Binds K fd ps []
section
variable {G : Gam} {C : Cls0} {k : Nat} {P : Program} {w : World} {K : PySem.W.Frag} {mg : Str → Option Value} {base : Heap} {f : Str} {S : Sem1}
theorem Kn.mono (h : Kn P w K mg base C k f S) {j : Nat} (hj : k ≤ j) : Kn P w K mg base C j f S := by
  obtain ⟨a, fd, ps, h1, h2⟩ := h
  exact ⟨a, fd, ps, h1.mono hj, h2⟩
theorem Md.ad (m : Md G C k P w K mg base) (h : Kn P w K mg base C k f S) : Md (G.add f S) C k P w K mg base := ⟨m.blt, fun g T e => by
  by_cases c : g = f
  · have e : (if g = f then some S else G.fn g) = some T := e
    rw [if_pos c] at e
    cases e
    subst c
    exact h
  · have e : (if g = f then some S else G.fn g) = some T := e
    rw [if_neg c] at e
    exact m.fns g T e, m.cst⟩
theorem kn_of {x qual : Str} {params : Arguments} {body : List Stmt} {scope : Scope} {a : Addr} {fd : FuncData} {N ps : List Str} {code : VL.S} (m : Md G C k P w K mg base)
    (F : FunD K x qual params body scope [] [] a fd) (sc : FnScope N ps scope) (hfr : S.fr.length = ps.length) (hc : chkB N code scope body = true) (hb : BodyOk G N.length code S)
    (hm : mg f = some (.ref a)) (bn : Binds K fd ps []) : Kn P w K mg base C (k + 1) f S := ⟨a, fd, ps, fn_ok m F sc hfr hc hb, hm, F.kp, bn⟩
theorem scr_of {H : Hp} {a : Addr} {ns : List Int} (hO : Only H) (hS : SqL K H a (ns.map V.int)) : ScR K H a (ns.map V.int) := by
  rcases hS with (h | ⟨o, h⟩) | h
  · rcases hO a with z | ⟨o, xs, z⟩
    · rw [z] at h; cases h
    · rw [z] at h; cases h
  · exact .inl ⟨o, h⟩
  · exact .inr h
theorem args_scr {H : Hp} {a : Addr} {ns : List Int} (hO : Only H) (hS : SqL K H a (ns.map V.int)) : ArgsR K C H (fun _ => False) [true] [.ref a] [.scr ns] := .fr (.scr (scr_of hO hS)) .nil
end
end VL
namespace K13
open PySem PySem.Spec PyProof.Rows L2 VL
def top (i : Nat) : Stmt := PySem.Challenge.pw_lastsuch_k13_rings_and_settled.main.body.getD i (.Pass ⟨0, 0, 0, 0⟩)
abbrev s0 : Stmt := inClass (top 2) 0
abbrev s1 : Stmt := top 4
abbrev s2 : Stmt := top 5
abbrev s3 : Stmt := top 6
abbrev s4 : Stmt := top 7
abbrev s5 : Stmt := top 8
abbrev s6 : Stmt := top 10
abbrev s7 : Stmt := top 11
abbrev s8 : Stmt := top 12
abbrev s9 : Stmt := top 13
abbrev s10 : Stmt := top 14
abbrev s11 : Stmt := top 15
abbrev s12 : Stmt := top 16
abbrev s13 : Stmt := top 17
abbrev s14 : Stmt := top 18
abbrev s15 : Stmt := top 19
abbrev s16 : Stmt := top 20
def n_unmoved : List Str := ["many", "state"]
def p_unmoved : List Str := ["many"]
def c_unmoved : S := .seq (.ret (.bf .tuple_ (.cons (.lc [1] (.nm 1) (.rng (.cons (.v 0) .nil)) (.no) (.v 1)) .nil))) .nil
theorem k_unmoved : chkB n_unmoved c_unmoved (defScope s1) (defBody s1) = true := by decide +kernel
theorem s_unmoved : FnScope n_unmoved p_unmoved (defScope s1) := ⟨rfl, rfl, rfl, by decide +kernel, rfl, by decide +kernel, by decide +kernel⟩
def n_then : List Str := ["one", "two", "state"]
def p_then : List Str := ["one", "two"]
def c_then : S := .seq (.ifS (.cmp .NotEq (.bf .len (.cons (.v 0) .nil)) (.bf .len (.cons (.v 1) .nil)))
(.seq (.nvr) .nil)
(.nil)) (.seq (.ret (.bf .tuple_ (.cons (.lc [2] (.nm 2) (.iv (.sv 0)) (.no) (.ix (.v 1) (.v 2))) .nil))) .nil)
theorem k_then : chkB n_then c_then (defScope s2) (defBody s2) = true := by decide +kernel
theorem s_then : FnScope n_then p_then (defScope s2) := ⟨rfl, rfl, rfl, by decide +kernel, rfl, by decide +kernel, by decide +kernel⟩
def n_ring_through : List Str := ["move", "state", "ring", "at"]
def p_ring_through : List Str := ["move", "state"]
def c_ring_through : S := .seq (.asg 2 (.lst (.cons (.v 1) .nil))) (.seq (.whl (.cmp .NotEq (.ix (.v 0) (.ix (.v 2) (.neg (.k (.int 1))))) (.v 1))
(.seq (.app 2 (.ix (.v 0) (.ix (.v 2) (.neg (.k (.int 1)))))) .nil)) (.seq (.asg 3 (.bm .index (.v 2) (.cons (.bf .min_ (.cons (.v 2) .nil)) .nil))) (.seq (.ret (.bf .tuple_ (.cons (.op .Add (.sl (.v 2) (.so (.v 3)) (.no)) (.sl (.v 2) (.no) (.so (.v 3)))) .nil))) .nil)))
theorem k_ring_through : chkB n_ring_through c_ring_through (defScope s3) (defBody s3) = true := by decide +kernel
theorem s_ring_through : FnScope n_ring_through p_ring_through (defScope s3) := ⟨rfl, rfl, rfl, by decide +kernel, rfl, by decide +kernel, by decide +kernel⟩
def n_ring_of : List Str := ["move", "walked", "state", "best", "start", "ring"]
def p_ring_of : List Str := ["move"]
def c_ring_of : S := .seq (.asgl 1 (.lc [2] (.nm 2) (.iv (.sv 0)) (.no) (.k (.int 0)))) (.seq (.asg 3 (.k .non)) (.seq (.for_ [] (.nm 4) (.rng (.cons (.bf .len (.cons (.v 0) .nil)) .nil))
(.seq (.asg 2 (.v 4)) (.seq (.whl (.cmp .Eq (.ix (.v 1) (.v 2)) (.k (.int 0)))
(.seq (.sub 1 (.v 2) (.op .Add (.v 4) (.k (.int 1)))) (.seq (.asg 2 (.ix (.v 0) (.v 2))) .nil))) (.seq (.ifS (.and (.cmp .Eq (.ix (.v 1) (.v 2)) (.op .Add (.v 4) (.k (.int 1)))) (.cmp .NotEq (.ix (.v 0) (.v 2)) (.v 2)))
(.seq (.asg 5 (.fn "ring_through" (.cons (.v 0) (.cons (.v 2) .nil)))) (.seq (.ifS (.or (.cmp .Is (.v 3) (.k .non)) (.cmp .Lt (.ix (.v 5) (.k (.int 0))) (.ix (.v 3) (.k (.int 0)))))
(.seq (.asg 3 (.v 5)) .nil)
(.nil)) .nil))
(.nil)) .nil)))) (.seq (.retv 3) .nil)))
theorem k_ring_of : chkB n_ring_of c_ring_of (defScope s4) (defBody s4) = true := by decide +kernel
theorem s_ring_of : FnScope n_ring_of p_ring_of (defScope s4) := ⟨rfl, rfl, rfl, by decide +kernel, rfl, by decide +kernel, by decide +kernel⟩
def n_settled : List Str := ["move", "result", "turn", "state"]
def p_settled : List Str := ["move"]
def c_settled : S := .seq (.asg 1 (.fn "unmoved" (.cons (.bf .len (.cons (.v 0) .nil)) .nil))) (.seq (.for_ [] (.nm 2) (.rng (.cons (.bf .len (.cons (.v 0) .nil)) .nil))
(.seq (.asg 1 (.bf .tuple_ (.cons (.lc [3] (.nm 3) (.iv (.sv 1)) (.no) (.ix (.v 0) (.v 3))) .nil))) .nil)) (.seq (.retv 1) .nil))
theorem k_settled : chkB n_settled c_settled (defScope s5) (defBody s5) = true := by decide +kernel
theorem s_settled : FnScope n_settled p_settled (defScope s5) := ⟨rfl, rfl, rfl, by decide +kernel, rfl, by decide +kernel, by decide +kernel⟩
def n__law_whole : List Str := ["value"]
def p__law_whole : List Str := ["value"]
def c__law_whole : S := .seq (.ret (.and (.isi "int" (.v 0)) (.not (.isi "bool" (.v 0))))) .nil
theorem k__law_whole : chkB n__law_whole c__law_whole (defScope s6) (defBody s6) = true := by decide +kernel
theorem s__law_whole : FnScope n__law_whole p__law_whole (defScope s6) := ⟨rfl, rfl, rfl, by decide +kernel, rfl, by decide +kernel, by decide +kernel⟩
def n__law_cell : List Str := ["script", "k", "seed", "cell"]
def p__law_cell : List Str := ["script", "k"]
def c__law_cell : S := .seq (.ifS (.cmp .Lt (.v 1) (.bf .len (.cons (.v 0) .nil)))
(.seq (.ret (.ix (.v 0) (.v 1))) .nil)
(.nil)) (.seq (.asg 2 (.k (.int 17))) (.seq (.for_ [] (.nm 3) (.iv (.sv 0))
(.seq (.asg 2 (.op .Mod (.bf .int_ (.cons (.op .Add (.op .Mult (.v 2) (.k (.int 31))) (.op .Mod (.bf .int_ (.cons (.v 3) .nil)) (.k (.int 1000003)))) .nil)) (.k (.int 1000003)))) .nil)) (.seq (.ret (.op .Mod (.bf .int_ (.cons (.op .Mult (.op .Mult (.op .Add (.v 2) (.k (.int 7))) (.op .Add (.v 1) (.k (.int 3)))) (.k (.int 69621))) .nil)) (.k (.int 2147483647)))) .nil)))
theorem k__law_cell : chkB n__law_cell c__law_cell (defScope s7) (defBody s7) = true := by decide +kernel
theorem s__law_cell : FnScope n__law_cell p__law_cell (defScope s7) := ⟨rfl, rfl, rfl, by decide +kernel, rfl, by decide +kernel, by decide +kernel⟩
def n__law_digits : List Str := ["cell", "sizes", "row", "remains", "size", "seed", "k", "twice"]
def p__law_digits : List Str := ["cell", "sizes"]
def c__law_digits : S := .seq (.asg 2 (.lst (.nil))) (.seq (.asg 3 (.bf .int_ (.cons (.v 0) .nil))) (.seq (.ifS (.cmp .GtE (.v 3) (.op .Pow (.k (.int 10)) (.k (.int 18))))
(.seq (.asg 3 (.op .Sub (.v 3) (.op .Pow (.k (.int 10)) (.k (.int 18))))) (.seq (.for_ [] (.nm 4) (.iv (.sv 1))
(.seq (.app 2 (.op .Mod (.bf .int_ (.cons (.v 3) .nil)) (.v 4))) (.seq (.asg 3 (.op .FloorDiv (.bf .int_ (.cons (.v 3) .nil)) (.v 4))) .nil))) (.seq (.retv 2) .nil)))
(.nil)) (.seq (.asg 5 (.op .Mod (.bf .int_ (.cons (.v 3) .nil)) (.k (.int 2147483629)))) (.seq (.for_ [] (.nm 6) (.rng (.cons (.bf .len (.cons (.v 1) .nil)) .nil))
(.seq (.asg 5 (.op .Mod (.bf .int_ (.cons (.op .Add (.op .Add (.op .Mult (.v 5) (.k (.int 48271))) (.op .Mult (.k (.int 974711)) (.v 6))) (.k (.int 12345))) .nil)) (.k (.int 2147483647)))) (.seq (.asg 7 (.op .Mod (.bf .int_ (.cons (.op .Mult (.v 5) (.op .Add (.op .FloorDiv (.v 5) (.k (.int 65537))) (.k (.int 3)))) .nil)) (.k (.int 2147483629)))) (.seq (.app 2 (.op .Mod (.op .FloorDiv (.v 7) (.k (.int 19))) (.ix (.v 1) (.v 6)))) .nil)))) (.seq (.retv 2) .nil)))))
theorem k__law_digits : chkB n__law_digits c__law_digits (defScope s8) (defBody s8) = true := by decide +kernel
theorem s__law_digits : FnScope n__law_digits p__law_digits (defScope s8) := ⟨rfl, rfl, rfl, by decide +kernel, rfl, by decide +kernel, by decide +kernel⟩
def n__law_hidden : List Str := ["row", "many", "rings", "left", "state", "order", "k", "move", "at", "ring", "place"]
def p__law_hidden : List Str := ["row", "many", "rings"]
def c__law_hidden : S := .seq (.asgl 3 (.lc [4] (.nm 4) (.rng (.cons (.v 1) .nil)) (.no) (.v 4))) (.seq (.asg 5 (.lst (.nil))) (.seq (.for_ [] (.nm 6) (.rng (.cons (.v 1) .nil))
(.seq (.appPop 5 3 (.op .Mod (.bf .int_ (.cons (.ix (.v 0) (.v 6)) .nil)) (.bf .len (.cons (.v 3) .nil)))) .nil)) (.seq (.asgl 7 (.lc [4] (.nm 4) (.iv (.sv 5)) (.no) (.k (.int 0)))) (.seq (.asg 8 (.k (.int 0))) (.seq (.for_ [] (.nm 9) (.iv (.sv 2))
(.seq (.for_ [] (.nm 6) (.rng (.cons (.v 9) .nil))
(.seq (.sub 7 (.ix (.v 5) (.op .Add (.v 8) (.v 6))) (.ix (.v 5) (.op .Add (.v 8) (.op .Mod (.bf .int_ (.cons (.op .Add (.v 6) (.k (.int 1))) .nil)) (.v 9))))) .nil)) (.seq (.asg 8 (.op .Add (.v 8) (.v 9))) .nil))) (.seq (.for_ [] (.nm 10) (.rng (.cons (.v 8) (.cons (.v 1) .nil)))
(.seq (.sub 7 (.ix (.v 5) (.v 10)) (.ix (.v 5) (.op .Mod (.bf .int_ (.cons (.ix (.v 0) (.op .Add (.v 1) (.v 10))) .nil)) (.op .Add (.v 10) (.k (.int 1)))))) .nil)) (.seq (.retv 7) .nil)))))))
theorem k__law_hidden : chkB n__law_hidden c__law_hidden (defScope s9) (defBody s9) = true := by decide +kernel
theorem s__law_hidden : FnScope n__law_hidden p__law_hidden (defScope s9) := ⟨rfl, rfl, rfl, by decide +kernel, rfl, by decide +kernel, by decide +kernel⟩
def n__law_crossed : List Str := ["many", "wide", "move", "state"]
def p__law_crossed : List Str := ["many", "wide"]
def c__law_crossed : S := .seq (.asg 2 (.lst (.cons (.k (.int 3)) (.cons (.op .Sub (.v 0) (.k (.int 1))) (.cons (.ix (.lst (.cons (.k (.int 0)) (.cons (.k (.int 3)) (.cons (.k (.int 1)) .nil)))) (.v 1)) .nil))))) (.seq (.for_ [] (.nm 3) (.rng (.cons (.k (.int 3)) (.cons (.op .Sub (.v 0) (.k (.int 1))) .nil)))
(.seq (.app 2 (.ix (.lst (.cons (.op .Add (.v 3) (.k (.int 1))) (.cons (.k (.int 3)) .nil))) (.bf .int_ (.cons (.cmp .Eq (.v 3) (.op .Sub (.v 0) (.k (.int 2)))) .nil)))) .nil)) (.seq (.ret (.op .Add (.v 2) (.lst (.cons (.ix (.lst (.cons (.k (.int 1)) (.cons (.k (.int 1)) (.cons (.k (.int 2)) .nil)))) (.v 1)) .nil)))) .nil))
theorem k__law_crossed : chkB n__law_crossed c__law_crossed (defScope s10) (defBody s10) = true := by decide +kernel
theorem s__law_crossed : FnScope n__law_crossed p__law_crossed (defScope s10) := ⟨rfl, rfl, rfl, by decide +kernel, rfl, by decide +kernel, by decide +kernel⟩
def n__law_chain : List Str := ["row", "many", "step", "order", "place", "move", "state"]
def p__law_chain : List Str := ["row"]
def c__law_chain : S := .seq (.asg 1 (.ix (.lst (.cons (.k (.int 13)) (.cons (.k (.int 17)) (.cons (.k (.int 23)) (.cons (.k (.int 31)) (.cons (.k (.int 47)) (.cons (.k (.int 61)) (.cons (.k (.int 97)) (.cons (.k (.int 199)) (.cons (.k (.int 200)) (.cons (.k (.int 1000)) .nil))))))))))) (.ix (.v 0) (.k (.int 0))))) (.seq (.asg 2 (.ix (.lst (.cons (.k (.int 1)) (.cons (.k (.int 3)) (.cons (.k (.int 7)) (.cons (.k (.int 9)) (.cons (.k (.int 11)) (.cons (.k (.int 19)) (.cons (.k (.int 21)) (.cons (.k (.int 27)) .nil))))))))) (.ix (.v 0) (.k (.int 1))))) (.seq (.asgl 3 (.lc [4] (.nm 4) (.rng (.cons (.v 1) .nil)) (.no) (.op .Mod (.bf .int_ (.cons (.op .Add (.op .Mult (.v 2) (.v 4)) (.ix (.v 0) (.k (.int 2)))) .nil)) (.v 1)))) (.seq (.frz 3) (.seq (.asgl 5 (.lc [6] (.nm 6) (.iv (.sv 3)) (.no) (.k (.int 0)))) (.seq (.for_ [] (.nm 4) (.rng (.cons (.op .Sub (.v 1) (.k (.int 1))) .nil))
(.seq (.sub 5 (.ix (.v 3) (.v 4)) (.ix (.v 3) (.op .Add (.v 4) (.k (.int 1))))) .nil)) (.seq (.sub 5 (.ix (.v 3) (.op .Sub (.v 1) (.k (.int 1)))) (.ix (.v 3) (.op .Sub (.op .Sub (.v 1) (.k (.int 1))) (.ix (.v 0) (.k (.int 3)))))) (.seq (.retv 5) .nil)))))))
theorem k__law_chain : chkB n__law_chain c__law_chain (defScope s11) (defBody s11) = true := by decide +kernel
theorem s__law_chain : FnScope n__law_chain p__law_chain (defScope s11) := ⟨rfl, rfl, rfl, by decide +kernel, rfl, by decide +kernel, by decide +kernel⟩
def n__law_ring : List Str := ["move", "start", "ring", "state", "turn"]
def p__law_ring : List Str := ["move"]
def c__law_ring : S := .seq (.for_ [] (.nm 1) (.rng (.cons (.bf .len (.cons (.v 0) .nil)) .nil))
(.seq (.asg 2 (.lst (.cons (.v 1) .nil))) (.seq (.asg 3 (.ix (.v 0) (.v 1))) (.seq (.for_ [] (.nm 4) (.rng (.cons (.bf .len (.cons (.v 0) .nil)) .nil))
(.seq (.ifS (.cmp .Eq (.v 3) (.v 1))
(.seq (.brk) .nil)
(.nil)) (.seq (.app 2 (.v 3)) (.seq (.asg 3 (.ix (.v 0) (.v 3))) .nil)))) (.seq (.ifS (.and (.cmp .Eq (.v 3) (.v 1)) (.cmp .GtE (.bf .len (.cons (.v 2) .nil)) (.k (.int 2))))
(.seq (.ret (.bf .tuple_ (.cons (.v 2) .nil))) .nil)
(.nil)) .nil))))) (.seq (.ret (.k .non)) .nil)
theorem k__law_ring : chkB n__law_ring c__law_ring (defScope s12) (defBody s12) = true := by decide +kernel
theorem s__law_ring : FnScope n__law_ring p__law_ring (defScope s12) := ⟨rfl, rfl, rfl, by decide +kernel, rfl, by decide +kernel, by decide +kernel⟩
def n__law_ends : List Str := ["move", "ends", "start", "state", "turn"]
def p__law_ends : List Str := ["move"]
def c__law_ends : S := .seq (.asg 1 (.lst (.nil))) (.seq (.for_ [] (.nm 2) (.rng (.cons (.bf .len (.cons (.v 0) .nil)) .nil))
(.seq (.asg 3 (.v 2)) (.seq (.for_ [] (.nm 4) (.rng (.cons (.bf .len (.cons (.v 0) .nil)) .nil))
(.seq (.asg 3 (.ix (.v 0) (.v 3))) .nil)) (.seq (.app 1 (.v 3)) .nil)))) (.seq (.ret (.bf .tuple_ (.cons (.v 1) .nil))) .nil))
theorem k__law_ends : chkB n__law_ends c__law_ends (defScope s13) (defBody s13) = true := by decide +kernel
theorem s__law_ends : FnScope n__law_ends p__law_ends (defScope s13) := ⟨rfl, rfl, rfl, by decide +kernel, rfl, by decide +kernel, by decide +kernel⟩
def n__law_same : List Str := ["told", "due", "value"]
def p__law_same : List Str := ["told", "due"]
def c__law_same : S := .seq (.ifS (.or (.cmp .Is (.v 1) (.k .non)) (.cmp .Is (.v 0) (.k .non)))
(.seq (.ret (.and (.cmp .Is (.v 1) (.k .non)) (.cmp .Is (.v 0) (.k .non)))) .nil)
(.nil)) (.seq (.ifS (.or (.not (.isi "tuple" (.v 0))) (.cmp .NotEq (.bf .len (.cons (.v 0) .nil)) (.bf .len (.cons (.v 1) .nil))))
(.seq (.ret (.k (.bl false))) .nil)
(.nil)) (.seq (.ret (.and (.cmp .Eq (.v 0) (.v 1)) (.cmp .NotIn (.k (.bl false)) (.lc [2] (.nm 2) (.iv (.sv 0)) (.no) (.fn "_law_whole" (.cons (.v 2) .nil)))))) .nil))
theorem k__law_same : chkB n__law_same c__law_same (defScope s14) (defBody s14) = true := by decide +kernel
theorem s__law_same : FnScope n__law_same p__law_same (defScope s14) := ⟨rfl, rfl, rfl, by decide +kernel, rfl, by decide +kernel, by decide +kernel⟩
def n__law_right : List Str := ["move", "ring", "ends", "handed", "other_ring", "other_ends", "once", "state"]
def p__law_right : List Str := ["move", "ring", "ends"]
def c__law_right : S := .seq (.asg 3 (.bf .list_ (.cons (.v 0) .nil))) (.seq (.ifS (.or (.not (.fn "_law_same" (.cons (.fn "ring_of" (.cons (.v 3) .nil)) (.cons (.v 1) .nil)))) (.cmp .NotEq (.v 3) (.v 0)))
(.seq (.ret (.k (.bl false))) .nil)
(.nil)) (.seq (.ifS (.or (.not (.fn "_law_same" (.cons (.fn "settled" (.cons (.v 3) .nil)) (.cons (.v 2) .nil)))) (.cmp .NotEq (.v 3) (.v 0)))
(.seq (.ret (.k (.bl false))) .nil)
(.nil)) (.seq (.sub 3 (.k (.int 0)) (.op .Mod (.bf .int_ (.cons (.op .Add (.ix (.v 0) (.k (.int 0))) (.k (.int 1))) .nil)) (.bf .len (.cons (.v 0) .nil)))) (.seq (.app 3 (.k (.int 0))) (.seq (.ifS (.or (.not (.fn "_law_same" (.cons (.fn "ring_of" (.cons (.bf .tuple_ (.cons (.v 0) .nil)) .nil)) (.cons (.v 1) .nil)))) (.not (.fn "_law_same" (.cons (.fn "settled" (.cons (.bf .tuple_ (.cons (.v 0) .nil)) .nil)) (.cons (.v 2) .nil)))))
(.seq (.ret (.k (.bl false))) .nil)
(.nil)) (.seq (.ifS (.cmp .LtE (.bf .len (.cons (.v 3) .nil)) (.k (.int 14)))
(.seq (.asg 4 (.fn "_law_ring" (.cons (.v 3) .nil))) (.seq (.asg 5 (.fn "_law_ends" (.cons (.v 3) .nil))) (.seq (.ifS (.or (.not (.fn "_law_same" (.cons (.fn "ring_of" (.cons (.v 3) .nil)) (.cons (.v 4) .nil)))) (.not (.fn "_law_same" (.cons (.fn "settled" (.cons (.v 3) .nil)) (.cons (.v 5) .nil)))))
(.seq (.ret (.k (.bl false))) .nil)
(.nil)) .nil)))
(.nil)) (.seq (.asg 6 (.bf .tuple_ (.cons (.lc [7] (.nm 7) (.iv (.sv 2)) (.no) (.ix (.v 0) (.v 7))) .nil))) (.seq (.ifS (.not (.fn "_law_same" (.cons (.fn "then" (.cons (.bf .list_ (.cons (.v 2) .nil)) (.cons (.bf .list_ (.cons (.v 0) .nil)) .nil))) (.cons (.v 6) .nil))))
(.seq (.ret (.k (.bl false))) .nil)
(.nil)) (.seq (.ret (.cmp .Eq (.cmp .Eq (.v 6) (.v 2)) (.cmp .Is (.v 1) (.k .non)))) .nil)))))))))
theorem k__law_right : chkB n__law_right c__law_right (defScope s15) (defBody s15) = true := by decide +kernel
theorem s__law_right : FnScope n__law_right p__law_right (defScope s15) := ⟨rfl, rfl, rfl, by decide +kernel, rfl, by decide +kernel, by decide +kernel⟩
def n_law : List Str := ["script", "first", "many", "one", "two", "plans", "second", "third", "state", "fourth", "down", "fifth", "dues", "move", "k"]
def p_law : List Str := ["script"]
def c_law : S := .seq (.asg 1 (.fn "_law_digits" (.cons (.fn "_law_cell" (.cons (.v 0) (.cons (.k (.int 0)) .nil))) (.cons (.op .Add (.lst (.cons (.k (.int 11)) (.cons (.k (.int 11)) (.cons (.k (.int 11)) (.cons (.k (.int 3)) (.cons (.k (.int 11)) .nil)))))) (.op .Mult (.lst (.cons (.k (.int 60)) .nil)) (.k (.int 24)))) .nil)))) (.seq (.frz 1) (.seq (.asg 2 (.op .Add (.k (.int 2)) (.ix (.v 1) (.k (.int 0))))) (.seq (.asg 3 (.op .Add (.k (.int 2)) (.op .Mod (.bf .int_ (.cons (.ix (.v 1) (.k (.int 1))) .nil)) (.op .Sub (.v 2) (.k (.int 1)))))) (.seq (.asg 4 (.ix (.lst (.cons (.k (.int 0)) (.cons (.k (.int 1)) (.cons (.op .Add (.k (.int 2)) (.ix (.v 1) (.k (.int 2)))) .nil)))) (.ix (.v 1) (.k (.int 3))))) (.seq (.asg 5 (.lst (.cons (.fn "_law_hidden" (.cons (.sl (.v 1) (.so (.k (.int 5))) (.no)) (.cons (.v 2) (.cons (.op .Add (.lst (.cons (.v 3) .nil)) (.op .Mult (.lst (.cons (.v 4) .nil)) (.bf .int_ (.cons (.and (.cmp .LtE (.op .Add (.v 3) (.v 4)) (.v 2)) (.cmp .Gt (.v 4) (.k (.int 0)))) .nil)))) .nil)))) .nil))) (.seq (.asg 6 (.fn "_law_digits" (.cons (.fn "_law_cell" (.cons (.v 0) (.cons (.k (.int 1)) .nil))) (.cons (.op .Add (.lst (.cons (.k (.int 12)) .nil)) (.op .Mult (.lst (.cons (.k (.int 60)) .nil)) (.k (.int 24)))) .nil)))) (.seq (.frz 6) (.seq (.app 5 (.fn "_law_hidden" (.cons (.sl (.v 6) (.so (.k (.int 1))) (.no)) (.cons (.op .Add (.k (.int 1)) (.ix (.v 6) (.k (.int 0)))) (.cons (.lst (.nil)) .nil))))) (.seq (.asg 7 (.fn "_law_digits" (.cons (.fn "_law_cell" (.cons (.v 0) (.cons (.k (.int 2)) .nil))) (.cons (.op .Add (.lst (.cons (.k (.int 12)) .nil)) (.op .Mult (.lst (.cons (.k (.int 12)) .nil)) (.k (.int 12)))) .nil)))) (.seq (.frz 7) (.seq (.app 5 (.lc [8] (.nm 8) (.rng (.cons (.op .Add (.k (.int 1)) (.ix (.v 7) (.k (.int 0)))) .nil)) (.no) (.op .Mod (.bf .int_ (.cons (.ix (.v 7) (.op .Add (.k (.int 1)) (.v 8))) .nil)) (.op .Add (.k (.int 1)) (.ix (.v 7) (.k (.int 0))))))) (.seq (.asg 9 (.fn "_law_digits" (.cons (.fn "_law_cell" (.cons (.v 0) (.cons (.k (.int 3)) .nil))) (.cons (.op .Add (.lst (.cons (.k (.int 8)) (.cons (.k (.int 3)) (.cons (.k (.int 12)) (.cons (.k (.int 12)) (.cons (.k (.int 2)) .nil)))))) (.op .Mult (.lst (.cons (.k (.int 60)) .nil)) (.k (.int 12)))) .nil)))) (.seq (.frz 9) (.seq (.app 5 (.fn "_law_crossed" (.cons (.op .Add (.k (.int 6)) (.ix (.v 9) (.k (.int 0)))) (.cons (.ix (.v 9) (.k (.int 1))) .nil)))) (.seq (.asgl 10 (.lc [8] (.nm 8) (.rng (.cons (.op .Add (.k (.int 1)) (.ix (.v 9) (.k (.int 2)))) .nil)) (.no) (.op .Mod (.bf .int_ (.cons (.ix (.v 9) (.op .Add (.k (.int 5)) (.v 8))) .nil)) (.op .Add (.v 8) (.k (.int 1)))))) (.seq (.ifS (.cmp .Eq (.ix (.v 9) (.k (.int 4))) (.k (.int 1)))
(.seq (.sub 10 (.op .Mod (.bf .int_ (.cons (.ix (.v 9) (.k (.int 3))) .nil)) (.bf .len (.cons (.v 10) .nil))) (.op .Sub (.bf .len (.cons (.v 10) .nil)) (.k (.int 1)))) .nil)
(.nil)) (.seq (.frz 10) (.seq (.app 5 (.v 10)) (.seq (.asg 11 (.fn "_law_digits" (.cons (.fn "_law_cell" (.cons (.v 0) (.cons (.k (.int 4)) .nil))) (.cons (.lst (.cons (.k (.int 3)) (.cons (.k (.int 10)) (.cons (.k (.int 8)) (.cons (.k (.int 1000)) (.cons (.k (.int 12)) .nil)))))) .nil)))) (.seq (.frz 11) (.seq (.ifS (.cmp .Eq (.ix (.v 11) (.k (.int 0))) (.k (.int 1)))
(.seq (.app 5 (.fn "_law_chain" (.cons (.sl (.v 11) (.so (.k (.int 1))) (.no)) .nil))) .nil)
(.nil)) (.seq (.asgl 12 (.lc [13] (.nm 13) (.iv (.sv 5)) (.no) (.lst (.cons (.fn "_law_ring" (.cons (.v 13) .nil)) (.cons (.fn "_law_ends" (.cons (.v 13) .nil)) .nil))))) (.seq (.frz 12) (.seq (.for_ [] (.nm 14) (.rng (.cons (.bf .len (.cons (.v 5) .nil)) .nil))
(.seq (.ifS (.not (.fn "_law_right" (.cons (.ix (.v 5) (.v 14)) (.cons (.ix (.ix (.v 12) (.v 14)) (.k (.int 0))) (.cons (.ix (.ix (.v 12) (.v 14)) (.k (.int 1))) .nil)))))
(.seq (.ret (.k (.bl false))) .nil)
(.nil)) .nil)) (.seq (.ret (.and (.fn "_law_same" (.cons (.fn "ring_of" (.cons (.ix (.v 5) (.k (.int 0))) .nil)) (.cons (.ix (.ix (.v 12) (.k (.int 0))) (.k (.int 0))) .nil))) (.fn "_law_same" (.cons (.fn "settled" (.cons (.ix (.v 5) (.k (.int 0))) .nil)) (.cons (.ix (.ix (.v 12) (.k (.int 0))) (.k (.int 1))) .nil))))) .nil)))))))))))))))))))))))))
theorem k_law : chkB n_law c_law (defScope s16) (defBody s16) = true := by decide +kernel
theorem s_law : FnScope n_law p_law (defScope s16) := ⟨rfl, rfl, rfl, by decide +kernel, rfl, by decide +kernel, by decide +kernel⟩
end K13
/-! K13m: rings of a map on numbers, in plain terms. -/
namespace K13
open VL
def itr (f : Nat → Nat) : Nat → Nat → Nat
  | 0, s => s
  | k + 1, s => f (itr f k s)
theorem itr_add (f : Nat → Nat) (b s : Nat) : ∀ a, itr f (a + b) s = itr f a (itr f b s)
  | 0 => by rw [Nat.zero_add]; rfl
  | a + 1 => by rw [Nat.add_right_comm]; exact congrArg f (itr_add f b s a)
theorem itr_comm (f : Nat → Nat) (a b s : Nat) : itr f a (itr f b s) = itr f b (itr f a s) := by rw [← itr_add, ← itr_add, Nat.add_comm]
theorem itr_one (f : Nat → Nat) (s : Nat) : itr f 1 s = f s := rfl
theorem itr_in (f : Nat → Nat) (a s : Nat) : itr f (a + 1) s = itr f a (f s) := itr_add f 1 s a
def fm (m : List Nat) (s : Nat) : Nat := m.getD s 0
def Val (m : List Nat) : Prop := ∀ x ∈ m, x < m.length
theorem fm_lt {m : List Nat} (v : Val m) {s : Nat} (h : s < m.length) : fm m s < m.length := by
  unfold fm
  rw [List.getD_eq_getElem?_getD, List.getElem?_eq_getElem h]
  exact v _ (List.getElem_mem h)
theorem itr_lt {m : List Nat} (v : Val m) {s : Nat} (h : s < m.length) : ∀ k, itr (fm m) k s < m.length
  | 0 => h
  | k + 1 => fm_lt v (itr_lt v h k)
theorem itr_per {f : Nat → Nat} {p s : Nat} (h : itr f p s = s) : ∀ q, itr f (q * p) s = s
  | 0 => by rw [Nat.zero_mul]; rfl
  | q + 1 => by rw [Nat.succ_mul, itr_add, h]; exact itr_per h q
theorem itr_mod {f : Nat → Nat} {p s : Nat} (h : itr f p s = s) (x : Nat) : itr f x s = itr f (x % p) s := by
  have e : x = x % p + (x / p) * p := by rw [Nat.add_comm, Nat.mul_comm]; exact (Nat.div_add_mod x p).symm
  rw [e, itr_add, itr_per h, Nat.add_mul_mod_self_right, Nat.mod_mod]
def orb (f : Nat → Nat) (s k : Nat) : List Nat := (List.range k).map fun i => itr f i s
theorem orb_len (f : Nat → Nat) (s k : Nat) : (orb f s k).length = k := by simp [orb]
theorem orb_get (f : Nat → Nat) (s k i : Nat) (h : i < (orb f s k).length) : (orb f s k)[i] = itr f i s := by simp [orb]
theorem orb_succ (f : Nat → Nat) (s k : Nat) : orb f s (k + 1) = orb f s k ++ [itr f k s] := by simp [orb, List.range_succ]
theorem orb_mem {f : Nat → Nat} {s k x : Nat} : x ∈ orb f s k ↔ ∃ i, i < k ∧ itr f i s = x := by simp [orb]
def Per (f : Nat → Nat) (s p : Nat) : Prop := 0 < p ∧ itr f p s = s ∧ ∀ q, 0 < q → q < p → itr f q s ≠ s
theorem per_of {f : Nat → Nat} {s : Nat} : ∀ {p : Nat}, 0 < p → itr f p s = s → ∃ p, Per f s p := by
  intro p
  induction p using Nat.strongRecOn with
  | _ p ih =>
    intro h0 h
    by_cases c : ∃ q, 0 < q ∧ q < p ∧ itr f q s = s
    · obtain ⟨q, h1, h2, h3⟩ := c
      exact ih q h2 h1 h3
    · exact ⟨p, h0, h, fun q h1 h2 h3 => c ⟨q, h1, h2, h3⟩⟩
theorem Per.uniq {f : Nat → Nat} {s p q : Nat} (h : Per f s p) (g : Per f s q) : p = q := by
  rcases Nat.lt_trichotomy p q with c | c | c
  · exact (g.2.2 p h.1 c h.2.1).elim
  · exact c
  · exact (h.2.2 q g.1 c g.2.1).elim
theorem Per.at_ {f : Nat → Nat} {s p a : Nat} (h : Per f s p) (ha : a ≤ p) : Per f (itr f a s) p := by
  refine ⟨h.1, by rw [itr_comm, h.2.1], fun q h1 h2 h3 => h.2.2 q h1 h2 ?_⟩
  have e2 : itr f (p - a) (itr f a s) = s := by rw [← itr_add, show p - a + a = p by omega, h.2.1]
  have := congrArg (itr f (p - a)) h3
  rw [itr_comm f (p - a) q, e2] at this
  exact this
theorem Per.inj {f : Nat → Nat} {s p i j : Nat} (h : Per f s p) (hij : i < j) (hj : j < p) : itr f i s ≠ itr f j s := fun e => by
  have := congrArg (itr f (p - i)) e
  rw [← itr_add, ← itr_add, show p - i + i = p by omega, h.2.1, show p - i + j = (j - i) + p by omega, itr_add, h.2.1] at this
  exact h.2.2 (j - i) (by omega) (by omega) this.symm
theorem nodup_len : ∀ {n : Nat} {l : List Nat}, l.Nodup → (∀ x ∈ l, x < n) → l.length ≤ n
  | 0, [], _, _ => Nat.le_refl 0
  | 0, x :: _, _, h => absurd (h x List.mem_cons_self) (Nat.not_lt_zero _)
  | n + 1, l, nd, h => by
    have h1 : (l.erase n).length ≤ n := nodup_len (nd.erase n) fun x hx => by
      have hx' := (nd.mem_erase_iff).mp hx
      have := h x hx'.2
      omega
    by_cases c : n ∈ l
    · rw [List.length_erase_of_mem c] at h1; omega
    · rw [List.erase_of_not_mem c] at h1; omega
theorem orb_nodup {f : Nat → Nat} {s p : Nat} (h : Per f s p) : (orb f s p).Nodup := by
  rw [List.Nodup, List.pairwise_iff_getElem]
  intro i j hi hj hij
  rw [orb_get, orb_get]
  rw [orb_len] at hi hj
  exact h.inj hij hj
theorem Per.le {m : List Nat} (v : Val m) {s p : Nat} (hs : s < m.length) (h : Per (fm m) s p) : p ≤ m.length := by
  have := nodup_len (orb_nodup h) (n := m.length) fun x hx => by
    obtain ⟨i, _, rfl⟩ := orb_mem.mp hx
    exact itr_lt v hs i
  rwa [orb_len] at this
/-- a state that comes back, and moves -/
def NF (f : Nat → Nat) (s : Nat) : Prop := f s ≠ s ∧ ∃ p, 0 < p ∧ itr f p s = s
theorem NF.two {f : Nat → Nat} {s p : Nat} (h : NF f s) (g : Per f s p) : 2 ≤ p := by
  rcases Nat.lt_or_ge p 2 with c | c
  · have h1 := g.1
    have : p = 1 := by omega
    subst this
    exact (h.1 g.2.1).elim
  · exact c
def RingOf (m : List Nat) : Option (List Nat) → Prop
  | none => ∀ s, s < m.length → ¬ NF (fm m) s
  | some c => ∃ t p, t < m.length ∧ NF (fm m) t ∧ Per (fm m) t p ∧ c = orb (fm m) t p ∧ ∀ s, s < t → ¬ NF (fm m) s
theorem ringOf_uniq {m : List Nat} {r r' : Option (List Nat)} (h : RingOf m r) (g : RingOf m r') : r = r' := by
  cases r with
  | none =>
    cases r' with
    | none => rfl
    | some c => obtain ⟨t, p, h1, h2, _⟩ := g; exact (h t h1 h2).elim
  | some c =>
    obtain ⟨t, p, h1, h2, h3, rfl, h4⟩ := h
    cases r' with
    | none => exact (g t h1 h2).elim
    | some c =>
      obtain ⟨u, q, g1, g2, g3, rfl, g4⟩ := g
      rcases Nat.lt_trichotomy t u with c | c | c
      · exact (g4 t c h2).elim
      · subst c; rw [h3.uniq g3]
      · exact (h4 u c g2).elim
/-- turned round -/
theorem orb_rot {f : Nat → Nat} {s p a : Nat} (h : itr f p s = s) (ha : a ≤ p) : (orb f s p).drop a ++ (orb f s p).take a = orb f (itr f a s) p := by
  refine List.ext_getElem (by simp [orb_len]; omega) fun i h1 h2 => ?_
  rw [orb_len] at h2
  rw [orb_get, List.getElem_append]
  split
  · rename_i c
    rw [List.getElem_drop, orb_get, ← itr_add, Nat.add_comm]
  · rename_i c
    simp only [List.length_drop, orb_len] at c
    rw [List.getElem_take, orb_get]
    simp only [List.length_drop, orb_len]
    rw [← itr_add, show i + a = (i - (p - a)) + p by omega, itr_add, h]
/-- after n steps every state is on a ring -/
theorem itr_ring {m : List Nat} (v : Val m) {s : Nat} (hs : s < m.length) : ∃ p, 0 < p ∧ itr (fm m) p (itr (fm m) m.length s) = itr (fm m) m.length s := by
  have : ¬ (orb (fm m) s (m.length + 1)).Nodup := fun nd => by
    have := nodup_len nd (n := m.length) fun x hx => by
      obtain ⟨i, _, rfl⟩ := orb_mem.mp hx
      exact itr_lt v hs i
    rw [orb_len] at this
    omega
  have : ∃ i j, i < j ∧ j < m.length + 1 ∧ itr (fm m) i s = itr (fm m) j s := by
    refine Classical.byContradiction fun c => this ?_
    rw [List.Nodup, List.pairwise_iff_getElem]
    intro i j hi hj hij e
    rw [orb_get, orb_get] at e
    rw [orb_len] at hi hj
    exact c ⟨i, j, hij, hj, e⟩
  obtain ⟨i, j, h1, h2, e⟩ := this
  refine ⟨j - i, by omega, ?_⟩
  have := congrArg (itr (fm m) (m.length - i)) e
  rw [← itr_add, ← itr_add, show m.length - i + i = m.length by omega] at this
  rw [← itr_add, this]
  congr 1
  omega
/-- one step more changes nothing iff there is no ring -/
theorem ends_iff {m : List Nat} (v : Val m) {r : Option (List Nat)} (h : RingOf m r) : ((List.range m.length).map (fun s => fm m (itr (fm m) m.length s)) = (List.range m.length).map fun s => itr (fm m) m.length s) ↔ r = none := by
  have key : ((List.range m.length).map (fun s => fm m (itr (fm m) m.length s)) = (List.range m.length).map fun s => itr (fm m) m.length s) ↔ ∀ s, s < m.length → fm m (itr (fm m) m.length s) = itr (fm m) m.length s := by
    rw [List.map_inj_left]
    simp
  rw [key]
  constructor
  · intro e
    cases r with
    | none => rfl
    | some c =>
      obtain ⟨t, p, h1, h2, h3, _, _⟩ := h
      have hp := h3.1
      have hy : itr (fm m) m.length (itr (fm m) (p * m.length - m.length) t) = t := by
        have : m.length ≤ p * m.length := Nat.le_mul_of_pos_left _ hp
        rw [← itr_add, show m.length + (p * m.length - m.length) = m.length * p by rw [Nat.mul_comm m.length p]; omega]
        exact itr_per h3.2.1 _
      have := e _ (itr_lt v h1 (p * m.length - m.length))
      rw [hy] at this
      exact (h2.1 this).elim
  · rintro rfl s hs
    refine Classical.byContradiction fun c => h _ (itr_lt v hs m.length) ⟨c, itr_ring v hs⟩
end K13
/-! K13b: what the defs' bodies do. -/
namespace K13
open PySem PySem.Spec PyProof.Rows L2 VL
/-- a ring, or None -/
def rgD : Option (List Nat) → D
  | none => .non
  | some c => .tup (c.map dn)
theorem itr_pred {f : Nat → Nat} {j s : Nat} (h : 0 < j) : itr f j s = f (itr f (j - 1) s) := by
  cases j with
  | zero => omega
  | succ j => rfl
def S_unmoved : Sem1 := Sem1.of (α := Nat) [true] false (fun n => [.int n]) (fun n => n ≤ 2000) fun n d => d = .tup ((List.range n).map dn)
theorem b_unmoved (G : Gam) : BodyOk G n_unmoved.length c_unmoved S_unmoved := by
  refine bodyOk_of fun n hn => ?_
  show RunS G c_unmoved [.sh (.int n), .un] _
  simp only [c_unmoved, q1, q2, q3, q4, q5]
  refine ⟨by omega, LcS_map (φ := dn) dn (by simpa using sz (by omega)) (fun x hx q hq => ?_) ?_⟩
  · simp only [dn_eq, q1, q2, q3, q4, q5]
    exact hq
  · simp [q1, q2, q3, q4, q5]
/-- a move, as a list or a tuple; a state of a ring -/
def S_ring_through : Sem1 := Sem1.of (α := Bool × List Nat × Nat) [false, true] false (fun (b, m, s) => [sqD b (m.map dn), .int s])
  (fun (b, m, s) => Val m ∧ s < m.length ∧ m.length ≤ 2000 ∧ ∃ p, 0 < p ∧ itr (fm m) p s = s)
  fun (b, m, s) d => ∃ t p, Per (fm m) t p ∧ d = .tup ((orb (fm m) t p).map dn) ∧ (∃ x, t = itr (fm m) x s) ∧ (∃ x, s = itr (fm m) x t) ∧ ∀ x, t ≤ itr (fm m) x s
theorem b_ring_through (G : Gam) : BodyOk G n_ring_through.length c_ring_through S_ring_through := by
  refine bodyOk_of fun ⟨b, m, s⟩ ⟨v, hs, hl, pp⟩ => ?_
  obtain ⟨p0, hp0, hp1⟩ := pp
  obtain ⟨p, hp⟩ := per_of hp0 hp1
  have hpl := hp.le v hs
  show RunS G c_ring_through [.bo (sqD b (m.map dn)), .sh (.int s), .un, .un] _
  simp only [c_ring_through, q1, q2, q3, q4, q5]
  refine ⟨by decide, WhS_inv (fun k e => ∃ j, 0 < j ∧ j ≤ p ∧ k = p - j ∧ e = [.bo (sqD b (m.map dn)), .sh (.int s), .ow ((orb (fm m) s j).map dn), .un]) (p - 1) ⟨1, by omega, hp.1, rfl, rfl⟩ ?_⟩
  rintro k e ⟨j, h0, hj, rfl, rfl⟩
  have hb : 0 < ((orb (fm m) s j).map dn).length := by simp [orb_len]; omega
  have e1 : atI ((orb (fm m) s j).map dn) (-1) = some (.int ((itr (fm m) (j - 1) s : Nat) : Int)) := by
    rw [atI_last hb]
    simp [orb_get, orb_len, dn_eq]
  have e2 : atI (m.map dn) ((itr (fm m) (j - 1) s : Nat) : Int) = some (.int ((itr (fm m) j s : Nat) : Int)) := by
    rw [atI_dn' (itr_lt v hs _), itr_pred h0]
    rfl
  simp only [q1, q2, q3, q4, q5, Int.reduceNeg, e1, e2]
  by_cases c : itr (fm m) j s = s
  · have hjp : j = p := by
      rcases Nat.lt_or_ge j p with c2 | c2
      · exact (hp.2.2 j h0 c2 c).elim
      · omega
    subst hjp
    obtain ⟨t, ht, hmin, e3⟩ := min_dn (l := orb (fm m) s j) (by intro z; have := congrArg List.length z; rw [orb_len] at this; simp at this; omega)
    obtain ⟨a, ha, e4, e5⟩ := index_dn ht
    rw [orb_get] at e4
    have ha' : a < j := by rw [orb_len] at ha; exact ha
    simp only [c, decide_true, q1, q2, q3, q4, q5, e3, e5, Bool.false_eq_true, if_false]
    rw [← List.map_drop, ← List.map_take, ← List.map_append, orb_rot hp.2.1 (by omega), e4]
    refine ⟨by simp only [List.length_map, List.length_drop, List.length_take, orb_len]; exact sz (by omega), t, j, ?_, rfl, ⟨a, e4.symm⟩, ⟨j - a, ?_⟩, fun x => ?_⟩
    · rw [← e4]; exact hp.at_ (by omega)
    · rw [← e4, ← itr_add, show j - a + a = j by omega, hp.2.1]
    · rw [itr_mod hp.2.1 x]
      exact hmin _ (orb_mem.mpr ⟨x % j, Nat.mod_lt _ h0, rfl⟩)
  · have hjp : j < p := by
      rcases Nat.lt_or_ge j p with c2 | c2
      · exact c2
      · have : j = p := by omega
        subst this
        exact (c hp.2.1).elim
    have c' : ((itr (fm m) j s : Nat) : Int) ≠ (s : Int) := by omega
    simp only [c', decide_false, q1, q2, q3, q4, q5, Int.reduceNeg, e1, e2, if_true]
    refine ⟨by rw [orb_len]; omega, p - (j + 1), by omega, j + 1, by omega, by omega, rfl, ?_⟩
    rw [orb_succ, ← app_dn]
def S_ring_of : Sem1 := Sem1.of (α := Bool × List Nat) [false] false (fun (b, m) => [sqD b (m.map dn)]) (fun (_, m) => Val m ∧ m.length ≤ 2000) fun (_, m) d => ∃ r, d = rgD r ∧ RingOf m r
def G_ring_of : Gam := Gam.none.add "ring_through" S_ring_through
/-- the states that are marked -/
def vis (w : List Nat) (s : Nat) : Prop := w.getD s 0 ≠ 0
structure Marks (m w : List Nat) (i : Nat) : Prop where
  len : w.length = m.length
  le : ∀ s, w.getD s 0 ≤ i
  cl : ∀ s, s < m.length → vis w s → vis w (fm m s)
def BestOf (m w : List Nat) : Option (List Nat) → Prop
  | none => ∀ s, s < m.length → vis w s → ¬ NF (fm m) s
  | some c => ∃ t p, t < m.length ∧ vis w t ∧ NF (fm m) t ∧ Per (fm m) t p ∧ c = orb (fm m) t p ∧ ∀ s, s < m.length → vis w s → NF (fm m) s → t ≤ s
theorem getD_set (w : List Nat) (a b v : Nat) (h : a < w.length) : (w.set a v).getD b 0 = if a = b then v else w.getD b 0 := by
  simp only [List.getD_eq_getElem?_getD, List.getElem?_set]
  by_cases c : a = b
  · subst c; simp [h]
  · simp [c]
theorem path_back {f : Nat → Nat} {i l k : Nat} (hl : l < k) (h : NF f (itr f l i)) : ∃ x, itr f l i = itr f x (itr f k i) := by
  obtain ⟨_, p, hp, e⟩ := h
  have e2 := itr_per e k
  have : k ≤ k * p := Nat.le_mul_of_pos_right _ hp
  refine ⟨k * p + l - k, ?_⟩
  rw [← itr_add, show k * p + l - k + k = k * p + l by omega, itr_add]
  exact e2.symm
theorem atI_zero {m : List Nat} (h : 0 < m.length) : atI (m.map dn) 0 = some (.int ((m.getD 0 0 : Nat) : Int)) := atI_dn' (i := 0) h
theorem fm_fix {f : Nat → Nat} {s : Nat} (h : f s = s) : ∀ x, itr f x s = s
  | 0 => rfl
  | x + 1 => by show f (itr f x s) = s; rw [fm_fix h x, h]
theorem cl_itr {m w : List Nat} {i s : Nat} (v : Val m) (h : Marks m w i) (hs : s < m.length) (hv : vis w s) : ∀ x, vis w (itr (fm m) x s)
  | 0 => hv
  | x + 1 => h.cl _ (itr_lt v hs x) (cl_itr v h hs hv x)
/-- what a walk from i leaves: state k of it is marked */ -/
structure Walk (m w w' : List Nat) (i k : Nat) : Prop where
  len : w'.length = m.length
  on : ∀ j, j < k → w'.getD (itr (fm m) j i) 0 = i + 1
  off : ∀ s, (∀ j, j < k → itr (fm m) j i ≠ s) → w'.getD s 0 = w.getD s 0
  new : ∀ j, j < k → ¬ vis w (itr (fm m) j i)
section
variable {m w w' : List Nat} {i k : Nat}
theorem Walk.mono (h : Walk m w w' i k) {s : Nat} (g : vis w s) : vis w' s := by
  unfold vis at g ⊢
  rw [h.off s fun j hj e => h.new j hj (by rw [e]; exact g)]
  exact g
theorem Walk.cases (h : Walk m w w' i k) {s : Nat} (g : vis w' s) : vis w s ∨ ∃ j, j < k ∧ itr (fm m) j i = s := by
  by_cases c : ∃ j, j < k ∧ itr (fm m) j i = s
  · exact .inr c
  · refine .inl ?_
    unfold vis at g ⊢
    rwa [h.off s fun j hj e => c ⟨j, hj, e⟩] at g
theorem Walk.marks (h : Walk m w w' i k) (a : Marks m w i) (z : vis w' (itr (fm m) k i)) : Marks m w' (i + 1) := by
  refine ⟨h.len, fun s => ?_, fun s hs g => ?_⟩
  · by_cases c : ∃ j, j < k ∧ itr (fm m) j i = s
    · obtain ⟨j, hj, e⟩ := c
      rw [← e, h.on j hj]
      exact Nat.le_refl _
    · rw [h.off s fun j hj e => c ⟨j, hj, e⟩]
      exact Nat.le_succ_of_le (a.le s)
  · rcases h.cases g with g | ⟨j, hj, rfl⟩
    · exact h.mono (a.cl s hs g)
    · show vis w' (itr (fm m) (j + 1) i)
      rcases Nat.lt_or_ge (j + 1) k with c | c
      · unfold vis
        rw [h.on _ c]
        omega
      · rw [show j + 1 = k by omega]; exact z
theorem Walk.seen (h : Walk m w w' i k) (a : ∀ s, s < i → vis w s) (z : vis w' (itr (fm m) k i)) : ∀ s, s < i + 1 → vis w' s := fun s hs => by
  rcases Nat.lt_or_ge s i with c | c
  · exact h.mono (a s c)
  · have : s = i := by omega
    subst this
    cases k with
    | zero => exact z
    | succ k =>
      have := h.on 0 (by omega)
      unfold vis
      rw [show w'.getD s 0 = s + 1 from this]
      omega
/-- no new ring -/
theorem Walk.same (h : Walk m w w' i k) {r : Option (List Nat)} (a : BestOf m w r) (n : ∀ s, s < m.length → vis w' s → NF (fm m) s → vis w s) : BestOf m w' r := by
  cases r with
  | none => exact fun s hs g nf => a s hs (n s hs g nf) nf
  | some c =>
    obtain ⟨t, p, h1, h2, h3, h4, h5, h6⟩ := a
    exact ⟨t, p, h1, h.mono h2, h3, h4, h5, fun s hs g nf => h6 s hs (n s hs g nf) nf⟩
end
theorem b_ring_of : BodyOk G_ring_of n_ring_of.length c_ring_of S_ring_of := by
  refine bodyOk_of fun ⟨b, m⟩ ⟨v, hl⟩ => ?_
  show RunS G_ring_of c_ring_of [.bo (sqD b (m.map dn)), .un, .un, .un, .un, .un] _
  simp only [c_ring_of, q1, q2, q3, q4, q5]
  refine LcS_map (fun _ => .int 0) (sz (by omega)) (fun x hx q hq => ?_) ?_
  · simp only [q1, q2, q3, q4, q5]
    exact hq
  refine ⟨by omega, ForS_inv (fun i e => ∃ w r s2 s4 s5, Marks m w i ∧ (∀ s, s < i → vis w s) ∧ BestOf m w r ∧ e = [.bo (sqD b (m.map dn)), .ow (w.map dn), s2, .sh (rgD r), s4, s5]) ?_ ?_ ?_⟩
  · have e0 : ∀ s, (m.map fun _ => 0).getD s 0 = 0 := fun s => by
      rw [List.getD_eq_getElem?_getD, List.getElem?_map]
      cases m[s]? <;> rfl
    refine ⟨m.map fun _ => 0, none, .un, .un, .un, ⟨by simp, fun s => by rw [e0]; omega, fun s _ h => (h (e0 s)).elim⟩, fun s h => by omega, fun s _ h => (h (e0 s)).elim, ?_⟩
    simp only [q3, List.map_map]
    rfl
  · rintro i hi e ⟨w, r, s2, s4, s5, mk, sn, bo, rfl⟩
    simp only [List.length_range] at hi
    rw [List.getElem_range]
    simp only [q1, q2, q3, q4, q5]
    refine WhS_inv (fun n e => ∃ k w', n = w'.count 0 ∧ Walk m w w' i k ∧ e = [.bo (sqD b (m.map dn)), .ow (w'.map dn), .sh (.int (itr (fm m) k i : Nat)), .sh (rgD r), .sh (.int i), s5]) (w.count 0) ⟨0, w, rfl, ⟨mk.len, fun j h => by omega, fun s _ => rfl, fun j h => by omega⟩, rfl⟩ ?_
    rintro n e ⟨k, w', rfl, wk, rfl⟩
    have hk := itr_lt v hi k
    have e1 := atI_dn' (m := w') (i := itr (fm m) k i) (by rw [wk.len]; exact hk)
    have e2 : atI (m.map dn) ((itr (fm m) k i : Nat) : Int) = some (.int ((itr (fm m) (k + 1) i : Nat) : Int)) := by
      rw [atI_dn' hk]; rfl
    simp only [q1, q2, q3, q4, q5, e1]
    by_cases c : w'.getD (itr (fm m) k i) 0 = 0
    · simp only [c, Int.natCast_zero, Int.ofNat_zero, decide_true, q1, q2, q3, q4, q5, if_true, e2]
      rw [ixN_nat (by rw [wk.len]; exact hk)]
      simp only [q3]
      have hlt : itr (fm m) k i < w'.length := by rw [wk.len]; exact hk
      have hoff : ∀ j, j < k → itr (fm m) j i ≠ itr (fm m) k i := fun j hj e => by
        have := wk.on j hj
        rw [e, c] at this
        omega
      refine ⟨_, ?_, k + 1, w'.set (itr (fm m) k i) (i + 1), rfl, ⟨by rw [List.length_set]; exact wk.len, fun j hj => ?_, fun s hs => ?_, fun j hj => ?_⟩, ?_⟩
      · rw [List.count_set hlt]
        have : w'[itr (fm m) k i] = 0 := by simpa [List.getD_eq_getElem?_getD, hlt] using c
        have h0 : 0 < w'.count 0 := List.count_pos_iff.mpr (by rw [← this]; exact List.getElem_mem hlt)
        rw [this]
        simp
        omega
      · rw [getD_set _ _ _ _ hlt]
        by_cases z : itr (fm m) k i = itr (fm m) j i
        · rw [if_pos z]
        · rw [if_neg z]
          rcases Nat.lt_or_ge j k with y | y
          · exact wk.on j y
          · exact (z (by rw [show j = k by omega])).elim
      · rw [getD_set _ _ _ _ hlt, if_neg (hs k (by omega))]
        exact wk.off s fun j hj => hs j (by omega)
      · rcases Nat.lt_or_ge j k with y | y
        · exact wk.new j y
        · rw [show j = k by omega]
          unfold vis
          rw [← wk.off _ hoff, c]
          exact fun z => z rfl
      · rw [← set_dn]
        simp
    · have c' : ((w'.getD (itr (fm m) k i) 0 : Nat) : Int) ≠ 0 := by omega
      simp only [c', decide_false, if_false, Bool.false_eq_true, q1, q2, q3, q4, q5, e1]
      have vst : vis w' (itr (fm m) k i) := c
      have mk' := wk.marks mk vst
      have sn' := wk.seen sn vst
      have fin : ∀ r', BestOf m w' r' → ∀ s5 : Slot, ∃ w r s2 s4 s5', Marks m w (i + 1) ∧ (∀ s, s < i + 1 → vis w s) ∧ BestOf m w r ∧ ([.bo (sqD b (m.map dn)), .ow (w'.map dn), .sh (.int (itr (fm m) k i : Nat)), .sh (rgD r'), .sh (.int i), s5] : VL.Env) = [.bo (sqD b (m.map dn)), .ow (w.map dn), s2, .sh (rgD r), s4, s5'] :=
        fun r' hb s5 => ⟨w', r', _, _, _, mk', sn', hb, rfl⟩
      have onring : ∀ s, s < m.length → vis w' s → NF (fm m) s → ¬ vis w s → ∃ x, s = itr (fm m) x (itr (fm m) k i) := fun s hs g nf ng => by
        rcases wk.cases g with g | ⟨j, hj, rfl⟩
        · exact (ng g).elim
        · exact path_back hj nf
      by_cases c1 : w'.getD (itr (fm m) k i) 0 = i + 1
      · have back : ∃ j, j < k ∧ itr (fm m) j i = itr (fm m) k i := by
          refine Classical.byContradiction fun c => ?_
          have := wk.off _ fun j hj e => c ⟨j, hj, e⟩
          have := mk.le (itr (fm m) k i)
          omega
        have per : ∃ p, 0 < p ∧ itr (fm m) p (itr (fm m) k i) = itr (fm m) k i := by
          obtain ⟨j, hj, e⟩ := back
          refine ⟨k - j, by omega, ?_⟩
          conv => lhs; rw [← e]
          rw [← itr_add, show k - j + j = k by omega]
        simp only [c1, Int.natCast_add, Int.natCast_one, decide_true, q1, q2, q3, q4, q5, e2]
        by_cases c2 : itr (fm m) (k + 1) i = itr (fm m) k i
        · simp only [c2, decide_true, q1, q2, q3, q4, q5]
          refine fin r (wk.same bo fun s hs g nf => ?_) _
          refine Classical.byContradiction fun ng => ?_
          obtain ⟨x, rfl⟩ := onring s hs g nf ng
          rw [fm_fix (f := fm m) (s := itr (fm m) k i) c2 x] at nf
          exact nf.1 c2
        · have c2' : ((itr (fm m) (k + 1) i : Nat) : Int) ≠ ((itr (fm m) k i : Nat) : Int) := by omega
          have gf : G_ring_of.fn (Str.ofString "ring_through") = some S_ring_through := by rfl
          simp only [c2', decide_false, q1, q2, q3, q4, q5, gf]
          refine ⟨by rfl, (b, m, itr (fm m) k i), rfl, ⟨v, hk, hl, per⟩, ?_⟩
          rintro d ⟨t, p, pt, rfl, ⟨x, hx⟩, ⟨y, hy⟩, hmin⟩
          have ht : t < m.length := by rw [hx]; exact itr_lt v hk x
          have nt : NF (fm m) t := by
            refine ⟨fun e => c2 ?_, p, pt.1, pt.2.1⟩
            have e3 := fm_fix (f := fm m) e
            show fm m (itr (fm m) k i) = itr (fm m) k i
            rw [hy, e3 y, e]
          have vt : vis w' t := by rw [hx]; exact cl_itr v mk' hk vst x
          have e4 : atI ((orb (fm m) t p).map dn) 0 = some (.int (t : Int)) := by
            rw [atI_zero (by rw [orb_len]; exact pt.1), List.getD_eq_getElem?_getD, List.getElem?_eq_getElem (by rw [orb_len]; exact pt.1), Option.getD_some, orb_get]
            rfl
          have low : ∀ s, s < m.length → vis w' s → NF (fm m) s → vis w s ∨ t ≤ s := fun s hs g nf => by
            refine (Classical.em (vis w s)).imp id fun ng => ?_
            obtain ⟨x, rfl⟩ := onring s hs g nf ng
            exact hmin x
          simp only [q1, q2, q3, q4, q5, S_ring_through, Sem1.of]
          have take : (∀ s, s < m.length → vis w s → NF (fm m) s → t ≤ s) → BestOf m w' (some (orb (fm m) t p)) := fun h =>
            ⟨t, p, ht, vt, nt, pt, rfl, fun s hs g nf => (low s hs g nf).elim (fun g => h s hs g nf) id⟩
          cases r with
          | none =>
            simp only [rgD, q1, q2, q3, q4, q5]
            exact fin (some _) (take fun s hs g nf => (bo s hs g nf).elim) _
          | some c =>
            obtain ⟨t0, p0, h1, h2, h3, h4, rfl, h6⟩ := bo
            have e5 : atI ((orb (fm m) t0 p0).map dn) 0 = some (.int (t0 : Int)) := by
              rw [atI_zero (by rw [orb_len]; exact h4.1), List.getD_eq_getElem?_getD, List.getElem?_eq_getElem (by rw [orb_len]; exact h4.1), Option.getD_some, orb_get]
              rfl
            simp only [rgD, q1, q2, q3, q4, q5, e4, e5]
            by_cases c3 : t < t0
            · have c3' : (t : Int) < (t0 : Int) := by omega
              simp only [c3', decide_true, q1, q2, q3, q4, q5]
              exact fin (some _) (take fun s hs g nf => Nat.le_of_lt (Nat.lt_of_lt_of_le c3 (h6 s hs g nf))) _
            · have c3' : ¬ (t : Int) < (t0 : Int) := by omega
              simp only [c3', decide_false, q1, q2, q3, q4, q5]
              exact fin (some (orb (fm m) t0 p0)) ⟨t0, p0, h1, wk.mono h2, h3, h4, rfl, fun s hs g nf => (low s hs g nf).elim (fun g => h6 s hs g nf) fun g => by omega⟩ _
      · have c1' : ((w'.getD (itr (fm m) k i) 0 : Nat) : Int) ≠ ((i : Nat) : Int) + 1 := by omega
        simp only [c1', decide_false, q1, q2, q3, q4, q5]
        refine fin r (wk.same bo fun s hs g nf => ?_) _
        refine Classical.byContradiction fun ng => ?_
        obtain ⟨x, rfl⟩ := onring s hs g nf ng
        refine ng (cl_itr v mk hk ?_ x)
        rcases wk.cases vst with g | ⟨j, hj, e⟩
        · exact g
        · rw [← e, wk.on j hj] at c1
          exact (c1 rfl).elim
  · rintro e ⟨w, r, s2, s4, s5, mk, sn, bo, rfl⟩
    simp only [q1, q2, q3, q4, q5]
    refine ⟨r, rfl, ?_⟩
    rw [List.length_range] at sn
    cases r with
    | none => exact fun s hs => bo s hs (sn s hs)
    | some c =>
      obtain ⟨t, p, h1, h2, h3, h4, h5, h6⟩ := bo
      refine ⟨t, p, h1, h3, h4, h5, fun s hs nf => ?_⟩
      have := h6 s (by omega) (sn s (by omega)) nf
      omega
end K13
/-! K13c: what the law's helpers' bodies do. -/
namespace K13
open PySem PySem.Spec PyProof.Rows L2 VL
def S_then : Sem1 := Sem1.of (α := List Nat × List Nat) [true, true] false (fun (a, b) => [.lst (a.map dn), .lst (b.map dn)]) (fun (a, b) => a.length = b.length ∧ a.length ≤ 2000 ∧ ∀ x ∈ a, x < b.length)
  fun (a, b) d => d = .tup ((a.map fun x => fm b x).map dn)
theorem b_then (G : Gam) : BodyOk G n_then.length c_then S_then := by
  refine bodyOk_of fun ⟨a, b⟩ ⟨h1, h2, h3⟩ => ?_
  show RunS G c_then [.sh (.lst (a.map dn)), .sh (.lst (b.map dn)), .un] _
  have c : ((a.length : Nat) : Int) = (b.length : Int) := by omega
  simp only [c_then, q1, q2, q3, q4, q5, c]
  refine LcS_map (fun x => .int ((fm b x : Nat) : Int)) (sz (by omega)) (fun x hx q hq => ?_) ?_
  · simp only [q1, q2, q3, q4, q5, atI_dn' (h3 x hx)]
    exact hq
  · simp only [q1, q2, q3, q4, q5, List.map_map]
    rfl
def G_settled : Gam := Gam.none.add "unmoved" S_unmoved
def S_settled : Sem1 := Sem1.of (α := Bool × List Nat) [false] false (fun (b, m) => [sqD b (m.map dn)]) (fun (_, m) => Val m ∧ m.length ≤ 2000) fun (_, m) d => d = .tup (((List.range m.length).map fun s => itr (fm m) m.length s).map dn)
theorem b_settled : BodyOk G_settled n_settled.length c_settled S_settled := by
  refine bodyOk_of fun ⟨b, m⟩ ⟨v, hl⟩ => ?_
  show RunS G_settled c_settled [.bo (sqD b (m.map dn)), .un, .un, .un] _
  have gf : G_settled.fn (Str.ofString "unmoved") = some S_unmoved := by rfl
  simp only [c_settled, q1, q2, q3, q4, q5, gf, S_unmoved, Sem1.of]
  refine ⟨m.length, rfl, hl, fun d hd => ?_⟩
  subst hd
  refine ⟨by omega, ForS_inv (fun k e => ∃ s2 s3, e = [.bo (sqD b (m.map dn)), .sh (.tup (((List.range m.length).map fun s => itr (fm m) k s).map dn)), s2, s3]) ⟨.un, .un, ?_⟩ ?_ ?_⟩
  · simp only [q3]
    have : (fun s => itr (fm m) 0 s) = id := rfl
    rw [this, List.map_id]
  · rintro k hk e ⟨s2, s3, rfl⟩
    simp only [q1, q2, q3, q4, q5]
    rw [List.map_map]
    refine LcS_map (fun s => .int ((itr (fm m) (k + 1) s : Nat) : Int)) (sz (by simpa using (by omega))) (fun x hx q hq => ?_) ?_
    · have hx := List.mem_range.mp hx
      show lcF _ _ _ _ _ _ (dn (itr (fm m) k x)) q
      simp only [q1, q2, q3, q4, q5, atI_dn' (itr_lt v hx k)]
      exact hq
    · simp only [q1, q2, q3, q4, q5, List.map_map]
      exact ⟨_, _, rfl⟩
  · rintro e ⟨s2, s3, rfl⟩
    simp only [q1, q2, q3, q4, q5]
def S_whole : Sem1 := Sem1.of (α := Nat) [true] false (fun n => [.int n]) (fun _ => True) fun _ d => d = .bl true
theorem b_whole (G : Gam) : BodyOk G n__law_whole.length c__law_whole S_whole := by
  refine bodyOk_of fun n _ => ?_
  show RunS G c__law_whole [.sh (.int n)] _
  simp only [c__law_whole, q1, q2, q3, q4, q5, q6]

def S_cell : Sem1 := Sem1.of (α := List Int × Nat) [true, true] false (fun (ns, k) => [.scr ns, .int k]) (fun (ns, k) => k ≤ 10) fun _ d => ∃ c : Int, d = .int c
theorem b_cell (G : Gam) : BodyOk G n__law_cell.length c__law_cell S_cell := by
  refine bodyOk_of fun ⟨ns, k⟩ hk => ?_
  show RunS G c__law_cell [.sh (.scr ns), .sh (.int k), .un, .un] _
  simp only [c__law_cell, q1, q2, q3, q4, q5]
  by_cases c : (k : Int) < (ns.length : Int)
  · simp only [c, decide_true, q1, q2, q3, q4, q5]
    rw [atI_lt (by omega) c]
    simp [q3]
  · simp only [c, decide_false, q1, q2, q3, q4, q5]
    refine ForS_inv (fun i e => ∃ (z : Nat) (s3 : Slot), z < 1000003 ∧ e = [.sh (.scr ns), .sh (.int k), .sh (.int z), s3]) ⟨17, .un, by omega, rfl⟩ ?_ ?_
    · rintro i hi e ⟨z, s3, hz, rfl⟩
      simp only [q1, q2, q3, q4, q5]
      refine ⟨mulOk_l (by omega), by decide, by decide, ?_⟩
      obtain ⟨y, hy, hy2⟩ := fmod_pos ((z : Int) * 31 + (ns[i]).fmod 1000003) (b := 1000003) (by decide)
      exact ⟨y, _, by omega, by rw [hy]⟩
    · rintro e ⟨z, s3, hz, rfl⟩
      simp only [q1, q2, q3, q4, q5]
      refine ⟨mulOk_l (by omega), mulOk_r (by omega), by decide, _, rfl⟩
/-- a row of digits -/
def S_digits : Sem1 := Sem1.of (α := Int × List Nat) [true, true] true (fun (c, z) => [.int c, .lst (z.map dn)]) (fun (_, z) => z.length ≤ 1000 ∧ ∀ x ∈ z, 0 < x ∧ x < 1000000)
  fun (_, z) d => ∃ r : List Nat, d = .lst (r.map dn) ∧ r.length = z.length ∧ ∀ i, i < z.length → r.getD i 0 < z.getD i 0
theorem getD_app (r : List Nat) (x i : Nat) : (r ++ [x]).getD i 0 = if i = r.length then x else r.getD i 0 := by
  simp only [List.getD_eq_getElem?_getD, List.getElem?_append]
  by_cases h : i < r.length
  · simp [h]; omega
  · by_cases h2 : i = r.length
    · subst h2; simp
    · have : 0 < i - r.length := by omega
      rw [if_neg h, if_neg h2]
      rw [List.getElem?_eq_none (by simp; omega), List.getElem?_eq_none (by omega)]
theorem getD_get {z : List Nat} {i : Nat} (h : i < z.length) : z.getD i 0 = z[i] := by simp [List.getD_eq_getElem?_getD, h]
theorem b_digits (G : Gam) : BodyOk G n__law_digits.length c__law_digits S_digits := by
  refine bodyOk_of fun ⟨c, z⟩ ⟨hl, hz⟩ => ?_
  show RunS G c__law_digits [.sh (.int c), .sh (.lst (z.map dn)), .un, .un, .un, .un, .un, .un] _
  have e0 : (10 : Int) ^ (18 : Int).toNat = 1000000000000000000 := by decide
  simp only [c__law_digits, q1, q2, q3, q4, q5, e0]
  refine ⟨by decide, ?_⟩
  by_cases h : (1000000000000000000 : Int) ≤ c
  · simp only [h, decide_true, q1, q2, q3, q4, q5, e0]
    refine ⟨by decide, by decide, ForS_inv (fun i e => ∃ (r : List Nat) (y : Int) (s4 : Slot), r.length = i ∧ (∀ j, j < i → r.getD j 0 < z.getD j 0) ∧ e = [.sh (.int c), .sh (.lst (z.map dn)), .ow (r.map dn), .sh (.int y), s4, .un, .un, .un]) ⟨[], _, .un, rfl, fun j hj => by omega, rfl⟩ ?_ ?_⟩
    · rintro i hi e ⟨r, y, s4, rfl, hr, rfl⟩
      have hp := hz _ (List.getElem_mem hi)
      simp only [q1, q2, q3, q4, q5]
      obtain ⟨x, hx, hx2⟩ := fmod_pos y (b := (z[r.length] : Nat)) (by omega)
      refine ⟨by omega, by omega, by omega, r ++ [x], _, _, by simp, fun j hj => ?_, by rw [hx, ← app_dn]⟩
      rw [getD_app]
      by_cases c : j = r.length
      · rw [if_pos c, c, getD_get hi]; omega
      · rw [if_neg c]; exact hr j (by omega)
    · rintro e ⟨r, y, s4, h1, hr, rfl⟩
      simp only [q1, q2, q3, q4, q5]
      exact ⟨r, rfl, h1, hr⟩
  · simp only [h, decide_false, q1, q2, q3, q4, q5, e0]
    refine ⟨by decide, by decide, by omega, ForS_inv (fun i e => ∃ (r : List Nat) (y : Nat) (s4 s6 s7 : Slot), y < 2147483647 ∧ r.length = i ∧ (∀ j, j < i → r.getD j 0 < z.getD j 0) ∧ e = [.sh (.int c), .sh (.lst (z.map dn)), .ow (r.map dn), .sh (.int c), s4, .sh (.int y), s6, s7]) ?_ ?_ ?_⟩
    · obtain ⟨y, hy, hy2⟩ := fmod_pos c (b := 2147483629) (by decide)
      exact ⟨[], y, .un, .un, .un, by omega, rfl, fun j hj => by omega, by rw [hy]; rfl⟩
    · rintro i hi e ⟨r, y, s4, s6, s7, hy, rfl, hr, rfl⟩
      rw [List.length_range] at hi
      have hp := hz _ (List.getElem_mem hi)
      rw [List.getElem_range]
      have b1 : ∃ n : Nat, ((y : Int) * 48271 + 974711 * (r.length : Int) + 12345).fmod 2147483647 = n ∧ (n : Int) < 2147483647 := fmod_pos _ (by decide)
      refine Exists.elim b1 fun y1 b1 => ?_
      have e1 := b1.1
      have e2 := b1.2
      simp only [q1, q2, q3, q4, q5, e1]
      have b2 : ∃ n : Nat, ((y1 : Int) * ((y1 : Int).fdiv 65537 + 3)).fmod 2147483629 = n ∧ (n : Int) < 2147483629 := fmod_pos _ (by decide)
      refine Exists.elim b2 fun y2 b2 => ?_
      have e3 := b2.1
      have e4 := b2.2
      simp only [q1, q2, q3, q4, q5, e3, atI_dn hi]
      obtain ⟨x, hx, hx2⟩ := fmod_pos ((y2 : Int).fdiv 19) (b := (z[r.length] : Nat)) (by omega)
      refine ⟨mulOk_r (by decide), mulOk_l (by decide), by decide, by decide, mulOk_l (by omega), by decide, by decide, by omega, by omega, r ++ [x], y1, _, _, _, by omega, by simp, fun j hj => ?_, by rw [hx, ← app_dn]⟩
      rw [getD_app]
      by_cases c : j = r.length
      · rw [if_pos c, c, getD_get hi]; omega
      · rw [if_neg c]; exact hr j (by omega)
    · rintro e ⟨r, y, s4, s6, s7, hy, h1, hr, rfl⟩
      rw [List.length_range] at h1 hr
      simp only [q1, q2, q3, q4, q5]
      exact ⟨r, rfl, h1, hr⟩
end K13
/-! K13d: the law's plans. -/
namespace K13
open PySem PySem.Spec PyProof.Rows L2 VL
/-- numbers below n -/
def Bd (n : Nat) (m : List Nat) : Prop := ∀ x ∈ m, x < n
theorem Bd.get {n : Nat} {m : List Nat} (h : Bd n m) {i : Nat} (hi : i < m.length) : m.getD i 0 < n := by
  rw [getD_get hi]; exact h _ (List.getElem_mem hi)
theorem Bd.set {n : Nat} {m : List Nat} (h : Bd n m) (i v : Nat) (hv : v < n) : Bd n (m.set i v) := fun x hx => by
  rcases List.mem_or_eq_of_mem_set hx with z | z
  · exact h x z
  · rw [z]; exact hv
theorem Bd.app {n : Nat} {m : List Nat} (h : Bd n m) (v : Nat) (hv : v < n) : Bd n (m ++ [v]) := fun x hx => by
  rcases List.mem_append.mp hx with z | z
  · exact h x z
  · simp at z; omega
theorem Bd.erase {n : Nat} {m : List Nat} (h : Bd n m) (i : Nat) : Bd n (m.eraseIdx i) := fun x hx => h x (List.mem_of_mem_eraseIdx hx)
theorem Bd.zero {n : Nat} (h : 0 < n) (m : List Nat) : Bd n (m.map fun _ => 0) := fun x hx => by
  obtain ⟨_, _, rfl⟩ := List.mem_map.mp hx
  exact h
theorem erase_dn (m : List Nat) (i : Nat) : (m.map dn).eraseIdx i = (m.eraseIdx i).map dn := by
  induction m generalizing i with
  | nil => rfl
  | cons x r ih =>
    cases i with
    | zero => rfl
    | succ i => exact congrArg (dn x :: ·) (ih i)
def sumN : List Nat → Nat
  | [] => 0
  | x :: r => x + sumN r
theorem sumN_take (l : List Nat) : ∀ i, i < l.length → sumN (l.take (i + 1)) = sumN (l.take i) + l.getD i 0 ∧ sumN (l.take (i + 1)) ≤ sumN l := by
  induction l with
  | nil => intro i h; simp at h
  | cons x r ih =>
    intro i h
    cases i with
    | zero => simp [sumN]
    | succ i =>
      have := ih i (by simpa using h)
      simp only [List.take_succ_cons, sumN, List.getD_cons_succ]
      omega
/-- a plan: a list of numbers that are states -/
def Plan (n : Nat) (d : D) : Prop := ∃ m : List Nat, d = .lst (m.map dn) ∧ m.length = n ∧ Val m
def S_hidden : Sem1 := Sem1.of (α := List Nat × Nat × List Nat) [true, true, true] true (fun (r, n, g) => [.lst (r.map dn), .int n, .lst (g.map dn)])
  (fun (r, n, g) => 2 * n ≤ r.length ∧ 0 < n ∧ n ≤ 1000 ∧ (∀ x ∈ g, 0 < x) ∧ sumN g ≤ n ∧ g.length ≤ 1000) fun (_, n, _) d => Plan n d
theorem b_hidden (G : Gam) : BodyOk G n__law_hidden.length c__law_hidden S_hidden := by
  refine bodyOk_of fun ⟨r, n, g⟩ ⟨h1, h2, h3, h4, h5, h6⟩ => ?_
  show RunS G c__law_hidden [.sh (.lst (r.map dn)), .sh (.int n), .sh (.lst (g.map dn)), .un, .un, .un, .un, .un, .un, .un, .un] _
  simp only [c__law_hidden, q1, q2, q3, q4, q5]
  refine ⟨by omega, LcS_map (φ := dn) dn (by simpa using sz (by omega)) (fun x hx q hq => ?_) ?_⟩
  · simp only [q1, q2, q3, q4, q5]
    exact hq
  try simp only [q1, q2, q3, q4, q5]
  refine ⟨by decide, by omega, ForS_inv (fun i e => ∃ (l o : List Nat) (s6 : Slot), l.length = n - i ∧ o.length = i ∧ Bd n l ∧ Bd n o ∧ e = [.sh (.lst (r.map dn)), .sh (.int n), .sh (.lst (g.map dn)), .ow (l.map dn), .un, .ow (o.map dn), s6, .un, .un, .un, .un]) ⟨List.range n, [], .un, by simp, rfl, fun x hx => List.mem_range.mp hx, fun x hx => by simp at hx, rfl⟩ ?_ ?_⟩
  · rintro i hi e ⟨l, o, s6, hl, rfl, bl, bo, rfl⟩
    rw [List.length_range] at hi
    rw [List.getElem_range]
    have hr : o.length < r.length := by omega
    have hm := Nat.mod_lt (r[o.length]) (show 0 < l.length by omega)
    simp only [q1, q2, q3, q4, q5, atI_dn hr, fmod_nat, ixN_nat hm]
    refine ⟨by decide, ⟨by omega, by omega⟩, by omega, ?_⟩
    rw [List.getElem?_map, List.getElem?_eq_getElem hm]
    simp only [q1, q2, q3, q4, q5, Option.map_some]
    refine ⟨_, _, _, ?_, ?_, bl.erase _, bo.app _ (bl _ (List.getElem_mem hm)), by rw [← app_dn, ← erase_dn]⟩
    · rw [List.length_eraseIdx_of_lt hm]; omega
    · simp
  rintro e ⟨l, o, s6, hl, ho, bl, bo, rfl⟩
  rw [List.length_range] at hl ho
  subst ho
  simp only [q1, q2, q3, q4, q5]
  refine LcS_map (fun _ => .int 0) (sz (by omega)) (fun x hx q hq => ?_) ?_
  · simp only [q1, q2, q3, q4, q5]
    exact hq
  try simp only [q1, q2, q3, q4, q5]
  refine ForS_inv (fun i e => ∃ (m : List Nat) (s6 s9 : Slot), m.length = o.length ∧ Bd o.length m ∧ e = [.sh (.lst (r.map dn)), .sh (.int o.length), .sh (.lst (g.map dn)), .ow (l.map dn), .un, .ow (o.map dn), s6, .ow (m.map dn), .sh (.int (sumN (g.take i) : Nat)), s9, .un]) ⟨o.map fun _ => 0, s6, .un, by simp, Bd.zero h2 _, ?_⟩ ?_ ?_
  · simp only [q3, List.map_map, List.take_zero, sumN]
    rfl
  · rintro i hi e ⟨m, s6, s9, hm, bm, rfl⟩
    obtain ⟨e1, e2⟩ := sumN_take g i hi
    have hp := h4 _ (List.getElem_mem hi)
    rw [getD_get hi] at e1
    simp only [q1, q2, q3, q4, q5]
    refine ⟨by omega, ForS_inv (fun k e => ∃ (m : List Nat) (s6 : Slot), m.length = o.length ∧ Bd o.length m ∧ e = [.sh (.lst (r.map dn)), .sh (.int o.length), .sh (.lst (g.map dn)), .ow (l.map dn), .un, .ow (o.map dn), s6, .ow (m.map dn), .sh (.int (sumN (g.take i) : Nat)), .sh (.int (g[i] : Nat)), .un]) ⟨m, s6, hm, bm, rfl⟩ ?_ ?_⟩
    · rintro k hk e ⟨m, s6, hm, bm, rfl⟩
      rw [List.length_range] at hk
      rw [List.getElem_range]
      have a1 : sumN (g.take i) + k < o.length := by omega
      have a2 := Nat.mod_lt (k + 1) hp
      have a3 : sumN (g.take i) + (k + 1) % g[i] < o.length := by omega
      have a4 := bo.get a1
      have a5 := bo.get a3
      have c1 : ((sumN (g.take i) : Nat) : Int) + (k : Int) = ((sumN (g.take i) + k : Nat) : Int) := by omega
      have c2 : ((k : Nat) : Int) + 1 = ((k + 1 : Nat) : Int) := by omega
      have c3 : ((sumN (g.take i) : Nat) : Int) + (((k + 1) % g[i] : Nat) : Int) = ((sumN (g.take i) + (k + 1) % g[i] : Nat) : Int) := by omega
      simp only [q1, q2, q3, q4, q5, c1, c2, fmod_nat, c3, atI_dn' a1, atI_dn' a3]
      rw [ixN_nat (by omega)]
      simp only [q3]
      exact ⟨by omega, m.set (o.getD (sumN (g.take i) + k) 0) _, _, by rw [List.length_set]; exact hm, bm.set _ _ a5, by rw [← set_dn]⟩
    · rintro e ⟨m, s6, hm, bm, rfl⟩
      simp only [q1, q2, q3, q4, q5]
      exact ⟨m, _, _, hm, bm, by rw [e1]; rfl⟩
  · rintro e ⟨m, s6, s9, hm, bm, rfl⟩
    rw [List.take_length]
    simp only [q1, q2, q3, q4, q5]
    have c0 : ((o.length : Int) - (sumN g : Int)).toNat = o.length - sumN g := by omega
    rw [c0]
    refine ⟨by omega, ForS_inv (fun k e => ∃ (m : List Nat) (s10 : Slot), m.length = o.length ∧ Bd o.length m ∧ e = [.sh (.lst (r.map dn)), .sh (.int o.length), .sh (.lst (g.map dn)), .ow (l.map dn), .un, .ow (o.map dn), s6, .ow (m.map dn), .sh (.int (sumN g : Nat)), s9, s10]) ⟨m, .un, hm, bm, rfl⟩ ?_ ?_⟩
    · rintro k hk e ⟨m, s10, hm, bm, rfl⟩
      rw [List.length_range] at hk
      rw [List.getElem_range]
      have a1 : sumN g + k < o.length := by omega
      have a0 : o.length + (sumN g + k) < r.length := by omega
      have a2 := Nat.mod_lt (r.getD (o.length + (sumN g + k)) 0) (show 0 < sumN g + k + 1 by omega)
      have a3 : r.getD (o.length + (sumN g + k)) 0 % (sumN g + k + 1) < o.length := by omega
      have a4 := bo.get a1
      have a5 := bo.get a3
      have c1 : ((sumN g : Nat) : Int) + (k : Int) = ((sumN g + k : Nat) : Int) := by omega
      have c2 : ((o.length : Nat) : Int) + ((sumN g + k : Nat) : Int) = ((o.length + (sumN g + k) : Nat) : Int) := by omega
      have c3 : ((sumN g + k : Nat) : Int) + 1 = ((sumN g + k + 1 : Nat) : Int) := by omega
      simp only [q1, q2, q3, q4, q5, c1, c2, c3, fmod_nat, atI_dn' a0, atI_dn' a1, atI_dn' a3]
      rw [ixN_nat (by omega)]
      simp only [q3]
      exact ⟨by omega, m.set (o.getD (sumN g + k) 0) _, _, by rw [List.length_set]; exact hm, bm.set _ _ a5, by rw [← set_dn]⟩
    · rintro e ⟨m, s10, hm, bm, rfl⟩
      simp only [q1, q2, q3, q4, q5]
      exact ⟨m, rfl, hm, by rw [← hm] at bm; exact bm⟩
def S_crossed : Sem1 := Sem1.of (α := Nat × Nat) [true, true] true (fun (n, w) => [.int n, .int w]) (fun (n, w) => 6 ≤ n ∧ n ≤ 100 ∧ w < 3) fun (n, _) d => Plan n d
theorem b_crossed (G : Gam) : BodyOk G n__law_crossed.length c__law_crossed S_crossed := by
  refine bodyOk_of fun ⟨n, w⟩ ⟨h1, h2, h3⟩ => ?_
  show RunS G c__law_crossed [.sh (.int n), .sh (.int w), .un, .un] _
  have e1 : atI ([.int 0, .int 3, .int 1] : List D) (w : Int) = some (.int (([0, 3, 1] : List Nat).getD w 0 : Nat)) := by
    rw [show ([.int 0, .int 3, .int 1] : List D) = ([0, 3, 1] : List Nat).map dn from rfl, atI_dn' (by simpa using h3)]
  have e2 : atI ([.int 1, .int 1, .int 2] : List D) (w : Int) = some (.int (([1, 1, 2] : List Nat).getD w 0 : Nat)) := by
    rw [show ([.int 1, .int 1, .int 2] : List D) = ([1, 1, 2] : List Nat).map dn from rfl, atI_dn' (by simpa using h3)]
  have l1 : ([0, 3, 1] : List Nat).getD w 0 < n := by
    rcases w with _ | _ | _ | w <;> simp <;> omega
  have l2 : ([1, 1, 2] : List Nat).getD w 0 < n := by
    rcases w with _ | _ | _ | w <;> simp <;> omega
  simp only [c__law_crossed, q1, q2, q3, q4, q5, e1]
  refine ⟨by decide, by decide, by omega, ForS_inv (fun i e => ∃ (m : List Nat) (s3 : Slot), m.length = 3 + i ∧ Bd n m ∧ e = [.sh (.int n), .sh (.int w), .ow (m.map dn), s3]) ⟨[3, n - 1, ([0, 3, 1] : List Nat).getD w 0], .un, rfl, ?_, ?_⟩ ?_ ?_⟩
  · intro x hx
    simp only [List.mem_cons, List.not_mem_nil, or_false] at hx
    omega
  · simp only [q3, q5]
    rw [show ((n - 1 : Nat) : Int) = (n : Int) - 1 by omega]
    rfl
  · rintro i hi e ⟨m, s3, hm, bm, rfl⟩
    rw [List.length_range] at hi
    rw [List.getElem_range]
    have hi : i < n - 4 := by omega
    simp only [q1, q2, q3, q4, q5]
    have e3 : ∀ a b : D, atI [a, b] 1 = some b := fun _ _ => rfl
    have e4 : ∀ a b : D, atI [a, b] 0 = some a := fun _ _ => rfl
    by_cases c : (3 + (i : Int)) = (n : Int) - 2
    · simp only [c, decide_true, q1, q2, q3, q4, q5, if_true, e3]
      exact ⟨by decide, by omega, m ++ [3], _, by simp; omega, bm.app 3 (by omega), by rw [← app_dn]; rfl⟩
    · simp only [c, decide_false, q1, q2, q3, q4, q5, if_false, e4]
      exact ⟨by decide, by omega, m ++ [3 + i + 1], .sh (.int (3 + (i : Int))), by simp; omega, bm.app _ (by omega), by rw [← app_dn]; simp⟩
  · rintro e ⟨m, s3, hm, bm, rfl⟩
    rw [List.length_range] at hm
    simp only [q1, q2, q3, q4, q5, e2]
    refine ⟨by decide, by decide, sz (by omega), m ++ [([1, 1, 2] : List Nat).getD w 0], by rw [← app_dn], by simp; omega, ?_⟩
    have := bm.app _ l2
    intro x hx
    have := this x hx
    simp
    omega
def S_chain : Sem1 := Sem1.of (α := List Nat) [true] true (fun r => [.lst (r.map dn)]) (fun r => r.length = 4 ∧ r.getD 0 0 < 10 ∧ r.getD 1 0 < 8 ∧ r.getD 3 0 < 12) fun _ d => ∃ n, 0 < n ∧ n ≤ 1000 ∧ Plan n d
theorem b_chain (G : Gam) : BodyOk G n__law_chain.length c__law_chain S_chain := by
  refine bodyOk_of fun r ⟨h0, h1, h2, h3⟩ => ?_
  show RunS G c__law_chain [.sh (.lst (r.map dn)), .un, .un, .un, .un, .un, .un] _
  have f0 : atI (r.map dn) 0 = some (.int (r.getD 0 0 : Nat)) := atI_dn' (i := 0) (by omega)
  have f1 : atI (r.map dn) 1 = some (.int (r.getD 1 0 : Nat)) := atI_dn' (i := 1) (by omega)
  have f2 : atI (r.map dn) 2 = some (.int (r.getD 2 0 : Nat)) := atI_dn' (i := 2) (by omega)
  have f3 : atI (r.map dn) 3 = some (.int (r.getD 3 0 : Nat)) := atI_dn' (i := 3) (by omega)
  have g0 : atI ([.int 13, .int 17, .int 23, .int 31, .int 47, .int 61, .int 97, .int 199, .int 200, .int 1000] : List D) (r.getD 0 0 : Nat) = some (.int (([13, 17, 23, 31, 47, 61, 97, 199, 200, 1000] : List Nat).getD (r.getD 0 0) 0 : Nat)) :=
    atI_dn' (m := [13, 17, 23, 31, 47, 61, 97, 199, 200, 1000]) h1
  have g1 : atI ([.int 1, .int 3, .int 7, .int 9, .int 11, .int 19, .int 21, .int 27] : List D) (r.getD 1 0 : Nat) = some (.int (([1, 3, 7, 9, 11, 19, 21, 27] : List Nat).getD (r.getD 1 0) 0 : Nat)) :=
    atI_dn' (m := [1, 3, 7, 9, 11, 19, 21, 27]) h2
  have b0 : 13 ≤ ([13, 17, 23, 31, 47, 61, 97, 199, 200, 1000] : List Nat).getD (r.getD 0 0) 0 ∧ ([13, 17, 23, 31, 47, 61, 97, 199, 200, 1000] : List Nat).getD (r.getD 0 0) 0 ≤ 1000 := by
    generalize r.getD 0 0 = x at h1
    match x, h1 with
    | 0, _ | 1, _ | 2, _ | 3, _ | 4, _ | 5, _ | 6, _ | 7, _ | 8, _ | 9, _ => decide
  have b1 : ([1, 3, 7, 9, 11, 19, 21, 27] : List Nat).getD (r.getD 1 0) 0 < 100 := by
    generalize r.getD 1 0 = x at h2
    match x, h2 with
    | 0, _ | 1, _ | 2, _ | 3, _ | 4, _ | 5, _ | 6, _ | 7, _ => decide
  generalize hn : ([13, 17, 23, 31, 47, 61, 97, 199, 200, 1000] : List Nat).getD (r.getD 0 0) 0 = n at g0 b0
  generalize hp : ([1, 3, 7, 9, 11, 19, 21, 27] : List Nat).getD (r.getD 1 0) 0 = p at g1 b1
  simp only [c__law_chain, q1, q2, q3, q4, q5, f0, f1, f2, f3, g0, g1]
  refine ⟨by decide, by decide, by omega, LcS_map (φ := dn) (fun x => .int ((p * x + r.getD 2 0) % n : Nat)) (by simpa using sz (by omega)) (fun x hx q hq => ?_) ?_⟩
  · have c1 : (p : Int) * (x : Int) + ((r.getD 2 0 : Nat) : Int) = ((p * x + r.getD 2 0 : Nat) : Int) := by simp
    simp only [q1, q2, q3, q4, q5, f2, c1, fmod_nat]
    exact ⟨mulOk_l (by omega), by omega, hq⟩
  have eo : (List.range n).map (fun x => D.int ((p * x + r.getD 2 0) % n : Nat)) = ((List.range n).map fun x => (p * x + r.getD 2 0) % n).map dn := by
    rw [List.map_map]; rfl
  have bo : Bd n ((List.range n).map fun x => (p * x + r.getD 2 0) % n) := fun x hx => by
    obtain ⟨y, _, rfl⟩ := List.mem_map.mp hx
    exact Nat.mod_lt _ (by omega)
  have lo : ((List.range n).map fun x => (p * x + r.getD 2 0) % n).length = n := by simp
  rw [eo]
  generalize ((List.range n).map fun x => (p * x + r.getD 2 0) % n) = o at bo lo
  try simp only [q1, q2, q3, q4, q5]
  refine LcS_map (fun _ => .int 0) (sz (by omega)) (fun x hx q hq => ?_) ?_
  · simp only [q1, q2, q3, q4, q5]
    exact hq
  try simp only [q1, q2, q3, q4, q5]
  refine ⟨by omega, ForS_inv (fun i e => ∃ (m : List Nat) (s4 : Slot), m.length = n ∧ Bd n m ∧ e = [.sh (.lst (r.map dn)), .sh (.int n), .sh (.int p), .sh (.lst (o.map dn)), s4, .ow (m.map dn), .un]) ⟨o.map fun _ => 0, .un, by simpa using lo, Bd.zero (by omega) _, ?_⟩ ?_ ?_⟩
  · simp only [q3, List.map_map]
    rfl
  · rintro i hi e ⟨m, s4, hm, bm, rfl⟩
    rw [List.length_range] at hi
    rw [List.getElem_range]
    have hi : i + 1 < o.length := by omega
    have a1 := bo.get (show i < o.length by omega)
    have a2 := bo.get hi
    have c1 : (i : Int) + 1 = ((i + 1 : Nat) : Int) := by omega
    simp only [q1, q2, q3, q4, q5, c1, atI_dn' (show i < o.length by omega), atI_dn' hi]
    rw [ixN_nat (by omega)]
    simp only [q3]
    exact ⟨m.set (o.getD i 0) _, _, by rw [List.length_set]; exact hm, bm.set _ _ a2, by rw [← set_dn]⟩
  · rintro e ⟨m, s4, hm, bm, rfl⟩
    have c1 : (n : Int) - 1 = ((n - 1 : Nat) : Int) := by omega
    have c2 : ((n - 1 : Nat) : Int) - ((r.getD 3 0 : Nat) : Int) = ((n - 1 - r.getD 3 0 : Nat) : Int) := by omega
    have a1 := bo.get (show n - 1 < o.length by omega)
    have a2 := bo.get (show n - 1 - r.getD 3 0 < o.length by omega)
    simp only [q1, q2, q3, q4, q5, f3, c1, c2, atI_dn' (show n - 1 < o.length by omega), atI_dn' (show n - 1 - r.getD 3 0 < o.length by omega)]
    rw [ixN_nat (by omega)]
    simp only [q1, q2, q3, q4, q5]
    exact ⟨n, by omega, by omega, m.set (o.getD (n - 1) 0) _, by rw [← set_dn], by rw [List.length_set]; exact hm, by
      have := bm.set (o.getD (n - 1) 0) _ a2
      intro x hx
      rw [List.length_set, hm]
      exact this x hx⟩
end K13
/-! K13e: the law's own rings and ends; the comparison; the law. -/
namespace K13
open PySem PySem.Spec PyProof.Rows L2 VL
def S_lring : Sem1 := Sem1.of (α := List Nat) [false] false (fun m => [.lst (m.map dn)]) (fun m => Val m ∧ m.length ≤ 2000) fun m d => ∃ r, d = rgD r ∧ RingOf m r
theorem b_lring (G : Gam) : BodyOk G n__law_ring.length c__law_ring S_lring := by
  refine bodyOk_of fun m ⟨v, hl⟩ => ?_
  show RunS G c__law_ring [.bo (.lst (m.map dn)), .un, .un, .un, .un] _
  simp only [c__law_ring, q1, q2, q3, q4, q5]
  refine ⟨by omega, ForS_inv (fun i e => ∃ s1 s2 s3 s4, (∀ s, s < i → ¬ NF (fm m) s) ∧ e = [.bo (.lst (m.map dn)), s1, s2, s3, s4]) ⟨_, _, _, _, fun s hs => by omega, rfl⟩ ?_ ?_⟩
  · rintro i hi e ⟨s1, s2, s3, s4, nf, rfl⟩
    rw [List.length_range] at hi
    rw [List.getElem_range]
    have e1 : atI (m.map dn) (i : Int) = some (.int ((itr (fm m) 1 i : Nat) : Int)) := atI_dn' hi
    simp only [q1, q2, q3, q4, q5, e1]
    refine ⟨by decide, by omega, ForS_inv (fun k e => ∃ s4, (∀ q, 0 < q → q ≤ k → itr (fm m) q i ≠ i) ∧ e = [.bo (.lst (m.map dn)), .sh (.int i), .ow ((orb (fm m) i (k + 1)).map dn), .sh (.int (itr (fm m) (k + 1) i : Nat)), s4]) ⟨s4, fun q h1 h2 => by omega, rfl⟩ ?_ ?_⟩
    · rintro k hk e ⟨s4, hq, rfl⟩
      rw [List.length_range] at hk
      rw [List.getElem_range]
      have e2 : atI (m.map dn) ((itr (fm m) (k + 1) i : Nat) : Int) = some (.int ((itr (fm m) (k + 2) i : Nat) : Int)) := by
        rw [atI_dn' (itr_lt v hi _)]; rfl
      simp only [q1, q2, q3, q4, q5, orb_len]
      by_cases c : itr (fm m) (k + 1) i = i
      · have pk : Per (fm m) i (k + 1) := ⟨by omega, c, fun q h1 h2 => hq q h1 (by omega)⟩
        simp only [c, decide_true, q1, q2, q3, q4, q5, orb_len]
        by_cases c2 : (2 : Int) ≤ ((k + 1 : Nat) : Int)
        · simp only [c2, decide_true, q1, q2, q3, q4, q5]
          have ne : fm m i ≠ i := hq 1 (by omega) (by omega)
          exact ⟨some _, rfl, i, k + 1, hi, ⟨ne, k + 1, by omega, c⟩, pk, rfl, nf⟩
        · simp only [c2, decide_false, q1, q2, q3, q4, q5]
          refine ⟨_, _, _, _, fun s hs => ?_, rfl⟩
          rcases Nat.lt_or_ge s i with z | z
          · exact nf s z
          · have : s = i := by omega
            subst this
            have : k = 0 := by omega
            subst this
            exact fun z => z.1 c
      · have c' : ((itr (fm m) (k + 1) i : Nat) : Int) ≠ (i : Int) := by omega
        simp only [c', decide_false, q1, q2, q3, q4, q5, orb_len, e2]
        refine ⟨by omega, _, fun q h1 h2 => ?_, by rw [orb_succ _ _ (k + 1), ← app_dn]⟩
        rcases Nat.lt_or_ge q (k + 1) with z | z
        · exact hq q h1 (by omega)
        · rw [show q = k + 1 by omega]; exact c
    · rintro e ⟨s4, hq, rfl⟩
      rw [List.length_range] at hq ⊢
      have np : ∀ p, 0 < p → itr (fm m) p i ≠ i := fun p h1 h2 => by
        obtain ⟨p, hp⟩ := per_of h1 h2
        exact hq p hp.1 (hp.le v hi) hp.2.1
      have c' : ((itr (fm m) (m.length + 1) i : Nat) : Int) ≠ (i : Int) := by
        have := np (m.length + 1) (by omega)
        omega
      simp only [q1, q2, q3, q4, q5, c', decide_false]
      refine ⟨_, _, _, _, fun s hs => ?_, rfl⟩
      rcases Nat.lt_or_ge s i with z | z
      · exact nf s z
      · have : s = i := by omega
        subst this
        exact fun ⟨_, p, h1, h2⟩ => np p h1 h2
  · rintro e ⟨s1, s2, s3, s4, nf, rfl⟩
    rw [List.length_range] at nf
    simp only [q1, q2, q3, q4, q5]
    exact ⟨none, rfl, nf⟩
def endsOf (m : List Nat) : List Nat := (List.range m.length).map fun s => itr (fm m) m.length s
def S_lends : Sem1 := Sem1.of (α := List Nat) [false] false (fun m => [.lst (m.map dn)]) (fun m => Val m ∧ m.length ≤ 2000) fun m d => d = .tup ((endsOf m).map dn)
theorem b_lends (G : Gam) : BodyOk G n__law_ends.length c__law_ends S_lends := by
  refine bodyOk_of fun m ⟨v, hl⟩ => ?_
  show RunS G c__law_ends [.bo (.lst (m.map dn)), .un, .un, .un, .un] _
  simp only [c__law_ends, q1, q2, q3, q4, q5]
  refine ⟨by decide, by omega, ForS_inv (fun i e => ∃ s2 s3 s4, e = [.bo (.lst (m.map dn)), .ow (((List.range i).map fun s => itr (fm m) m.length s).map dn), s2, s3, s4]) ⟨_, _, _, rfl⟩ ?_ ?_⟩
  · rintro i hi e ⟨s2, s3, s4, rfl⟩
    rw [List.length_range] at hi
    rw [List.getElem_range]
    simp only [q1, q2, q3, q4, q5]
    refine ⟨by omega, ForS_inv (fun k e => ∃ s4, e = [.bo (.lst (m.map dn)), .ow (((List.range i).map fun s => itr (fm m) m.length s).map dn), .sh (.int i), .sh (.int (itr (fm m) k i : Nat)), s4]) ⟨_, rfl⟩ ?_ ?_⟩
    · rintro k hk e ⟨s4, rfl⟩
      have e2 : atI (m.map dn) ((itr (fm m) k i : Nat) : Int) = some (.int ((itr (fm m) (k + 1) i : Nat) : Int)) := by
        rw [atI_dn' (itr_lt v hi _)]; rfl
      simp only [q1, q2, q3, q4, q5, e2]
      exact ⟨_, rfl⟩
    · rintro e ⟨s4, rfl⟩
      simp only [q1, q2, q3, q4, q5]
      exact ⟨by omega, .sh (.int i), .sh (.int (itr (fm m) m.length i : Nat)), s4, by rw [app_dn, List.range_succ]; simp⟩
  · rintro e ⟨s2, s3, s4, rfl⟩
    simp only [q1, q2, q3, q4, q5]
    rfl
def G_same : Gam := Gam.none.add "_law_whole" S_whole
def S_same : Sem1 := Sem1.of (α := Option (List Nat) × Option (List Nat)) [true, true] false (fun (a, b) => [rgD a, rgD b]) (fun (a, _) => ∀ l, a = some l → l.length ≤ 2000) fun (a, b) d => d = .bl (decide (a = b))
theorem b_same : BodyOk G_same n__law_same.length c__law_same S_same := by
  refine bodyOk_of fun ⟨a, b⟩ ha => ?_
  show RunS G_same c__law_same [.sh (rgD a), .sh (rgD b), .un] _
  cases a with
  | none =>
    cases b with
    | none =>
      simp only [c__law_same, rgD, q1, q2, q3, q4, q5]
    | some y =>
      simp only [c__law_same, rgD, q1, q2, q3, q4, q5]
      simp
  | some x =>
    cases b with
    | none =>
      simp only [c__law_same, rgD, q1, q2, q3, q4, q5]
      simp
    | some y =>
      simp only [c__law_same, rgD, q1, q2, q3, q4, q5, q6]
      by_cases c : x.length = y.length
      · have c' : (x.length : Int) = (y.length : Int) := by omega
        simp only [c', decide_true, q1, q2, q3, q4, q5, eqD_tn]
        by_cases h : x = y
        · subst h
          have gf : G_same.fn (Str.ofString "_law_whole") = some S_whole := by rfl
          simp only [decide_true, q1, q2, q3, q4, q5]
          refine LcS_map (fun _ => .bl true) (sz (by have := ha x rfl; omega)) (fun n hn q hq => ?_) ?_
          · simp only [q1, q2, q3, q4, q5, gf, S_whole, Sem1.of]
            refine ⟨n, rfl, fun d hd => ?_⟩
            subst hd
            exact hq
          · have : (x.map fun _ => D.bl true) = (x.map fun _ => true).map D.bl := by rw [List.map_map]; rfl
            rw [this]
            simp only [q1, q2, q3, q4, q5, inD_bls]
            simp
        · simp only [h, decide_false, q1, q2, q3, q4, q5]
          simp [h]
      · have c' : (x.length : Int) ≠ (y.length : Int) := by omega
        have h : x ≠ y := fun e => c (by rw [e])
        simp only [c', decide_false, q1, q2, q3, q4, q5]
        simp [h]
def G_right : Gam := ((((((Gam.none.add "ring_of" S_ring_of).add "settled" S_settled).add "then" S_then).add "_law_same" S_same).add "_law_ring" S_lring).add "_law_ends" S_lends)
def S_right : Sem1 := Sem1.of (α := List Nat × Option (List Nat)) [true, true, true] false (fun (m, r) => [.lst (m.map dn), rgD r, .tup ((endsOf m).map dn)]) (fun (m, r) => Val m ∧ 0 < m.length ∧ m.length ≤ 1000 ∧ RingOf m r) fun _ d => d = .bl true
theorem ring_len {m : List Nat} (v : Val m) {r : Option (List Nat)} (h : RingOf m r) (l : List Nat) (e : r = some l) : l.length ≤ m.length := by
  subst e
  obtain ⟨t, p, h1, _, h3, rfl, _⟩ := h
  rw [orb_len]
  exact h3.le v h1
theorem ends_len (m : List Nat) : (endsOf m).length = m.length := by simp [endsOf]
theorem w_ring {b : Bool} {m : List Nat} (v : Val m) (hl : m.length ≤ 2000) {r : Option (List Nat)} (h : RingOf m r) {Q : D → Prop} (q : Q (rgD r)) : S_ring_of.wp [sqD b (m.map dn)] Q :=
  ⟨(b, m), rfl, ⟨v, hl⟩, fun d ⟨r', e, h'⟩ => by rw [e, ringOf_uniq h' h]; exact q⟩
theorem w_settled {b : Bool} {m : List Nat} (v : Val m) (hl : m.length ≤ 2000) {Q : D → Prop} (q : Q (.tup ((endsOf m).map dn))) : S_settled.wp [sqD b (m.map dn)] Q :=
  ⟨(b, m), rfl, ⟨v, hl⟩, fun d e => by rw [e]; exact q⟩
theorem w_same {a b : Option (List Nat)} (hl : ∀ l, a = some l → l.length ≤ 2000) {Q : D → Prop} (q : Q (.bl (decide (a = b)))) : S_same.wp [rgD a, rgD b] Q :=
  ⟨(a, b), rfl, hl, fun d e => by rw [e]; exact q⟩
theorem b_right : BodyOk G_right n__law_right.length c__law_right S_right := by
  refine bodyOk_of fun ⟨m, r⟩ ⟨v, h0, hl, hr⟩ => ?_
  show RunS G_right c__law_right [.sh (.lst (m.map dn)), .sh (rgD r), .sh (.tup ((endsOf m).map dn)), .un, .un, .un, .un, .un] _
  have g1 : G_right.fn (Str.ofString "ring_of") = some S_ring_of := by rfl
  have g2 : G_right.fn (Str.ofString "settled") = some S_settled := by rfl
  have g3 : G_right.fn (Str.ofString "then") = some S_then := by rfl
  have g4 : G_right.fn (Str.ofString "_law_same") = some S_same := by rfl
  have g5 : G_right.fn (Str.ofString "_law_ring") = some S_lring := by rfl
  have g6 : G_right.fn (Str.ofString "_law_ends") = some S_lends := by rfl
  have r1 : S_ring_of.fr = [false] ∧ S_ring_of.nw = false := ⟨rfl, rfl⟩
  have r2 : S_settled.fr = [false] ∧ S_settled.nw = false := ⟨rfl, rfl⟩
  have r3 : S_then.fr = [true, true] ∧ S_then.nw = false := ⟨rfl, rfl⟩
  have r4 : S_same.fr = [true, true] ∧ S_same.nw = false := ⟨rfl, rfl⟩
  have r5 : S_lring.fr = [false] ∧ S_lring.nw = false := ⟨rfl, rfl⟩
  have r6 : S_lends.fr = [false] ∧ S_lends.nw = false := ⟨rfl, rfl⟩
  have lr := ring_len v hr
  have le : ∀ l, some (endsOf m) = some l → l.length ≤ 2000 := fun l e => by cases e; rw [ends_len]; omega
  have gs := And.intro g1 <| And.intro g2 <| And.intro g3 <| And.intro g4 <| And.intro g5 <| And.intro g6 <| And.intro r1 <| And.intro r2 <| And.intro r3 <| And.intro r4 <| And.intro r5 r6
  simp only [c__law_right, q1, q2, q3, q4, q5, gs]
  refine w_ring (b := false) v (by omega) hr ?_
  refine w_same (fun l e => by have := lr l e; omega) ?_
  simp only [decide_true, q1, q2, q3, q4, q5, eqD_ln, gs]
  refine w_settled (b := false) v (by omega) ?_
  refine w_same (a := some _) (b := some _) le ?_
  have f0 : atI (m.map dn) 0 = some (.int (m.getD 0 0 : Nat)) := atI_dn' (i := 0) (by omega)
  have c1 : ((m.getD 0 0 : Nat) : Int) + 1 = ((m.getD 0 0 + 1 : Nat) : Int) := by omega
  have c2 : ixN m.length 0 = some 0 := ixN_nat (i := 0) (by omega)
  have c3 : ∀ l : List Nat, l.map dn ++ [.int 0] = (l ++ [0]).map dn := fun l => app_dn l 0
  simp only [decide_true, q1, q2, q3, q4, q5, eqD_ln, gs, f0, c1, fmod_nat, c2, set_dn, c3]
  refine ⟨by omega, by omega, ?_⟩
  refine w_ring (b := true) v (by omega) hr ?_
  refine w_same (fun l e => by have := lr l e; omega) ?_
  simp only [decide_true, q1, q2, q3, q4, q5, gs]
  refine w_settled (b := true) v (by omega) ?_
  refine w_same (a := some _) (b := some _) le ?_
  have hm := Nat.mod_lt (m.getD 0 0 + 1) h0
  have vh : Val (m.set 0 ((m.getD 0 0 + 1) % m.length) ++ [0]) := fun x hx => by
    rcases List.mem_append.mp hx with z | z
    · rcases List.mem_or_eq_of_mem_set z with y | y
      · have := v x y; simp; omega
      · simp; omega
    · simp at z; simp; omega
  have lh : (m.set 0 ((m.getD 0 0 + 1) % m.length) ++ [0]).length = m.length + 1 := by simp
  generalize m.set 0 ((m.getD 0 0 + 1) % m.length) ++ [0] = h at vh lh
  simp only [decide_true, q1, q2, q3, q4, q5, gs]
  -- behind the handed list
  have fin : ∀ s3 s4 s5 : Slot, wS G_right (.seq (.asg 6 (.bf .tuple_ (.cons (.lc [7] (.nm 7) (.iv (.sv 2)) (.no) (.ix (.v 0) (.v 7))) .nil))) (.seq (.ifS (.not (.fn "_law_same" (.cons (.fn "then" (.cons (.bf .list_ (.cons (.v 2) .nil)) (.cons (.bf .list_ (.cons (.v 0) .nil)) .nil))) (.cons (.v 6) .nil)))) (.seq (.ret (.k (.bl false))) .nil) (.nil)) (.seq (.ret (.cmp .Eq (.cmp .Eq (.v 6) (.v 2)) (.cmp .Is (.v 1) (.k .non)))) .nil)))
      [.sh (.lst (m.map dn)), .sh (rgD r), .sh (.tup ((endsOf m).map dn)), s3, s4, s5, .un, .un] (VL.fin false fun d => d = .bl true) := fun s3 s4 s5 => by
    simp only [q1, q2, q3, q4, q5, gs]
    refine LcS_map (fun x => .int ((fm m x : Nat) : Int)) (sz (by rw [ends_len]; omega)) (fun x hx q hq => ?_) ?_
    · have hx : x < m.length := by
        obtain ⟨y, hy, rfl⟩ := List.mem_map.mp hx
        exact itr_lt v (List.mem_range.mp hy) _
      simp only [q1, q2, q3, q4, q5, atI_dn' hx]
      exact hq
    have eo : (endsOf m).map (fun x => D.int ((fm m x : Nat) : Int)) = ((endsOf m).map fun x => fm m x).map dn := by rw [List.map_map]; rfl
    rw [eo]
    try simp only [q1, q2, q3, q4, q5, gs]
    refine ⟨(endsOf m, m), rfl, ⟨by rw [ends_len], by rw [ends_len]; omega, fun x hx => ?_⟩, fun d hd => ?_⟩
    · obtain ⟨y, hy, rfl⟩ := List.mem_map.mp hx
      exact itr_lt v (List.mem_range.mp hy) _
    subst hd
    refine w_same (a := some ((endsOf m).map fun x => fm m x)) (b := some _) (fun l e => by cases e; rw [List.length_map, ends_len]; omega) ?_
    simp only [decide_true, q1, q2, q3, q4, q5, gs, eqD_tn]
    have key := ends_iff v hr
    have key : ((endsOf m).map (fun x => fm m x) = endsOf m) ↔ r = none := by
      rw [← key]; unfold endsOf; rw [List.map_map]; rfl
    cases r with
    | none =>
      have := key.mpr rfl
      simp only [this, decide_true, rgD, q1, q2, q3, q4, q5]
      rfl
    | some c =>
      have : (endsOf m).map (fun x => fm m x) ≠ endsOf m := fun e => by have := key.mp e; cases this
      simp only [this, decide_false, rgD, q1, q2, q3, q4, q5]
      rfl
  by_cases c : ((h.length : Nat) : Int) ≤ 14
  · simp only [c, decide_true, q1, q2, q3, q4, q5, gs]
    refine ⟨h, rfl, ⟨vh, by omega⟩, ?_⟩
    rintro d ⟨r2, rfl, hr2⟩
    refine ⟨h, rfl, ⟨vh, by omega⟩, fun d hd => ?_⟩
    subst hd
    refine w_ring (b := false) vh (by omega) hr2 ?_
    refine w_same (fun l e => by have := ring_len vh hr2 l e; omega) ?_
    simp only [decide_true, q1, q2, q3, q4, q5, gs]
    refine w_settled (b := false) vh (by omega) ?_
    refine w_same (a := some _) (b := some _) (fun l e => by cases e; rw [ends_len]; omega) ?_
    simp only [decide_true, Bool.not_true, brQ_f, blQ_b, sq_n, qs_nil]
    exact fin _ _ _
  · simp only [c, decide_false, Bool.not_true, brQ_f, blQ_b, sq_n, qs_nil]
    exact fin _ _ _
end K13
/-! K13f: the law's body. -/
namespace K13
open PySem PySem.Spec PyProof.Rows L2 VL
def G_law : Gam := ((((((((((Gam.none.add "_law_cell" S_cell).add "_law_digits" S_digits).add "_law_hidden" S_hidden).add "_law_crossed" S_crossed).add "_law_chain" S_chain).add "_law_ring" S_lring).add "_law_ends" S_lends).add "_law_right" S_right).add "_law_same" S_same).add "ring_of" S_ring_of).add "settled" S_settled
def S_law : Sem1 := Sem1.of (α := List Int) [true] false (fun ns => [.scr ns]) (fun _ => True) fun _ d => d = .bl true
def tl : Nat → S → S
  | 0, s => s
  | n + 1, .seq _ r => tl n r
  | _, s => s
theorem w_cell {ns : List Int} {z : Int} {k : Nat} (e : z = k) (hk : k ≤ 10) {Q : D → Prop} (q : ∀ c : Int, Q (.int c)) : S_cell.wp [.scr ns, .int z] Q := by
  subst e
  exact ⟨(ns, k), rfl, hk, fun d ⟨c, e⟩ => by rw [e]; exact q c⟩
theorem w_digits {c : Int} {z : List Nat} {zs : List D} (e : zs = z.map dn) (h : (decide (z.length ≤ 1000) && z.all fun x => decide (0 < x) && decide (x < 1000000)) = true) {Q : D → Prop}
    (q : ∀ r : List Nat, r.length = z.length → (∀ i, i < z.length → r.getD i 0 < z.getD i 0) → Q (.lst (r.map dn))) : S_digits.wp [.int c, .lst zs] Q := by
  subst e
  simp only [Bool.and_eq_true, decide_eq_true_eq, List.all_eq_true] at h
  exact ⟨(c, z), rfl, h, fun d ⟨r, e, h1, h2⟩ => by rw [e]; exact q r h1 h2⟩
def lD (m : List Nat) : D := .lst (m.map dn)
theorem lD_eq (m : List Nat) : lD m = .lst (m.map dn) := rfl
def Ok (m : List Nat) : Prop := Val m ∧ 0 < m.length ∧ m.length ≤ 1000
theorem gf1 : G_law.fn (Str.ofString "_law_cell") = some S_cell := by rfl
theorem gf2 : G_law.fn (Str.ofString "_law_digits") = some S_digits := by rfl
theorem gf3 : G_law.fn (Str.ofString "_law_hidden") = some S_hidden := by rfl
theorem gf4 : G_law.fn (Str.ofString "_law_crossed") = some S_crossed := by rfl
theorem gf5 : G_law.fn (Str.ofString "_law_chain") = some S_chain := by rfl
theorem gf6 : G_law.fn (Str.ofString "_law_ring") = some S_lring := by rfl
theorem gf7 : G_law.fn (Str.ofString "_law_ends") = some S_lends := by rfl
theorem gf8 : G_law.fn (Str.ofString "_law_right") = some S_right := by rfl
theorem gf9 : G_law.fn (Str.ofString "_law_same") = some S_same := by rfl
theorem gf10 : G_law.fn (Str.ofString "ring_of") = some S_ring_of := by rfl
theorem gf11 : G_law.fn (Str.ofString "settled") = some S_settled := by rfl
theorem rf1 : S_cell.fr = [true, true] ∧ S_cell.nw = false := ⟨rfl, rfl⟩
theorem rf2 : S_digits.fr = [true, true] ∧ S_digits.nw = true := ⟨rfl, rfl⟩
theorem rf3 : S_hidden.fr = [true, true, true] ∧ S_hidden.nw = true := ⟨rfl, rfl⟩
theorem rf4 : S_crossed.fr = [true, true] ∧ S_crossed.nw = true := ⟨rfl, rfl⟩
theorem rf5 : S_chain.fr = [true] ∧ S_chain.nw = true := ⟨rfl, rfl⟩
theorem rf6 : S_lring.fr = [false] ∧ S_lring.nw = false := ⟨rfl, rfl⟩
theorem rf7 : S_lends.fr = [false] ∧ S_lends.nw = false := ⟨rfl, rfl⟩
theorem rf8 : S_right.fr = [true, true, true] ∧ S_right.nw = false := ⟨rfl, rfl⟩
theorem rf9 : S_same.fr = [true, true] ∧ S_same.nw = false := ⟨rfl, rfl⟩
theorem rf10 : S_ring_of.fr = [false] ∧ S_ring_of.nw = false := ⟨rfl, rfl⟩
theorem rf11 : S_settled.fr = [false] ∧ S_settled.nw = false := ⟨rfl, rfl⟩
def gl := And.intro gf1 <| And.intro gf2 <| And.intro gf3 <| And.intro gf4 <| And.intro gf5 <| And.intro gf6 <| And.intro gf7 <| And.intro gf8 <| And.intro gf9 <| And.intro gf10 <| And.intro gf11 <| And.intro rf1 <| And.intro rf2 <| And.intro rf3 <| And.intro rf4 <| And.intro rf5 <| And.intro rf6 <| And.intro rf7 <| And.intro rf8 <| And.intro rf9 <| And.intro rf10 rf11
abbrev QL : Out → Prop := VL.fin false fun d => d = .bl true
/-- the checks over all plans -/
theorem law_end {ms : List (List Nat)} (h0 : 0 < ms.length) (hl : ms.length ≤ 100) (hm : ∀ m ∈ ms, Ok m) (a0 a1 a2 a3 a4 a6 a7 a8 a9 a10 a11 a13 a14 : Slot) :
    RunS G_law (tl 22 c_law) [a0, a1, a2, a3, a4, .ow (ms.map lD), a6, a7, a8, a9, a10, a11, .un, a13, a14] QL := by
  simp only [c_law, tl, q1, q2, q3, q4, q5, gl]
  refine LcS_rel (fun m d => ∃ r, RingOf m r ∧ d = .lst [rgD r, .tup ((endsOf m).map dn)]) (sz (by omega)) (fun m hmm q hq => ?_) fun ys hy hp => ?_
  · obtain ⟨v, m0, m1⟩ := hm m hmm
    rw [lD_eq]
    simp only [q1, q2, q3, q4, q5, gl]
    refine ⟨m, rfl, ⟨v, by omega⟩, ?_⟩
    rintro d ⟨r, rfl, hr⟩
    refine ⟨m, rfl, ⟨v, by omega⟩, fun d hd => ?_⟩
    subst hd
    exact ⟨by decide, hq _ ⟨r, hr, rfl⟩⟩
  have e1 : ∀ i (hi : i < ms.length), ∃ r, RingOf ms[i] r ∧ atI ys (i : Int) = some (.lst [rgD r, .tup ((endsOf ms[i]).map dn)]) := fun i hi => by
    obtain ⟨r, h1, h2⟩ := hp i hi (by omega)
    exact ⟨r, h1, by rw [atI_nat (by omega), h2]⟩
  have e2 : ∀ i (hi : i < ms.length), atI (ms.map lD) (i : Int) = some (.lst (ms[i].map dn)) := fun i hi => by
    rw [atI_map, atI_nat hi]; rfl
  have e3 : ∀ a b : D, atI [a, b] 0 = some a := fun _ _ => rfl
  have e4 : ∀ a b : D, atI [a, b] 1 = some b := fun _ _ => rfl
  try simp only [q1, q2, q3, q4, q5, gl]
  refine ⟨by omega, ForS_inv (fun i e => ∃ s14, e = [a0, a1, a2, a3, a4, .ow (ms.map lD), a6, a7, a8, a9, a10, a11, .sh (.lst ys), a13, s14]) ⟨_, rfl⟩ ?_ ?_⟩
  · rintro i hi e ⟨s14, rfl⟩
    rw [List.length_range] at hi
    rw [List.getElem_range]
    obtain ⟨r, hr, er⟩ := e1 i hi
    obtain ⟨v, m0, m1⟩ := hm _ (List.getElem_mem hi)
    simp only [q1, q2, q3, q4, q5, gl, er, e2 i hi, e3, e4]
    refine ⟨(ms[i], r), rfl, ⟨v, m0, m1, hr⟩, fun d hd => ?_⟩
    subst hd
    simp only [q1, q2, q3, q4, q5]
    exact ⟨_, rfl⟩
  · rintro e ⟨s14, rfl⟩
    obtain ⟨r, hr, er⟩ := e1 0 h0
    obtain ⟨v, m0, m1⟩ := hm _ (List.getElem_mem h0)
    have er : atI ys 0 = some (.lst [rgD r, .tup ((endsOf ms[0]).map dn)]) := er
    have e20 : atI (ms.map lD) 0 = some (.lst (ms[0].map dn)) := e2 0 h0
    simp only [q1, q2, q3, q4, q5, gl, er, e20, e3, e4]
    refine w_ring (b := false) v (by omega) hr ?_
    refine w_same (fun l e => by have := ring_len v hr l e; omega) ?_
    simp only [decide_true, q1, q2, q3, q4, q5, gl, er, e20, e3, e4]
    refine w_settled (b := false) v (by omega) ?_
    refine w_same (a := some _) (b := some _) (fun l e => by cases e; rw [ends_len]; omega) ?_
    simp only [decide_true, q1, q2, q3, q4, q5]
theorem plan_of {n : Nat} {d : D} (h : Plan n d) (h0 : 0 < n) (hn : n ≤ 1000) : ∃ m, d = lD m ∧ Ok m := by
  obtain ⟨m, e, hl, v⟩ := h
  exact ⟨m, e, v, by omega, by omega⟩
theorem app_lD (ms : List (List Nat)) (m : List Nat) : ms.map lD ++ [.lst (m.map dn)] = (ms ++ [m]).map lD := by simp [lD]
theorem ok_app {ms : List (List Nat)} (h : ∀ m ∈ ms, Ok m) {m : List Nat} (hm : Ok m) : ∀ x ∈ ms ++ [m], Ok x := fun x hx => by
  rcases List.mem_append.mp hx with z | z
  · exact h x z
  · simp at z; rw [z]; exact hm
/-- the last plans -/
theorem law_5 {ns : List Int} {ms : List (List Nat)} {w : List Nat} (hl : ms.length ≤ 50) (hm : ∀ m ∈ ms, Ok m) (hw : Ok w) (a1 a2 a3 a4 a6 a7 a8 a9 a13 a14 : Slot) :
    RunS G_law (tl 17 c_law) [.sh (.scr ns), a1, a2, a3, a4, .ow (ms.map lD), a6, a7, a8, a9, .ow (w.map dn), .un, .un, a13, a14] QL := by
  simp only [c_law, tl, q1, q2, q3, q4, q5, gl, app_lD]
  refine ⟨by omega, ?_⟩
  refine w_cell (k := 4) rfl (by omega) fun c => ?_
  refine ⟨by decide, w_digits (z := [3, 10, 8, 1000, 12]) rfl (by decide) fun r h1 h2 => ?_⟩
  have r0 : r.getD 0 0 < 3 := h2 0 (by decide)
  have r1 : r.getD 1 0 < 10 := h2 1 (by decide)
  have r2 : r.getD 2 0 < 8 := h2 2 (by decide)
  have r4 : r.getD 4 0 < 12 := h2 4 (by decide)
  have f0 : atI (r.map dn) 0 = some (.int (r.getD 0 0 : Nat)) := atI_dn' (i := 0) (by rw [h1]; decide)
  have hlen : r.length = 5 := h1
  have hm' := ok_app hm hw
  simp only [q1, q2, q3, q4, q5, gl, f0]
  by_cases c1 : r.getD 0 0 = 1
  · simp only [c1, Int.natCast_one, decide_true, q1, q2, q3, q4, q5, gl]
    have d1 : cutD (r.map dn) (some 1) none = (r.drop 1).map dn := by rw [show (1 : Int) = ((1 : Nat) : Int) from rfl, cut_from, List.map_drop]
    rw [d1]
    have gd : ∀ i, (r.drop 1).getD i 0 = r.getD (i + 1) 0 := fun i => by simp only [List.getD_eq_getElem?_getD, List.getElem?_drop, Nat.add_comm]
    refine ⟨r.drop 1, rfl, ⟨by simp; omega, by rw [gd]; exact r1, by rw [gd]; exact r2, by rw [gd]; exact r4⟩, ?_⟩
    rintro d ⟨n, n0, n1, p⟩
    obtain ⟨m, rfl, hm2⟩ := plan_of p n0 n1
    simp only [q1, q2, q3, q4, q5, gl, lD_eq, app_lD]
    refine ⟨by simp; omega, ?_⟩
    have := law_end (ms := ms ++ [w] ++ [m]) (by simp) (by simp; omega) (ok_app hm' hm2) (.sh (.scr ns)) a1 a2 a3 a4 a6 a7 a8 a9 (.sh (.lst (w.map dn))) (.sh (.lst (r.map dn))) a13 a14
    simp only [c_law, tl, q1, q2, q3, q4, q5, gl] at this
    exact this
  · have c1' : ((r.getD 0 0 : Nat) : Int) ≠ 1 := by omega
    simp only [c1', decide_false, q1, q2, q3, q4, q5, gl]
    have := law_end (ms := ms ++ [w]) (by simp) (by simp; omega) hm' (.sh (.scr ns)) a1 a2 a3 a4 a6 a7 a8 a9 (.sh (.lst (w.map dn))) (.sh (.lst (r.map dn))) a13 a14
    simp only [c_law, tl, q1, q2, q3, q4, q5, gl] at this
    exact this
/-- a plan made by a comprehension -/
theorem ok_rng {n : Nat} (h0 : 0 < n) (hn : n ≤ 1000) (f : Nat → Nat) (hf : ∀ i, i < n → f i < n) : Ok ((List.range n).map f) := by
  refine ⟨fun x hx => ?_, by simpa using h0, by simpa using hn⟩
  obtain ⟨i, hi, rfl⟩ := List.mem_map.mp hx
  simpa using hf i (List.mem_range.mp hi)
theorem rng_map (n : Nat) (f : Nat → Nat) : (List.range n).map (fun x => D.int (f x : Nat)) = ((List.range n).map f).map dn := by
  rw [List.map_map]; rfl
theorem law_4 {ns : List Int} {ms : List (List Nat)} (hl : ms.length ≤ 40) (hm : ∀ m ∈ ms, Ok m) (a1 a2 a3 a4 a6 a7 a13 a14 : Slot) :
    RunS G_law (tl 12 c_law) [.sh (.scr ns), a1, a2, a3, a4, .ow (ms.map lD), a6, a7, .un, .un, .un, .un, .un, a13, a14] QL := by
  simp only [c_law, tl, q1, q2, q3, q4, q5, gl]
  refine w_cell (k := 3) rfl (by omega) fun c => ?_
  refine ⟨by decide, by decide, by decide, by decide, w_digits (z := [8, 3, 12, 12, 2] ++ List.replicate 12 60) rfl (by decide) fun r h1 h2 => ?_⟩
  have r0 : r.getD 0 0 < 8 := h2 0 (by decide)
  have r1 : r.getD 1 0 < 3 := h2 1 (by decide)
  have r2 : r.getD 2 0 < 12 := h2 2 (by decide)
  have hlen : r.length = 17 := h1
  have f0 : atI (r.map dn) 0 = some (.int (r.getD 0 0 : Nat)) := atI_dn' (i := 0) (by omega)
  have f1 : atI (r.map dn) 1 = some (.int (r.getD 1 0 : Nat)) := atI_dn' (i := 1) (by omega)
  have f2 : atI (r.map dn) 2 = some (.int (r.getD 2 0 : Nat)) := atI_dn' (i := 2) (by omega)
  have f3 : atI (r.map dn) 3 = some (.int (r.getD 3 0 : Nat)) := atI_dn' (i := 3) (by omega)
  have f4 : atI (r.map dn) 4 = some (.int (r.getD 4 0 : Nat)) := atI_dn' (i := 4) (by omega)
  have c1 : (6 : Int) + ((r.getD 0 0 : Nat) : Int) = ((6 + r.getD 0 0 : Nat) : Int) := by omega
  have c2 : (1 : Int) + ((r.getD 2 0 : Nat) : Int) = ((1 + r.getD 2 0 : Nat) : Int) := by omega
  simp only [q1, q2, q3, q4, q5, gl, f0, f1, f2, f3, f4, c1]
  refine ⟨(6 + r.getD 0 0, r.getD 1 0), rfl, ⟨by omega, by omega, r1⟩, fun d p => ?_⟩
  obtain ⟨m, rfl, hm2⟩ := plan_of p (by omega) (by omega)
  have hm' := ok_app hm hm2
  have hl' : (ms ++ [m]).length ≤ 41 := by simp; omega
  simp only [q1, q2, q3, q4, q5, gl, lD_eq, app_lD, f0, f1, f2, f3, f4, c2]
  generalize ms ++ [m] = ms' at hm' hl'
  refine ⟨by omega, by omega, LcS_map (φ := dn) (fun x => .int (r.getD (5 + x) 0 % (x + 1) : Nat)) (by rw [List.length_range]; exact sz (by omega)) (fun x hx q hq => ?_) ?_⟩
  · have hx := List.mem_range.mp hx
    have c3 : (5 : Int) + (x : Int) = ((5 + x : Nat) : Int) := by omega
    have c4 : (x : Int) + 1 = ((x + 1 : Nat) : Int) := by omega
    simp only [q1, q2, q3, q4, q5, c3, c4, atI_dn' (show 5 + x < r.length by omega), fmod_nat]
    exact ⟨by omega, hq⟩
  rw [rng_map (1 + r.getD 2 0) fun x => r.getD (5 + x) 0 % (x + 1)]
  have hw : Ok ((List.range (1 + r.getD 2 0)).map fun x => r.getD (5 + x) 0 % (x + 1)) := ok_rng (by omega) (by omega) _ fun i hi => by
    have := Nat.mod_lt (r.getD (5 + i) 0) (show 0 < i + 1 by omega)
    omega
  generalize (List.range (1 + r.getD 2 0)).map (fun x => r.getD (5 + x) 0 % (x + 1)) = w at hw
  try simp only [q1, q2, q3, q4, q5, gl, lD_eq, app_lD, f0, f1, f2, f3, f4]
  by_cases c1 : r.getD 4 0 = 1
  · obtain ⟨v, w0, w1⟩ := hw
    have hm := Nat.mod_lt (r.getD 3 0) w0
    have c5 : (w.length : Int) - 1 = ((w.length - 1 : Nat) : Int) := by omega
    simp only [c1, Int.natCast_one, decide_true, q1, q2, q3, q4, q5, gl, fmod_nat, f3, c5, ixN_nat hm, set_dn]
    refine ⟨by omega, ?_⟩
    have := law_5 (ns := ns) (w := w.set (r.getD 3 0 % w.length) (w.length - 1)) (by omega) hm' ⟨fun x hx => by
      rcases List.mem_or_eq_of_mem_set hx with z | z
      · have := v x z; simp; omega
      · simp; omega, by simpa using w0, by simpa using w1⟩ a1 a2 a3 a4 a6 a7 .un (.sh (.lst (r.map dn))) a13 a14
    simp only [c_law, tl, q1, q2, q3, q4, q5, gl] at this
    exact this
  · have c1' : ((r.getD 4 0 : Nat) : Int) ≠ 1 := by omega
    simp only [c1', decide_false, q1, q2, q3, q4, q5, gl]
    have := law_5 (ns := ns) (w := w) (by omega) hm' hw a1 a2 a3 a4 a6 a7 .un (.sh (.lst (r.map dn))) a13 a14
    simp only [c_law, tl, q1, q2, q3, q4, q5, gl] at this
    exact this
theorem law_3 {ns : List Int} {ms : List (List Nat)} (hl : ms.length ≤ 30) (hm : ∀ m ∈ ms, Ok m) (a1 a2 a3 a4 a6 a13 a14 : Slot) :
    RunS G_law (tl 9 c_law) [.sh (.scr ns), a1, a2, a3, a4, .ow (ms.map lD), a6, .un, .un, .un, .un, .un, .un, a13, a14] QL := by
  simp only [c_law, tl, q1, q2, q3, q4, q5, gl]
  refine w_cell (k := 2) rfl (by omega) fun c => ?_
  refine ⟨by decide, by decide, by decide, by decide, w_digits (z := [12] ++ List.replicate 12 12) rfl (by decide) fun r h1 h2 => ?_⟩
  have r0 : r.getD 0 0 < 12 := h2 0 (by decide)
  have hlen : r.length = 13 := h1
  have f0 : atI (r.map dn) 0 = some (.int (r.getD 0 0 : Nat)) := atI_dn' (i := 0) (by omega)
  have c1 : (1 : Int) + ((r.getD 0 0 : Nat) : Int) = ((1 + r.getD 0 0 : Nat) : Int) := by omega
  simp only [q1, q2, q3, q4, q5, gl, f0, c1]
  refine ⟨by omega, LcS_map (φ := dn) (fun x => .int (r.getD (1 + x) 0 % (1 + r.getD 0 0) : Nat)) (by rw [List.length_range]; exact sz (by omega)) (fun x hx q hq => ?_) ?_⟩
  · have hx := List.mem_range.mp hx
    have c3 : (1 : Int) + (x : Int) = ((1 + x : Nat) : Int) := by omega
    simp only [q1, q2, q3, q4, q5, f0, c1, c3, atI_dn' (show 1 + x < r.length by omega), fmod_nat]
    exact ⟨by omega, hq⟩
  rw [rng_map (1 + r.getD 0 0) fun x => r.getD (1 + x) 0 % (1 + r.getD 0 0)]
  have hw : Ok ((List.range (1 + r.getD 0 0)).map fun x => r.getD (1 + x) 0 % (1 + r.getD 0 0)) := ok_rng (by omega) (by omega) _ fun i hi => Nat.mod_lt _ (by omega)
  simp only [q1, q2, q3, q4, q5, gl, app_lD]
  refine ⟨by omega, ?_⟩
  have := law_4 (ns := ns) (by simp; omega) (ok_app hm hw) a1 a2 a3 a4 a6 (.sh (.lst (r.map dn))) a13 a14
  simp only [c_law, tl, q1, q2, q3, q4, q5, gl] at this
  exact this
theorem drop_get (r : List Nat) (k i : Nat) : (r.drop k).getD i 0 = r.getD (k + i) 0 := by simp only [List.getD_eq_getElem?_getD, List.getElem?_drop]
theorem law_2 {ns : List Int} {ms : List (List Nat)} (hl : ms.length ≤ 20) (hm : ∀ m ∈ ms, Ok m) (a1 a2 a3 a4 a13 a14 : Slot) :
    RunS G_law (tl 6 c_law) [.sh (.scr ns), a1, a2, a3, a4, .ow (ms.map lD), .un, .un, .un, .un, .un, .un, .un, a13, a14] QL := by
  simp only [c_law, tl, q1, q2, q3, q4, q5, gl]
  refine w_cell (k := 1) rfl (by omega) fun c => ?_
  refine ⟨by decide, by decide, by decide, by decide, w_digits (z := [12] ++ List.replicate 24 60) rfl (by decide) fun r h1 h2 => ?_⟩
  have r0 : r.getD 0 0 < 12 := h2 0 (by decide)
  have hlen : r.length = 25 := h1
  have f0 : atI (r.map dn) 0 = some (.int (r.getD 0 0 : Nat)) := atI_dn' (i := 0) (by omega)
  have c1 : (1 : Int) + ((r.getD 0 0 : Nat) : Int) = ((1 + r.getD 0 0 : Nat) : Int) := by omega
  have d1 : cutD (r.map dn) (some 1) none = (r.drop 1).map dn := by rw [show (1 : Int) = ((1 : Nat) : Int) from rfl, cut_from, List.map_drop]
  simp only [q1, q2, q3, q4, q5, gl, f0, c1, d1]
  refine ⟨by decide, (r.drop 1, 1 + r.getD 0 0, []), rfl, ⟨by simp only [List.length_drop]; omega, by omega, by omega, fun x hx => by simp at hx, by simp [sumN], by simp⟩, fun d p => ?_⟩
  obtain ⟨m, rfl, hm2⟩ := plan_of p (by omega) (by omega)
  simp only [q1, q2, q3, q4, q5, gl, lD_eq, app_lD]
  refine ⟨by omega, ?_⟩
  have := law_3 (ns := ns) (by simp; omega) (ok_app hm hm2) a1 a2 a3 a4 (.sh (.lst (r.map dn))) a13 a14
  simp only [c_law, tl, q1, q2, q3, q4, q5, gl] at this
  exact this
theorem b_law : BodyOk G_law n_law.length c_law S_law := by
  refine bodyOk_of fun ns _ => ?_
  show RunS G_law c_law [.sh (.scr ns), .un, .un, .un, .un, .un, .un, .un, .un, .un, .un, .un, .un, .un, .un] _
  simp only [c_law, q1, q2, q3, q4, q5, gl]
  refine w_cell (k := 0) rfl (by omega) fun c => ?_
  refine ⟨by decide, by decide, by decide, by decide, w_digits (z := [11, 11, 11, 3, 11] ++ List.replicate 24 60) rfl (by decide) fun r h1 h2 => ?_⟩
  have r0 : r.getD 0 0 < 11 := h2 0 (by decide)
  have r2 : r.getD 2 0 < 11 := h2 2 (by decide)
  have r3 : r.getD 3 0 < 3 := h2 3 (by decide)
  have hlen : r.length = 29 := h1
  have f0 : atI (r.map dn) 0 = some (.int (r.getD 0 0 : Nat)) := atI_dn' (i := 0) (by omega)
  have f1 : atI (r.map dn) 1 = some (.int (r.getD 1 0 : Nat)) := atI_dn' (i := 1) (by omega)
  have f2 : atI (r.map dn) 2 = some (.int (r.getD 2 0 : Nat)) := atI_dn' (i := 2) (by omega)
  have f3 : atI (r.map dn) 3 = some (.int (r.getD 3 0 : Nat)) := atI_dn' (i := 3) (by omega)
  have c1 : (2 : Int) + ((r.getD 0 0 : Nat) : Int) = ((2 + r.getD 0 0 : Nat) : Int) := by omega
  have c2 : ((2 + r.getD 0 0 : Nat) : Int) - 1 = ((1 + r.getD 0 0 : Nat) : Int) := by omega
  have c3 : (2 : Int) + ((r.getD 1 0 % (1 + r.getD 0 0) : Nat) : Int) = ((2 + r.getD 1 0 % (1 + r.getD 0 0) : Nat) : Int) := by omega
  have d1 : cutD (r.map dn) (some 5) none = (r.drop 5).map dn := by rw [show (5 : Int) = ((5 : Nat) : Int) from rfl, cut_from, List.map_drop]
  have hone := Nat.mod_lt (r.getD 1 0) (show 0 < 1 + r.getD 0 0 by omega)
  obtain ⟨t, ht⟩ : ∃ t : Nat, atI ([.int 0, .int 1, .int (2 + ((r.getD 2 0 : Nat) : Int))] : List D) ((r.getD 3 0 : Nat) : Int) = some (.int t) := by
    generalize r.getD 3 0 = x at r3
    match x, r3 with
    | 0, _ => exact ⟨0, rfl⟩
    | 1, _ => exact ⟨1, rfl⟩
    | 2, _ => exact ⟨2 + r.getD 2 0, by show some (D.int (2 + ((r.getD 2 0 : Nat) : Int))) = _; rw [show (2 : Int) + ((r.getD 2 0 : Nat) : Int) = ((2 + r.getD 2 0 : Nat) : Int) by omega]⟩
  simp only [q1, q2, q3, q4, q5, gl, f0, f1, f2, f3, c1, c2, c3, fmod_nat, ht, d1]
  generalize h3 : 2 + r.getD 1 0 % (1 + r.getD 0 0) = one
  generalize h4 : 2 + r.getD 0 0 = many
  have go : ∀ m, Ok m → ∀ a1 a2 a3 a4 : Slot, RunS G_law (tl 6 c_law) [.sh (.scr ns), a1, a2, a3, a4, .ow [lD m], .un, .un, .un, .un, .un, .un, .un, .un, .un] QL := fun m hm a1 a2 a3 a4 => law_2 (ms := [m]) (by simp) (fun x hx => by simp at hx; rw [hx]; exact hm) a1 a2 a3 a4 _ _
  have hid : ∀ g : List Nat, (∀ x ∈ g, 0 < x) → sumN g ≤ many → g.length ≤ 1000 → ∀ {Q : D → Prop}, (∀ m, Ok m → Q (lD m)) → S_hidden.wp [.lst ((r.drop 5).map dn), .int many, .lst (g.map dn)] Q := fun g g1 g2 g3 Q q =>
    ⟨(r.drop 5, many, g), rfl, ⟨by simp only [List.length_drop]; omega, by omega, by omega, g1, g2, g3⟩, fun d p => by
      obtain ⟨m, rfl, hm2⟩ := plan_of p (by omega) (by omega)
      exact q m hm2⟩
  refine ⟨by omega, by decide, by decide, by decide, ?_⟩
  have o1 : sumN [one] ≤ many := by simp [sumN]; omega
  by_cases b1 : (one : Int) + (t : Int) ≤ (many : Int)
  · simp only [b1, decide_true, q1, q2, q3, q4, q5, gl]
    by_cases b2 : (0 : Int) < (t : Int)
    · simp only [b2, decide_true, q1, q2, q3, q4, q5, gl, if_true]
      refine ⟨by decide, (show (2 : Nat) ≤ sizeLine by decide), hid [one, t] (fun x hx => by simp at hx; omega) (by simp [sumN]; omega) (by simp) fun m hm => ?_⟩
      have := go m hm (.sh (.lst (r.map dn))) (.sh (.int many)) (.sh (.int one)) (.sh (.int t))
      simp only [c_law, tl, q1, q2, q3, q4, q5, gl, lD_eq] at this ⊢
      exact ⟨by decide, this⟩
    · simp only [b2, decide_false, q1, q2, q3, q4, q5, gl, if_false]
      refine ⟨by decide, (show (1 : Nat) ≤ sizeLine by decide), hid [one] (fun x hx => by simp at hx; omega) o1 (by simp) fun m hm => ?_⟩
      have := go m hm (.sh (.lst (r.map dn))) (.sh (.int many)) (.sh (.int one)) (.sh (.int t))
      simp only [c_law, tl, q1, q2, q3, q4, q5, gl, lD_eq] at this ⊢
      exact ⟨by decide, this⟩
  · simp only [b1, decide_false, q1, q2, q3, q4, q5, gl, if_false]
    refine ⟨by decide, (show (1 : Nat) ≤ sizeLine by decide), hid [one] (fun x hx => by simp at hx; omega) o1 (by simp) fun m hm => ?_⟩
    have := go m hm (.sh (.lst (r.map dn))) (.sh (.int many)) (.sh (.int one)) (.sh (.int t))
    simp only [c_law, tl, q1, q2, q3, q4, q5, gl, lD_eq] at this ⊢
    exact ⟨by decide, this⟩
end K13
namespace K13
open PySem VL
theorem w_law (ns : List Int) (h : ns.length ≤ 63) {Q : D → Prop} (q : Q (.bl true)) : S_law.wp [.scr ns] Q := ⟨ns, rfl, trivial, fun d e => by rw [e]; exact q⟩
end K13
namespace K13
open PySem PySem.Spec PyProof.Rows L2 VL
def d1 : He.DefD := ⟨("unmoved", none), "unmoved", "unmoved", defArgs s1, defBody s1, defScope s1, [], []⟩
def d2 : He.DefD := ⟨("then", none), "then", "then", defArgs s2, defBody s2, defScope s2, [], []⟩
def d3 : He.DefD := ⟨("ring_through", none), "ring_through", "ring_through", defArgs s3, defBody s3, defScope s3, [], []⟩
def d4 : He.DefD := ⟨("ring_of", none), "ring_of", "ring_of", defArgs s4, defBody s4, defScope s4, [], []⟩
def d5 : He.DefD := ⟨("settled", none), "settled", "settled", defArgs s5, defBody s5, defScope s5, [], []⟩
def d6 : He.DefD := ⟨("_law_whole", none), "_law_whole", "_law_whole", defArgs s6, defBody s6, defScope s6, [], []⟩
def d7 : He.DefD := ⟨("_law_cell", none), "_law_cell", "_law_cell", defArgs s7, defBody s7, defScope s7, [], []⟩
def d8 : He.DefD := ⟨("_law_digits", none), "_law_digits", "_law_digits", defArgs s8, defBody s8, defScope s8, [], []⟩
def d9 : He.DefD := ⟨("_law_hidden", none), "_law_hidden", "_law_hidden", defArgs s9, defBody s9, defScope s9, [], []⟩
def d10 : He.DefD := ⟨("_law_crossed", none), "_law_crossed", "_law_crossed", defArgs s10, defBody s10, defScope s10, [], []⟩
def d11 : He.DefD := ⟨("_law_chain", none), "_law_chain", "_law_chain", defArgs s11, defBody s11, defScope s11, [], []⟩
def d12 : He.DefD := ⟨("_law_ring", none), "_law_ring", "_law_ring", defArgs s12, defBody s12, defScope s12, [], []⟩
def d13 : He.DefD := ⟨("_law_ends", none), "_law_ends", "_law_ends", defArgs s13, defBody s13, defScope s13, [], []⟩
def d14 : He.DefD := ⟨("_law_same", none), "_law_same", "_law_same", defArgs s14, defBody s14, defScope s14, [], []⟩
def d15 : He.DefD := ⟨("_law_right", none), "_law_right", "_law_right", defArgs s15, defBody s15, defScope s15, [], []⟩
def d16 : He.DefD := ⟨("law", none), "law", "law", defArgs s16, defBody s16, defScope s16, [], []⟩
def fn : List He.DefD := [d1, d2, d3, d4, d5, d6, d7, d8, d9, d10, d11, d12, d13, d14, d15, d16]
def fa : List He.Fa := [.glo "unmoved", .glo "then", .glo "ring_through", .glo "ring_of", .glo "settled", .glo "_law_whole", .glo "_law_cell", .glo "_law_digits", .glo "_law_hidden", .glo "_law_crossed", .glo "_law_chain", .glo "_law_ring", .glo "_law_ends", .glo "_law_same", .glo "_law_right", .glo "law", .free "len", .free "int", .free "tuple", .free "list", .free "min", .free "bool", .free "str", .free "isinstance", .free "range", .free "zip"]
def nm0 : List Str := ["LookError", "MovesDiffer", "unmoved", "then", "ring_through", "ring_of", "settled", "_law_whole", "_law_cell", "_law_digits", "_law_hidden", "_law_crossed"]
def nm1 : List Str := ["_law_chain", "_law_ring", "_law_ends", "_law_same", "_law_right"]
def nms : List Str := nm0 ++ nm1
abbrev R : PySem.W.OpenRow := PySem.W.OpenLaw.row PySem.Challenge.rw_lastsuch_k13_rings_and_settled
abbrev hk : PySem.W.Hook := He.hookD 5 fa fn
def ob (s : PySem.W.SharedT) : He.AlD := He.obsDG 5 fa fn (HandSHeadRun.getT s)
theorem ob_eq (s : PySem.W.SharedT) : ob s = hk.obs s.abs := He.obsDG_eq (HandSHeadRun.getT_eq s)
theorem run (w : World) : HandSHeadRun.RunEq R (PySem.W.view R.prog [20]) hk ob 3000 nms w := by
  intro os
  kernel_rfl
def Cn : Cls0 := ⟨fun _ => 0, fun _ => []⟩
theorem facts {P : Program} {w : World} {K : PySem.W.Frag} {h : Heap} {mg : Str → Option Value} {f : Addr} (X : K.In h) (G : h.Ns mainGlobals mg) (hfa : mg ("law" : Str) = some (.ref f)) (c : He.SaysD fa fn K) :
    ∃ fd : FuncData, (∀ (s : Shared) (v : Value), BindsTo s fd ⟨[v], []⟩ [("script", v)]) ∧ ∀ base : Heap, K.In base → base.Ns mainGlobals mg → FnOk P w K mg base CX0 4 f fd ["script"] (spOf K Cn S_law) := by
  obtain ⟨f1, F1⟩ := c.def_ 0 (d := d1) rfl
  have g1 := He.glo_ok X G (c.fact 0 (f := .glo "unmoved") rfl)
  have b1 : Binds K f1 p_unmoved [] := F1.bindsN fun _ _ _ _ _ _ us hl => match us, hl with | [_], _ => rfl
  obtain ⟨f2, F2⟩ := c.def_ 1 (d := d2) rfl
  have g2 := He.glo_ok X G (c.fact 1 (f := .glo "then") rfl)
  have b2 : Binds K f2 p_then [] := F2.bindsN fun _ _ _ _ _ _ us hl => match us, hl with | [_, _], _ => rfl
  obtain ⟨f3, F3⟩ := c.def_ 2 (d := d3) rfl
  have g3 := He.glo_ok X G (c.fact 2 (f := .glo "ring_through") rfl)
  have b3 : Binds K f3 p_ring_through [] := F3.bindsN fun _ _ _ _ _ _ us hl => match us, hl with | [_, _], _ => rfl
  obtain ⟨f4, F4⟩ := c.def_ 3 (d := d4) rfl
  have g4 := He.glo_ok X G (c.fact 3 (f := .glo "ring_of") rfl)
  have b4 : Binds K f4 p_ring_of [] := F4.bindsN fun _ _ _ _ _ _ us hl => match us, hl with | [_], _ => rfl
  obtain ⟨f5, F5⟩ := c.def_ 4 (d := d5) rfl
  have g5 := He.glo_ok X G (c.fact 4 (f := .glo "settled") rfl)
  have b5 : Binds K f5 p_settled [] := F5.bindsN fun _ _ _ _ _ _ us hl => match us, hl with | [_], _ => rfl
  obtain ⟨f6, F6⟩ := c.def_ 5 (d := d6) rfl
  have g6 := He.glo_ok X G (c.fact 5 (f := .glo "_law_whole") rfl)
  have b6 : Binds K f6 p__law_whole [] := F6.bindsN fun _ _ _ _ _ _ us hl => match us, hl with | [_], _ => rfl
  obtain ⟨f7, F7⟩ := c.def_ 6 (d := d7) rfl
  have g7 := He.glo_ok X G (c.fact 6 (f := .glo "_law_cell") rfl)
  have b7 : Binds K f7 p__law_cell [] := F7.bindsN fun _ _ _ _ _ _ us hl => match us, hl with | [_, _], _ => rfl
  obtain ⟨f8, F8⟩ := c.def_ 7 (d := d8) rfl
  have g8 := He.glo_ok X G (c.fact 7 (f := .glo "_law_digits") rfl)
  have b8 : Binds K f8 p__law_digits [] := F8.bindsN fun _ _ _ _ _ _ us hl => match us, hl with | [_, _], _ => rfl
  obtain ⟨f9, F9⟩ := c.def_ 8 (d := d9) rfl
  have g9 := He.glo_ok X G (c.fact 8 (f := .glo "_law_hidden") rfl)
  have b9 : Binds K f9 p__law_hidden [] := F9.bindsN fun _ _ _ _ _ _ us hl => match us, hl with | [_, _, _], _ => rfl
  obtain ⟨f10, F10⟩ := c.def_ 9 (d := d10) rfl
  have g10 := He.glo_ok X G (c.fact 9 (f := .glo "_law_crossed") rfl)
  have b10 : Binds K f10 p__law_crossed [] := F10.bindsN fun _ _ _ _ _ _ us hl => match us, hl with | [_, _], _ => rfl
  obtain ⟨f11, F11⟩ := c.def_ 10 (d := d11) rfl
  have g11 := He.glo_ok X G (c.fact 10 (f := .glo "_law_chain") rfl)
  have b11 : Binds K f11 p__law_chain [] := F11.bindsN fun _ _ _ _ _ _ us hl => match us, hl with | [_], _ => rfl
  obtain ⟨f12, F12⟩ := c.def_ 11 (d := d12) rfl
  have g12 := He.glo_ok X G (c.fact 11 (f := .glo "_law_ring") rfl)
  have b12 : Binds K f12 p__law_ring [] := F12.bindsN fun _ _ _ _ _ _ us hl => match us, hl with | [_], _ => rfl
  obtain ⟨f13, F13⟩ := c.def_ 12 (d := d13) rfl
  have g13 := He.glo_ok X G (c.fact 12 (f := .glo "_law_ends") rfl)
  have b13 : Binds K f13 p__law_ends [] := F13.bindsN fun _ _ _ _ _ _ us hl => match us, hl with | [_], _ => rfl
  obtain ⟨f14, F14⟩ := c.def_ 13 (d := d14) rfl
  have g14 := He.glo_ok X G (c.fact 13 (f := .glo "_law_same") rfl)
  have b14 : Binds K f14 p__law_same [] := F14.bindsN fun _ _ _ _ _ _ us hl => match us, hl with | [_, _], _ => rfl
  obtain ⟨f15, F15⟩ := c.def_ 14 (d := d15) rfl
  have g15 := He.glo_ok X G (c.fact 14 (f := .glo "_law_right") rfl)
  have b15 : Binds K f15 p__law_right [] := F15.bindsN fun _ _ _ _ _ _ us hl => match us, hl with | [_, _, _], _ => rfl
  obtain ⟨f16, F16⟩ := c.def_ 15 (d := d16) rfl
  have g16 := He.glo_ok X G (c.fact 15 (f := .glo "law") rfl)
  have e := hfa.symm.trans g16
  cases e
  have b16 : Binds K f16 p_law [] := F16.bindsN fun _ _ _ _ _ _ us hl => match us, hl with | [_], _ => rfl
  have ba := FunD.bindsA (ps := ["script"]) F16 fun _ _ _ _ _ _ us hl => match us, hl with | [_], _ => rfl
  refine ⟨f16, fun s v => ba s [v] rfl, fun base _ _ => ?_⟩
  have hb : ∀ x ∈ bnames, mg x = none := by
    have z0 : mg "len" = none := He.free_ok X G (c.fact 16 (f := .free "len") rfl)
    have z1 : mg "int" = none := He.free_ok X G (c.fact 17 (f := .free "int") rfl)
    have z2 : mg "tuple" = none := He.free_ok X G (c.fact 18 (f := .free "tuple") rfl)
    have z3 : mg "list" = none := He.free_ok X G (c.fact 19 (f := .free "list") rfl)
    have z4 : mg "min" = none := He.free_ok X G (c.fact 20 (f := .free "min") rfl)
    have z5 : mg "bool" = none := He.free_ok X G (c.fact 21 (f := .free "bool") rfl)
    have z6 : mg "str" = none := He.free_ok X G (c.fact 22 (f := .free "str") rfl)
    have z7 : mg "isinstance" = none := He.free_ok X G (c.fact 23 (f := .free "isinstance") rfl)
    have z8 : mg "range" = none := He.free_ok X G (c.fact 24 (f := .free "range") rfl)
    have z9 : mg "zip" = none := He.free_ok X G (c.fact 25 (f := .free "zip") rfl)
    intro x hx
    simp only [bnames, List.mem_cons, List.not_mem_nil, or_false] at hx
    rcases hx with rfl | rfl | rfl | rfl | rfl | rfl | rfl | rfl | rfl | rfl <;> assumption
  have K_unmoved : Kn P w K mg base Cn 1 "unmoved" S_unmoved := kn_of ((Md.none hb : Md Gam.none Cn 0 P w K mg base).mono (j := 0) (by decide)) F1 s_unmoved rfl k_unmoved (b_unmoved _) g1 b1
  have K_then : Kn P w K mg base Cn 1 "then" S_then := kn_of ((Md.none hb : Md Gam.none Cn 0 P w K mg base).mono (j := 0) (by decide)) F2 s_then rfl k_then (b_then _) g2 b2
  have K_ring_through : Kn P w K mg base Cn 1 "ring_through" S_ring_through := kn_of ((Md.none hb : Md Gam.none Cn 0 P w K mg base).mono (j := 0) (by decide)) F3 s_ring_through rfl k_ring_through (b_ring_through _) g3 b3
  have K_ring_of : Kn P w K mg base Cn 2 "ring_of" S_ring_of := kn_of (((Md.none hb : Md Gam.none Cn 0 P w K mg base).mono (j := 1) (by decide)).ad (K_ring_through.mono (by decide))) F4 s_ring_of rfl k_ring_of b_ring_of g4 b4
  have K_settled : Kn P w K mg base Cn 2 "settled" S_settled := kn_of (((Md.none hb : Md Gam.none Cn 0 P w K mg base).mono (j := 1) (by decide)).ad (K_unmoved.mono (by decide))) F5 s_settled rfl k_settled b_settled g5 b5
  have K__law_whole : Kn P w K mg base Cn 1 "_law_whole" S_whole := kn_of ((Md.none hb : Md Gam.none Cn 0 P w K mg base).mono (j := 0) (by decide)) F6 s__law_whole rfl k__law_whole (b_whole _) g6 b6
  have K__law_cell : Kn P w K mg base Cn 1 "_law_cell" S_cell := kn_of ((Md.none hb : Md Gam.none Cn 0 P w K mg base).mono (j := 0) (by decide)) F7 s__law_cell rfl k__law_cell (b_cell _) g7 b7
  have K__law_digits : Kn P w K mg base Cn 1 "_law_digits" S_digits := kn_of ((Md.none hb : Md Gam.none Cn 0 P w K mg base).mono (j := 0) (by decide)) F8 s__law_digits rfl k__law_digits (b_digits _) g8 b8
  have K__law_hidden : Kn P w K mg base Cn 1 "_law_hidden" S_hidden := kn_of ((Md.none hb : Md Gam.none Cn 0 P w K mg base).mono (j := 0) (by decide)) F9 s__law_hidden rfl k__law_hidden (b_hidden _) g9 b9
  have K__law_crossed : Kn P w K mg base Cn 1 "_law_crossed" S_crossed := kn_of ((Md.none hb : Md Gam.none Cn 0 P w K mg base).mono (j := 0) (by decide)) F10 s__law_crossed rfl k__law_crossed (b_crossed _) g10 b10
  have K__law_chain : Kn P w K mg base Cn 1 "_law_chain" S_chain := kn_of ((Md.none hb : Md Gam.none Cn 0 P w K mg base).mono (j := 0) (by decide)) F11 s__law_chain rfl k__law_chain (b_chain _) g11 b11
  have K__law_ring : Kn P w K mg base Cn 1 "_law_ring" S_lring := kn_of ((Md.none hb : Md Gam.none Cn 0 P w K mg base).mono (j := 0) (by decide)) F12 s__law_ring rfl k__law_ring (b_lring _) g12 b12
  have K__law_ends : Kn P w K mg base Cn 1 "_law_ends" S_lends := kn_of ((Md.none hb : Md Gam.none Cn 0 P w K mg base).mono (j := 0) (by decide)) F13 s__law_ends rfl k__law_ends (b_lends _) g13 b13
  have K__law_same : Kn P w K mg base Cn 2 "_law_same" S_same := kn_of (((Md.none hb : Md Gam.none Cn 0 P w K mg base).mono (j := 1) (by decide)).ad (K__law_whole.mono (by decide))) F14 s__law_same rfl k__law_same b_same g14 b14
  have K__law_right : Kn P w K mg base Cn 3 "_law_right" S_right := kn_of ((((((((Md.none hb : Md Gam.none Cn 0 P w K mg base).mono (j := 2) (by decide)).ad (K_ring_of.mono (by decide))).ad (K_settled.mono (by decide))).ad (K_then.mono (by decide))).ad (K__law_same.mono (by decide))).ad (K__law_ring.mono (by decide))).ad (K__law_ends.mono (by decide))) F15 s__law_right rfl k__law_right b_right g15 b15
  exact fn_ok (((((((((((((Md.none hb : Md Gam.none Cn 0 P w K mg base).mono (j := 3) (by decide)).ad (K__law_cell.mono (by decide))).ad (K__law_digits.mono (by decide))).ad (K__law_hidden.mono (by decide))).ad (K__law_crossed.mono (by decide))).ad (K__law_chain.mono (by decide))).ad (K__law_ring.mono (by decide))).ad (K__law_ends.mono (by decide))).ad (K__law_right.mono (by decide))).ad (K__law_same.mono (by decide))).ad (K_ring_of.mono (by decide))).ad (K_settled.mono (by decide))) F16 s_law rfl k_law b_law
end K13
open PySem PySem.W PySem.Calls PyProof.Rows
theorem PySem.Challenge.cw_lastsuch_k13_rings_and_settled_holds : PySem.Challenge.rw_lastsuch_k13_rings_and_settled.Holds := by
  w_on; o_law
  refine HandSHeadRun.head_any (r := OpenLaw.row PySem.Challenge.rw_lastsuch_k13_rings_and_settled) (q := view (OpenLaw.row PySem.Challenge.rw_lastsuch_k13_rings_and_settled).prog [20]) (H := K13.hk) (ob := K13.ob) (M := 3000) (loose := K13.nms) (d := HandSHeadRun.topDef (OpenLaw.row PySem.Challenge.rw_lastsuch_k13_rings_and_settled).prog 20) (kwd := []) K13.ob_eq
    (by kernel_rfl) (fun s => by kernel_rfl) K13.run (by kernel_rfl) (by kernel_rfl) (by kernel_rfl) (by rfl) (by first | assumption | decide +kernel) (by decide +kernel) ⟨rfl, rfl, rfl, rfl, rfl, by decide +kernel⟩ ?hw ?hc
  case hw => w_witness2
  case hc =>
    refine L2.walk_ofE (l := PySem.Challenge.rw_lastsuch_k13_rings_and_settled) (n := 63) (k := 4) (x := "script") (CX := L2.CX0) rfl (by decide) (by kernel_rfl) ⟨rfl, by decide, by decide⟩ ?F (fun _ _ _ _ z => z)
    intro w mg fa h Y G hmg0
    obtain ⟨K, KX, c⟩ := Y
    have hmg : mg ("law" : PySem.Str) = some (.ref fa) := by
      have e : (HandSHeadRun.topDef (OpenLaw.row PySem.Challenge.rw_lastsuch_k13_rings_and_settled).prog 20).name = ("law" : PySem.Str) := by kernel_rfl
      rw [← e]
      exact hmg0
    obtain ⟨fd, hb, hF⟩ := K13.facts (P := (PySem.Challenge.rw_lastsuch_k13_rings_and_settled).prog) (w := w) KX G hmg c
    exact ⟨K, fd, VL.spOf K K13.Cn K13.S_law, KX, hb, fun H a ns hl hO hS => ⟨fun _ => False, [.scr ns], fun _ z => z.elim, VL.args_scr hO hS, K13.w_law ns hl fun v H' _ rk => by cases rk; rfl⟩, hF⟩
