import PyProof.Rows.All
import Wide.All
import OpenK.AllK
import Wide.FinOn
import KE.KStateDown
import HandS.ForMost
import HandS.ForExc
import HandS.SetBool
import KE.KeyNested
import HandS.TupAny
import HandS.TupMul
import HandS.Deep
import HandS.Style
import HandS.Star
import HandS.ReplaceList
import HandS.IsInst
import HandS.RaiseMore
import HandS.More
import HandS.Replace
import HandS.Small
import KE.GoesMore
import HandS.Zip
import HandS.ExcInit
import HandS.DictComp
import HandS.NoneIn
import KE.KDictKeyed
import KE.KUnpackStar
import PyProof.RulesMatch
import HandS.SetTxt0
import HandS.Strs
import HandS.Set
import HandS.Sort
import HandS.SetFor
import PyProof.Rows.SortStr
import HandS.FStr
import PyProof.DictUpdate
import HandS.ClsMeth
import HandS.Defaults
import HandS.HeadHook1
import HandS.HeadHook2
import HandS.HeadNt
import HandS.Head2
import HandS.HeadEnd
import HandS.Wide
import HandS.Codes
import HandS.HeadHook3
import HandS.EndBits
import PyProof.StrOps2
import HandS.WordsDict
import HandS.SetKeys
import KE.KRevSl
import KE.KDictDisplayH
import KE.KDictZip
import OpenK.KOps
import HandS.MakeKw
import HandS.MakeKwOnly
import PyProof.CallFns
import KE.KFmtOwn
import PyProof.InstEq
import PyProof.ReprRoads
import HandS.ExcField
import HandS.ExcIs
import KE.KSuper
import KE.KExcSuper
import KE.KExcMake
import KE.KExcIs
import HandS.Dict
import HandS.Conv
import PyProof.ListStr
import PyProof.StrLawsRepr
import HandS.List
import PySem.Challenge.RW_swapwatch_k11_rows_refused
set_option Elab.async false
set_option linter.all false
set_option maxRecDepth 100000
set_option maxHeartbeats 0
/-! ### what the kernel runs often, by recursors -/
namespace M7
noncomputable section
def nthF {α : Type} (l : List α) (i : Nat) : Option α := Nat.rec (motive := fun _ => List α → Option α) (fun l => List.rec none (fun a _ _ => some a) l) (fun _ ih l => List.rec none (fun _ r _ => ih r) l) i l
def setF {α : Type} (l : List α) (i : Nat) (v : α) : List α := Nat.rec (motive := fun _ => List α → List α) (fun l => List.rec [] (fun _ r _ => v :: r) l) (fun _ ih l => List.rec [] (fun a r _ => a :: ih r) l) i l
theorem nthF_eq {α : Type} : ∀ (l : List α) (i : Nat), nthF l i = l[i]?
  | [], 0 => rfl
  | [], _ + 1 => rfl
  | _ :: _, 0 => rfl
  | _ :: r, i + 1 => by
    rw [List.getElem?_cons_succ, ← nthF_eq r i]
    rfl
theorem setF_eq {α : Type} (v : α) : ∀ (l : List α) (i : Nat), setF l i v = l.set i v
  | [], 0 => rfl
  | [], _ + 1 => rfl
  | _ :: _, 0 => rfl
  | a :: r, i + 1 => by
    rw [List.set_cons_succ, ← setF_eq v r i]
    rfl
def eqZ (i j : Int) : Bool := Int.rec (fun a => Int.rec (fun b => Nat.beq a b) (fun _ => false) j) (fun a => Int.rec (fun _ => false) (fun b => Nat.beq a b) j) i
theorem eqZ_eq (i j : Int) : eqZ i j = decide (i = j) := by
  have h (a b : Nat) : Nat.beq a b = decide (a = b) := by
    cases z : Nat.beq a b with
    | true => exact (decide_eq_true (Nat.eq_of_beq_eq_true z)).symm
    | false => exact (decide_eq_false (Nat.ne_of_beq_eq_false z)).symm
  cases i with
  | ofNat a =>
    cases j with
    | ofNat b =>
      show Nat.beq a b = _
      rw [h]
      exact decide_eq_decide.mpr ⟨fun e => congrArg _ e, fun e => Int.ofNat.inj e⟩
    | negSucc b =>
      show false = _
      simp
  | negSucc a =>
    cases j with
    | ofNat b =>
      show false = _
      simp
    | negSucc b =>
      show Nat.beq a b = _
      rw [h]
      exact decide_eq_decide.mpr ⟨fun e => congrArg _ e, fun e => Int.negSucc.inj e⟩
def ifEq {α : Type} (i j : Nat) (a b : α) : α := Bool.rec b a (Nat.beq i j)
theorem ifEq_eq {α : Type} (i j : Nat) (a b : α) : ifEq i j a b = if i = j then a else b := by
  unfold ifEq
  cases z : Nat.beq i j with
  | true => rw [if_pos (Nat.eq_of_beq_eq_true z)]
  | false => rw [if_neg (Nat.ne_of_beq_eq_false z)]
end
end M7

noncomputable section
namespace M7
open PySem PySem.Spec PyProof.Rows L2
/-! ### keys that are None, whole numbers (True is 1), texts -/
def nvIs : NestedKey → Value → Bool
  | .none, .none => true
  | .num i, .bool b => decide (i = if b = true then 1 else 0)
  | .num i, .int j _ => decide (i = j)
  | .text x, .str y _ => decide (x = y)
  | _, _ => false
inductive NvS : NestedKey → Value → Prop
  | non : NvS .none .none
  | bl (b : Bool) : NvS (.num (if b = true then 1 else 0)) (.bool b)
  | int (i : Int) (t : Tok) : NvS (.num i) (.int i t)
  | str (x : Str) (t : Tok) : NvS (.text x) (.str x t)
theorem nv_shape {k : NestedKey} {v : Value} (h : nvIs k v = true) : NvS k v := by
  unfold nvIs at h
  split at h
  · exact .non
  · rw [of_decide_eq_true h]; exact .bl _
  · rw [of_decide_eq_true h]; exact .int _ _
  · rw [of_decide_eq_true h]; exact .str _ _
  · cases h
theorem nv_of {k : NestedKey} {v : Value} (h : NvS k v) : nvIs k v = true := by
  cases h <;> simp [nvIs]
theorem nv_inj {a b : NestedKey} {v : Value} (h1 : NvS a v) (h2 : NvS b v) : a = b := by
  cases h1 <;> cases h2 <;> rfl
section
variable {prog : Program} {w : World} {A : Around} {E : Value → Shared → Prop} {s : Shared}
theorem nv_hash {k : NestedKey} {v : Value} {Q : Int → Shared → Prop} (h : NvS k v) (q : Q (k.hash w) { s with toks := s.toks + 1 }) : wpAny (model prog w) A (PySem.pyHash v) Q E s := by
  cases h with
  | non => exact W.pyHash_slot (T := "NoneType") rfl PySem.F.slot_NoneType_hash PySem.F.entry_NoneType_hash (PySem.F.args_NoneType_hash_1 _) (beq_builtin_none _) (.inl rfl) (wpAny_bind (wpAny_pure (wpAny_bind (wpAny_mkInt (wpAny_pure ⟨_, _, rfl, q⟩)))))
  | bl b =>
    have q2 : Q (hashInt (if b = true then 1 else 0)) { s with toks := s.toks + 1 } := q
    rw [← reduce_bool] at q2
    refine W.pyHash_slot (T := "bool") rfl PySem.F.slot_bool_hash entry_int_hash (args_int_hash _) (beq_builtin_none _) (.inl rfl) ?_
    cases b
    · exact (show wpAny _ _ (do ret (← mkInt 0)) _ _ s from wpAny_bind (wpAny_mkInt (wpAny_pure ⟨_, _, rfl, q2⟩)))
    · exact (show wpAny _ _ (do ret (← mkInt 1)) _ _ s from wpAny_bind (wpAny_mkInt (wpAny_pure ⟨_, _, rfl, q2⟩)))
  | int i t => exact wpAny_pyHash_int q
  | str x t => exact wpAny_pyHash_str q
theorem nv_eq {a b : NestedKey} {u v : Value} {Q : Bool → Shared → Prop} (h1 : NvS a u) (h2 : NvS b v) (q : Q (decide (a = b)) s) : wpAny (model prog w) A (PySem.eqBool u v) Q E s := by
  rw [NestedKey.decide_eq] at q
  have e : SeqAt.EqAt A s u v (NestedKey.beq a b) := by
    cases h1 with
    | non =>
      cases h2 with
      | non => exact SeqAt.EqAt.same _
      | bl c => exact SeqAt.EqAt.none_bool _
      | int i t => exact SeqAt.EqAt.none_int i t
      | str x t => exact SeqAt.EqAt.none_str x t
    | bl b =>
      cases h2 with
      | non => exact SeqAt.EqAt.bool_none b
      | bl c => exact (SeqAt.EqAt.bool_bool b c).cast (by cases b <;> cases c <;> rfl)
      | int i t => exact (SeqAt.EqAt.bool_int b i t).cast rfl
      | str x t => exact SeqAt.EqAt.bool_str b x t
    | int i t =>
      cases h2 with
      | non => exact SeqAt.EqAt.int_none i t
      | bl c => exact (SeqAt.EqAt.int_bool i t c).cast rfl
      | int j t2 => exact (SeqAt.EqAt.int_int i t j t2).cast rfl
      | str x t2 => exact SeqAt.EqAt.int_str i t x t2
    | str x t =>
      cases h2 with
      | non => exact SeqAt.EqAt.str_none x t
      | bl c => exact SeqAt.EqAt.str_bool x t c
      | int j t2 => exact SeqAt.EqAt.str_int x t j t2
      | str y t2 => exact (SeqAt.EqAt.str_str x t y t2).cast rfl
  exact e _ _ _ _ q
end
def nvKind (prog : Program) (w : World) : PySem.KeyKind prog w NestedKey where
  is := nvIs
  hash := fun k => k.hash w
  inj := fun v a b h1 h2 => nv_inj (nv_shape h1) (nv_shape h2)
  byValue := fun k v h => by cases nv_shape h <;> rfl
  pyHash := fun h q => nv_hash (nv_shape h) q
  eqBool := fun h1 h2 q => nv_eq (nv_shape h1) (nv_shape h2) q
  «strs» := fun k x t v h => by
    cases nv_shape h
    cases v with
    | str y u =>
      show decide (x = y) = (y == x)
      by_cases e : x = y
      · subst e; simp
      · rw [decide_eq_false e, beq_eq_false_iff_ne.mpr (Ne.symm e)]
    | _ => rfl
/-! ### a dict whose keys are tuples -/
def entN (w : World) (x : NestedKey × Addr × Value) : DictEntry := ⟨x.1.hash w, .ref x.2.1, x.2.2⟩
def rawN (w : World) (a : Addr) (xs : List (NestedKey × Addr × Value)) (h : Heap) : Prop := (a == sysModules) = false ∧ xs.length ≤ sizeLine ∧ ∃ o es ep, h.get? a = some o ∧ o.ExactDict ∧ o.data = .dict es ep ∧ es.toList = xs.map (entN w)
def rawV (pg : Program) (w : World) (a : Addr) (kvs : List (NestedKey × Value)) (h : Heap) : Prop := (a == sysModules) = false ∧ kvs.length ≤ sizeLine ∧ h.DictOf (nvKind pg w) a kvs
end M7
end

noncomputable section
/-! ### the plain data of a run -/
namespace M7
open PySem L2

/-- a value as plain data: tuples, frozen lists, dicts and instances are trees; ref n: the n-th object of the logical heap -/
inductive U where
  | non | bl (b : Bool) | int (i : Int) | str (x : List Nat)
  | tup (xs : List U) | lst (xs : List U) | lsx (xs : List U) | obj (C : Nat) (ns : List Nat) (us : List U) | ref (n : Nat) | cls (C : Nat)

/-- a key of a dict -/
inductive KU where
  | i (n : Int) | s (x : List Nat)
def KU.key : KU → Key
  | .i n => .inl n
  | .s x => .inr ⟨x.toArray⟩
/-- what stands in the logical heap -/
inductive O where
  | lst (xs : List U) | dK (ks : List KU) (us : List U) | ins (C : Nat) (ns : List Nat) (us : List U)
  /-- a dict of other keys: None among them, or tuples -/
  | dN (ks us : List U)

def mapO {α β : Type} (f : α → Option β) : List α → Option (List β)
  | [] => some []
  | u :: us => match f u, mapO f us with
    | some a, some as => some (a :: as)
    | _, _ => none
/-- the key that a value is -/
def toNk : Nat → U → Option NestedKey
  | 0, _ => none
  | _ + 1, .non => some .none
  | _ + 1, .bl b => some (.num (if b = true then 1 else 0))
  | _ + 1, .int i => some (.num i)
  | _ + 1, .str x => some (.text ⟨x.toArray⟩)
  | n + 1, .tup xs => (mapO (toNk n) xs).map .tup
  | _ + 1, _ => none

structure HP where
  n : Nat
  m : Nat → Option O
def HP.empty : HP := ⟨0, fun _ => none⟩
def HP.set (h : HP) (i : Nat) (o : O) : HP := ⟨h.n, fun j => ifEq j i (some o) (h.m j)⟩
def HP.new (h : HP) (o : O) : HP := ⟨h.n + 1, fun j => ifEq j h.n (some o) (h.m j)⟩

/-- the facts of the text: the written part, the classes' addresses and the attributes' names by number -/
structure Par where
  K : PySem.W.Frag
  cA : Nat → Addr
  nm : Nat → Str
  w : World
  pg : Program

/-- W: addresses that no frozen value may stand at (lists that a frame still changes) -/
abbrev WS := Addr → Prop

section
variable (P : Par)
/-- tracked in H, not in the logical heap, not owned -/
def Fz (ρ : List Addr) (W : WS) (H : Hp) (a : Addr) (o : HO) : Prop := H a = some o ∧ a ∉ ρ ∧ ¬ W a
def KL (a : Addr) (xs : List V) : Prop := ∃ (o : Obj) (its : Array Value) (n : Nat), P.K.lookup a = some o ∧ o.cls = .type "list" ∧ o.dict = none ∧ o.data = .seq its n ∧ its.size ≤ sizeLine ∧ Vals xs its.toList
def KT' (a : Addr) (xs : List V) : Prop := ∃ (o : Obj) (its : Array Value) (n : Nat), P.K.lookup a = some o ∧ o.cls = .type "tuple" ∧ o.data = .seq its n ∧ its.size ≤ sizeLine ∧ Vals xs its.toList
/-- a list known to its object or the module's, a tuple, that nobody changes -/
def LAt (ρ : List Addr) (W : WS) (H : Hp) (a : Addr) (xs : List V) : Prop := (∃ o, Fz ρ W H a (.frz o (.lst xs))) ∨ KL P a xs
def TAt (ρ : List Addr) (W : WS) (H : Hp) (a : Addr) (xs : List V) : Prop := Fz ρ W H a (.tup xs) ∨ (∃ o, Fz ρ W H a (.frz o (.tup xs))) ∨ KT' P a xs

inductive RU (ρ : List Addr) (W : WS) (H : Hp) : U → V → Prop
  | non : RU ρ W H .non .non
  | bl (b : Bool) : RU ρ W H (.bl b) (.bl b)
  | int (i : Int) : RU ρ W H (.int i) (.int i)
  | str (x : List Nat) : RU ρ W H (.str x) (.str ⟨x.toArray⟩)
  | tup {xs : List U} {a : Addr} {vs : List V} (h : TAt P ρ W H a vs) (r : Paired (RU ρ W H) xs vs) : RU ρ W H (.tup xs) (.ref a)
  | lst {xs : List U} {a : Addr} {vs : List V} (h : Fz ρ W H a (.lst vs)) (r : Paired (RU ρ W H) xs vs) : RU ρ W H (.lst xs) (.ref a)
  | lsx {xs : List U} {a : Addr} {vs : List V} (h : LAt P ρ W H a vs) (r : Paired (RU ρ W H) xs vs) : RU ρ W H (.lsx xs) (.ref a)
  | obj {C : Nat} {ns : List Nat} {us : List U} {a dx : Addr} {fs : List (Str × V)} (h : Fz ρ W H a (.ins (P.cA C) dx fs)) (hn : fs.map (·.1) = ns.map P.nm)
      (r : Paired (RU ρ W H) us (fs.map (·.2))) : RU ρ W H (.obj C ns us) (.ref a)
  | ref {n : Nat} {a : Addr} (h : ρ[n]? = some a) : RU ρ W H (.ref n) (.ref a)
  | cls (C : Nat) : RU ρ W H (.cls C) (.ref (P.cA C))
abbrev RUs (ρ : List Addr) (W : WS) (H : Hp) : List U → List V → Prop := Paired (RU P ρ W H)

/-- an object of the logical heap, at a -/
inductive RO (ρ : List Addr) (W : WS) (H : Hp) (a : Addr) : O → Prop
  | lst {xs : List U} {vs : List V} (h : H a = some (.lst vs)) (r : RUs P ρ W H xs vs) : RO ρ W H a (.lst xs)
  | dK {ks : List KU} {us : List U} {kvs : List (Key × V)} (h : H a = some (.dK kvs)) (hk : kvs.map (·.1) = ks.map KU.key) (r : RUs P ρ W H us (kvs.map (·.2))) : RO ρ W H a (.dK ks us)
  | ins {C : Nat} {ns : List Nat} {us : List U} {dx : Addr} {fs : List (Str × V)} (h : H a = some (.ins (P.cA C) dx fs)) (hn : fs.map (·.1) = ns.map P.nm)
      (r : RUs P ρ W H us (fs.map (·.2))) : RO ρ W H a (.ins C ns us)
  | dV {ks us : List U} {kv : List (NestedKey × V)} {kvs : List (NestedKey × Value)} (h : H a = some (.ext (rawV P.pg P.w a kvs))) (hv : KV kv kvs) (hk : Paired (fun u q => toNk 8 u = some q ∧ q.depth = 0) ks (kv.map (·.1))) (r : RUs P ρ W H us (kv.map (·.2))) : RO ρ W H a (.dN ks us)
  | dN {ks us : List U} {kv : List (NestedKey × V)} {xs : List (NestedKey × Addr × Value)} (h : H a = some (.ext (rawN P.w a xs))) (hx : Paired (fun (p : NestedKey × V) (q : NestedKey × Addr × Value) => p.1 = q.1 ∧ RelV p.2 q.2.2) kv xs) (hk : Paired (fun u q => toNk 8 u = some q.1 ∧ RU P ρ W H u (.ref q.2.1)) ks xs) (nd : (xs.map (·.1)).Nodup) (r : RUs P ρ W H us (kv.map (·.2))) : RO ρ W H a (.dN ks us)

/-- the logical heap hp, laid at ρ -/
structure RH (ρ : List Addr) (W : WS) (hp : HP) (H : Hp) : Prop where
  len : hp.n = ρ.length
  nd : ρ.Nodup
  own : ∀ a ∈ ρ, ¬ W a
  there : ∀ a ∈ ρ, ∃ o, H a = some o
  wt : ∀ a, W a → ∃ o, H a = some o
  obj : ∀ i o, hp.m i = some o → ∃ a, ρ[i]? = some a ∧ RO P ρ W H a o
end

/-- behind: the logical heap may have grown; all else that was tracked is kept -/
structure Ext (ρ : List Addr) (H : Hp) (ρ' : List Addr) (H' : Hp) : Prop where
  pre : ∃ t, ρ' = ρ ++ t ∧ ∀ a ∈ t, H a = none
  keep : ∀ a o, H a = some o → a ∉ ρ → H' a = some o
  there : ∀ a o, H a = some o → ∃ o', H' a = some o'
  frz : ∀ a ob u, H a = some (.frz ob u) → H' a = some (.frz ob u)

section
variable {P : Par} {ρ ρ' ρ'' : List Addr} {W W' : WS} {H H' H'' : Hp}
theorem Ext.refl : Ext ρ H ρ H := ⟨⟨[], by simp, by simp⟩, fun _ _ h _ => h, fun _ o h => ⟨o, h⟩, fun _ _ _ h => h⟩
theorem Ext.notin (x : Ext ρ H ρ' H') {a : Addr} {o : HO} (h : H a = some o) (n : a ∉ ρ) : a ∉ ρ' := by
  obtain ⟨t, e, ht⟩ := x.pre
  rw [e]
  intro hm
  rcases List.mem_append.mp hm with q | q
  · exact n q
  · rw [ht a q] at h; cases h
theorem Ext.ix (x : Ext ρ H ρ' H') {n : Nat} {a : Addr} (h : ρ[n]? = some a) : ρ'[n]? = some a := by
  obtain ⟨t, e, _⟩ := x.pre
  rw [e, List.getElem?_append_left (List.getElem?_eq_some_iff.mp h).1]
  exact h
theorem Ext.trans (x : Ext ρ H ρ' H') (y : Ext ρ' H' ρ'' H'') : Ext ρ H ρ'' H'' := by
  obtain ⟨t, e, ht⟩ := x.pre
  obtain ⟨u, e', hu⟩ := y.pre
  refine ⟨⟨t ++ u, by rw [e', e, List.append_assoc], fun a ha => ?_⟩, fun a o h n => y.keep a o (x.keep a o h n) (x.notin h n), fun a o h => ?_, fun a ob u h => y.frz a ob u (x.frz a ob u h)⟩
  · rcases List.mem_append.mp ha with q | q
    · exact ht a q
    · cases z : H a with
      | none => rfl
      | some o =>
        obtain ⟨o', e2⟩ := x.there a o z
        rw [hu a q] at e2; cases e2
  · obtain ⟨o', h'⟩ := x.there a o h
    exact y.there a o' h'

/-- how a frozen thing stays: the new W' takes nothing of it -/
def Stay (ρ : List Addr) (W : WS) (H : Hp) (ρ' : List Addr) (W' : WS) (H' : Hp) : Prop :=
  (∀ a o, H a = some o → a ∉ ρ → ¬ W a → H' a = some o ∧ a ∉ ρ' ∧ ¬ W' a) ∧ ∀ (n : Nat) (a : Addr), ρ[n]? = some a → ρ'[n]? = some a
theorem Stay.fz (s : Stay ρ W H ρ' W' H') {a : Addr} {o : HO} (h : Fz ρ W H a o) : Fz ρ' W' H' a o := s.1 a o h.1 h.2.1 h.2.2
theorem Stay.lat (s : Stay ρ W H ρ' W' H') {a : Addr} {xs : List V} (h : LAt P ρ W H a xs) : LAt P ρ' W' H' a xs := by
  rcases h with ⟨o, h⟩ | h
  · exact .inl ⟨o, s.fz h⟩
  · exact .inr h
theorem Stay.tat (s : Stay ρ W H ρ' W' H') {a : Addr} {xs : List V} (h : TAt P ρ W H a xs) : TAt P ρ' W' H' a xs := by
  rcases h with h | ⟨o, h⟩ | h
  · exact .inl (s.fz h)
  · exact .inr (.inl ⟨o, s.fz h⟩)
  · exact .inr (.inr h)
mutual
theorem RU.stay (s : Stay ρ W H ρ' W' H') : ∀ {u : U} {v : V}, RU P ρ W H u v → RU P ρ' W' H' u v
  | _, _, .non => .non
  | _, _, .bl b => .bl b
  | _, _, .int i => .int i
  | _, _, .str x => .str x
  | _, _, .tup h r => .tup (s.tat h) (RUs.stay s r)
  | _, _, .lst h r => .lst (s.fz h) (RUs.stay s r)
  | _, _, .lsx h r => .lsx (s.lat h) (RUs.stay s r)
  | _, _, .obj h hn r => .obj (s.fz h) hn (RUs.stay s r)
  | _, _, .ref h => .ref (s.2 _ _ h)
  | _, _, .cls C => .cls C
theorem RUs.stay (s : Stay ρ W H ρ' W' H') : ∀ {us : List U} {vs : List V}, RUs P ρ W H us vs → RUs P ρ' W' H' us vs
  | _, _, .nil => .nil
  | _, _, .cons r t => .cons (RU.stay s r) (RUs.stay s t)
end
theorem Ext.stay (x : Ext ρ H ρ' H') : Stay ρ W H ρ' W H' := ⟨fun a o h n w => ⟨x.keep a o h n, x.notin h n, w⟩, fun _ _ h => x.ix h⟩
theorem RU.ext (x : Ext ρ H ρ' H') {u : U} {v : V} (r : RU P ρ W H u v) : RU P ρ' W H' u v := r.stay x.stay
theorem RUs.ext (x : Ext ρ H ρ' H') {us : List U} {vs : List V} (r : RUs P ρ W H us vs) : RUs P ρ' W H' us vs := RUs.stay x.stay r
end

/-! ### results -/
/-- an exception: its class by number, what it keeps -/
structure Ex where
  C : Nat
  /-- the field's name by number -/
  f : Nat
  us : List U

inductive R where
  | ok (u : U) (h : HP) | exc (x : Ex) (h : HP) | bad

/-- a slot: nothing known, a value, a list or dict or instance that this frame alone knows -/
inductive Sl where
  | no | val (u : U) | own (o : O)
abbrev SS := List Sl
abbrev ME := SS → HP → R

inductive RS where
  | nx (σ : SS) (h : HP) | rt (u : U) (h : HP) | ct (σ : SS) (h : HP) | bk (σ : SS) (h : HP) | exc (x : Ex) (h : HP) | bad
abbrev MS := SS → HP → RS

/-- a frame's own facts: the addresses owned ahead of it, the instance that its __init__ fills -/
structure FW where
  p : WS
  sf : Option Addr
instance : CoeFun FW (fun _ => Addr → Prop) := ⟨FW.p⟩
def O.isIns : O → Bool
  | .ins .. => true
  | _ => false
section
variable (P : Par)
/-- the exception x stands as the class cls with the own dict d -/
def RX (ρ : List Addr) (W : WS) (H : Hp) (x : Ex) (cls : Value) (d : Option Addr) : Prop :=
  cls = .ref (P.cA x.C) ∧ match x.us with
    | [] => True
    | [u] => ∃ a fs v, d = some a ∧ H a = some (.xd fs) ∧ fs = [(P.nm x.f, v)] ∧ a ∉ ρ ∧ ¬ W a ∧ RU P ρ W H u v
    | _ => False

/-- what is wanted behind an expression -/
def PostE (E : XK) (ρ : List Addr) (W : WS) (H : Hp) (Q : VK) : R → Prop
  | .ok u hp => ∀ ρ' H' v, Ext ρ H ρ' H' → RH P ρ' W hp H' → RU P ρ' W H' u v → Q v H'
  | .exc x hp => ∀ ρ' H' cls d, Ext ρ H ρ' H' → RH P ρ' W hp H' → RX P ρ' W H' x cls d → E cls d H'
  | .bad => False

/-- the slots -/
structure RSl (ρ : List Addr) (W0 : FW) (W : WS) (H : Hp) (σ' : SS) (σ : St) : Prop where
  len : σ'.length = σ.length
  sub : ∀ a, W0 a → W a
  val : ∀ (i : Nat) (u : U), σ'[i]? = some (Sl.val u) → ∃ v, σ[i]? = some (some v) ∧ RU P ρ W H u v
  own : ∀ (i : Nat) (o : O), σ'[i]? = some (Sl.own o) → ∃ a, σ[i]? = some (some (V.ref a)) ∧ W a ∧ ¬ W0 a ∧ RO P ρ W H a o ∧ (o.isIns = true → W0.sf = some a)
  one : ∀ (i j : Nat) (o o' : O) (a : Addr), σ'[i]? = some (Sl.own o) → σ'[j]? = some (Sl.own o') → σ[i]? = some (some (V.ref a)) → σ[j]? = some (some (V.ref a)) → i = j

/-- an expression's reading -/
def tM (E : XK) (m : ME) : TE := fun σ H Q => ∃ ρ W0 W σ' hp, RSl P ρ W0 W H σ' σ ∧ RH P ρ W hp H ∧ PostE P E ρ W H Q (m σ' hp)

theorem PostE.mono {E : XK} {ρ : List Addr} {W : WS} {H : Hp} {Q Q' : VK} (hq : ∀ v H', Q v H' → Q' v H') : ∀ {r : R}, PostE P E ρ W H Q r → PostE P E ρ W H Q' r
  | .ok _ _, h => fun ρ' H' v x rh ru => hq _ _ (h ρ' H' v x rh ru)
  | .exc _ _, h => h
  | .bad, h => h
end

section
variable {P : Par} {ρ ρ' : List Addr} {W : WS} {W0 : FW} {H H' : Hp} {σ' : SS} {σ : St} {hp : HP} {E : XK} {Q : VK}
/-- behind an Ext nothing owned has changed: it is not in ρ -/
theorem RO.keepOwn (x : Ext ρ H ρ' H') {a : Addr} {o : O} (na : a ∉ ρ) (r : RO P ρ W H a o) : RO P ρ' W H' a o := by
  cases r with
  | lst h r => exact .lst (x.keep _ _ h na) (RUs.ext x r)
  | dK h hk r => exact .dK (x.keep _ _ h na) hk (RUs.ext x r)
  | ins h hn r => exact .ins (x.keep _ _ h na) hn (RUs.ext x r)
  | dV h hk hv r => exact .dV (x.keep _ _ h na) hk hv (RUs.ext x r)
  | dN h hx hk nd r => exact .dN (x.keep _ _ h na) hx (Paired.mapP hk fun _ _ z => ⟨z.1, z.2.ext x⟩) nd (RUs.ext x r)
theorem RSl.ext (s : RSl P ρ W0 W H σ' σ) (rh : RH P ρ W hp H) (x : Ext ρ H ρ' H') : RSl P ρ' W0 W H' σ' σ :=
  ⟨s.len, s.sub, fun i u e => let ⟨v, h1, h2⟩ := s.val i u e; ⟨v, h1, h2.ext x⟩, fun i o e => let ⟨a, h1, h2, h3, h4, h5⟩ := s.own i o e; ⟨a, h1, h2, h3, h4.keepOwn x fun z => rh.own a z h2, h5⟩, s.one⟩
/-- the end of an expression: a value that needs no store -/
theorem PostE.pure {u : U} {v : V} (h : PostE P E ρ W H Q (.ok u hp)) (rh : RH P ρ W hp H) (ru : RU P ρ W H u v) : Q v H := h ρ H v Ext.refl rh ru
/-- an Ext ahead -/
theorem PostE.from (x : Ext ρ H ρ' H') : ∀ {r : R}, PostE P E ρ W H Q r → PostE P E ρ' W H' Q r
  | .ok _ _, h => fun ρ2 H2 v y rh ru => h ρ2 H2 v (x.trans y) rh ru
  | .exc _ _, h => fun ρ2 H2 c d y rh rx => h ρ2 H2 c d (x.trans y) rh rx
  | .bad, h => h

/-! ### names, constants -/
def eVar (i : Nat) : ME := fun σ h => match nthF σ i with
  | some (Sl.val u) => .ok u h
  | _ => .bad
def eC (u : U) : ME := fun _ h => .ok u h
theorem tM_var {X : Cx} {e : Expr} {i : Nat} (h : PE X e (tVar i)) : PE X e (tM P E (eVar i)) := ⟨fun pins s σ H Q I q => by
  obtain ⟨ρ, W0, W, σ', hp, rs, rh, po⟩ := q
  refine h.run pins s σ H Q I ?_
  unfold eVar at po
  rw [nthF_eq] at po
  split at po
  · rename_i u e
    obtain ⟨v, h1, h2⟩ := rs.val i u e
    exact ⟨v, h1, po.pure rh h2⟩
  · exact po.elim⟩
theorem tM_c {X : Cx} {e : Expr} {u : U} {v : V} (h : PE X e (tC v)) (r : ∀ ρ W H, RU P ρ W H u v) : PE X e (tM P E (eC u)) := ⟨fun pins s σ H Q I q => by
  obtain ⟨ρ, W0, W, σ', hp, rs, rh, po⟩ := q
  exact h.run pins s σ H Q I (po.pure rh (r _ _ _))⟩

/-! ### one expression, then more -/
def R.bind (r : R) (f : U → HP → R) : R := R.rec (motive := fun _ => R) (fun u h => f u h) (fun x h => .exc x h) .bad r
/-- the reading of an expression whose value goes on into f -/
theorem tM_then {m : ME} {f : U → HP → R} {σ : St} (rs : RSl P ρ W0 W H σ' σ) (rh : RH P ρ W hp H) (po : PostE P E ρ W H Q ((m σ' hp).bind f)) {R' : VK}
    (k : ∀ ρ1 H1 u v hp1, RSl P ρ1 W0 W H1 σ' σ → RH P ρ1 W hp1 H1 → RU P ρ1 W H1 u v → Ext ρ H ρ1 H1 → PostE P E ρ1 W H1 Q (f u hp1) → R' v H1) : tM P E m σ H R' := by
  refine ⟨ρ, W0, W, σ', hp, rs, rh, ?_⟩
  cases e : m σ' hp with
  | ok u hp1 =>
    rw [e] at po
    exact fun ρ1 H1 v x rh1 ru => k ρ1 H1 u v hp1 (rs.ext rh x) rh1 ru x (PostE.from x po)
  | exc x hp1 =>
    rw [e] at po
    exact po
  | bad =>
    rw [e] at po
    exact po

/-! ### argument lists -/
inductive RA where
  | ok (us : List U) (h : HP) | exc (x : Ex) (h : HP) | bad
abbrev MA := SS → HP → RA
def aNil : MA := fun _ h => .ok [] h
def aCons (m : ME) (ma : MA) : MA := fun σ h => match m σ h with
  | .ok u h1 => match ma σ h1 with
    | .ok us h2 => .ok (u :: us) h2
    | .exc x h2 => .exc x h2
    | .bad => .bad
  | .exc x h1 => .exc x h1
  | .bad => .bad
def RA.bind (r : RA) (f : List U → HP → R) : R := RA.rec (motive := fun _ => R) (fun u h => f u h) (fun x h => .exc x h) .bad r
def PostA (P : Par) (E : XK) (ρ : List Addr) (W : WS) (H : Hp) (Q : List V → Hp → Prop) : RA → Prop
  | .ok us hp => ∀ ρ' H' vs, Ext ρ H ρ' H' → RH P ρ' W hp H' → RUs P ρ' W H' us vs → Q vs H'
  | .exc x hp => ∀ ρ' H' cls d, Ext ρ H ρ' H' → RH P ρ' W hp H' → RX P ρ' W H' x cls d → E cls d H'
  | .bad => False
def tMA (P : Par) (E : XK) (m : MA) : TA := fun σ H Q => ∃ ρ W0 W σ' hp, RSl P ρ W0 W H σ' σ ∧ RH P ρ W hp H ∧ PostA P E ρ W H Q (m σ' hp)
theorem tMA_nil {X : Cx} : PA X [] (tMA P E aNil) := ⟨fun pos pins s σ H Q I q => by
  obtain ⟨ρ, W0, W, σ', hp, rs, rh, po⟩ := q
  exact pa_nil.run pos pins s σ H Q I (po ρ H [] Ext.refl rh .nil)⟩
theorem tMA_cons {X : Cx} {e : Expr} {es : List Expr} {m : ME} {ma : MA} (he : PE X e (tM P E m)) (hs : PA X es (tMA P E ma)) (hst : starEach (e :: es) X.env = (false, eval e X.env) :: starEach es X.env) : PA X (e :: es) (tMA P E (aCons m ma)) :=
  ⟨fun pos pins s σ H Q I q => by
  obtain ⟨ρ, W0, W, σ', hp, rs, rh, po⟩ := q
  refine (pa_cons he hs hst).run pos pins s σ H Q I ?_
  unfold aCons at po
  refine ⟨ρ, W0, W, σ', hp, rs, rh, ?_⟩
  cases e1 : m σ' hp with
  | bad => rw [e1] at po; exact po
  | exc x hp1 => rw [e1] at po; exact po
  | ok u hp1 =>
    rw [e1] at po
    intro ρ1 H1 v x1 rh1 ru1
    refine ⟨ρ1, W0, W, σ', hp1, rs.ext rh x1, rh1, ?_⟩
    dsimp only at po
    cases e2 : ma σ' hp1 with
    | bad => rw [e2] at po; exact po
    | exc x hp2 => rw [e2] at po; exact fun ρ2 H2 c d x2 rh2 rx => po ρ2 H2 c d (x1.trans x2) rh2 rx
    | ok us hp2 =>
      rw [e2] at po
      exact fun ρ2 H2 vs x2 rh2 rus => po ρ2 H2 (v :: vs) (x1.trans x2) rh2 (.cons (ru1.ext x2) rus)⟩
/-- the reading of arguments whose values go on into f -/
theorem tMA_then {m : MA} {f : List U → HP → R} {σ : St} (rs : RSl P ρ W0 W H σ' σ) (rh : RH P ρ W hp H) (po : PostE P E ρ W H Q ((m σ' hp).bind f)) {R' : List V → Hp → Prop}
    (k : ∀ ρ1 H1 us vs hp1, RSl P ρ1 W0 W H1 σ' σ → RH P ρ1 W hp1 H1 → RUs P ρ1 W H1 us vs → Ext ρ H ρ1 H1 → PostE P E ρ1 W H1 Q (f us hp1) → R' vs H1) : tMA P E m σ H R' := by
  refine ⟨ρ, W0, W, σ', hp, rs, rh, ?_⟩
  cases e : m σ' hp with
  | ok u hp1 =>
    rw [e] at po
    exact fun ρ1 H1 v x rh1 ru => k ρ1 H1 u v hp1 (rs.ext rh x) rh1 ru x (PostE.from x po)
  | exc x hp1 =>
    rw [e] at po
    exact po
  | bad =>
    rw [e] at po
    exact po
end
end M7
end

noncomputable section
namespace M7
open PySem L2

section
variable {P : Par} {ρ ρ' : List Addr} {W : WS} {W0 : FW} {H H' : Hp} {hp : HP} {E : XK} {Q : VK} {X : Cx}

/-! ### a new frozen object -/
theorem Ext.fresh {p : Addr} {o : HO} (hn : H p = none) : Ext ρ H ρ (upd H p o) :=
  ⟨⟨[], by simp, by simp⟩, fun a u h _ => by rw [upd_ne (ne_of_none h hn)]; exact h, fun a u h => ⟨u, by rw [upd_ne (ne_of_none h hn)]; exact h⟩, fun a ob u h => by rw [upd_ne (ne_of_none h hn)]; exact h⟩
theorem RH.fresh (rh : RH P ρ W hp H) {p : Addr} {o : HO} (hn : H p = none) : RH P ρ W hp (upd H p o) := by
  have x : Ext ρ H ρ (upd H p o) := Ext.fresh hn
  refine ⟨rh.len, rh.nd, rh.own, fun a ha => let ⟨o, h⟩ := rh.there a ha; x.there a o h, fun a ha => let ⟨o, h⟩ := rh.wt a ha; x.there a o h, fun i u e => ?_⟩
  obtain ⟨a, h1, r⟩ := rh.obj i u e
  refine ⟨a, h1, ?_⟩
  cases r with
  | lst h r => exact .lst (by rw [upd_ne (ne_of_none h hn)]; exact h) (RUs.ext x r)
  | dK h hk r => exact .dK (by rw [upd_ne (ne_of_none h hn)]; exact h) hk (RUs.ext x r)
  | ins h hn' r => exact .ins (by rw [upd_ne (ne_of_none h hn)]; exact h) hn' (RUs.ext x r)
  | dV h hk hv r => exact .dV (by rw [upd_ne (ne_of_none h hn)]; exact h) hk hv (RUs.ext x r)
  | dN h hx hk nd r => exact .dN (by rw [upd_ne (ne_of_none h hn)]; exact h) hx (Paired.mapP hk fun _ _ z => ⟨z.1, z.2.ext x⟩) nd (RUs.ext x r)
theorem RH.notin (rh : RH P ρ W hp H) {p : Addr} (hn : H p = none) : p ∉ ρ := fun z => by
  obtain ⟨o, h⟩ := rh.there p z
  rw [hn] at h; cases h
theorem RH.notW (rh : RH P ρ W hp H) {p : Addr} (hn : H p = none) : ¬ W p := fun z => by
  obtain ⟨o, h⟩ := rh.wt p z
  rw [hn] at h; cases h
theorem RU.newTup (rh : RH P ρ W hp H) {p : Addr} (hn : H p = none) {us : List U} {vs : List V} (r : RUs P ρ W H us vs) : RU P ρ W (upd H p (.tup vs)) (.tup us) (.ref p) :=
  .tup (.inl ⟨upd_same, rh.notin hn, rh.notW hn⟩) (RUs.ext (Ext.fresh hn) r)
theorem RU.newLst (rh : RH P ρ W hp H) {p : Addr} (hn : H p = none) {us : List U} {vs : List V} (r : RUs P ρ W H us vs) : RU P ρ W (upd H p (.lst vs)) (.lst us) (.ref p) :=
  .lst ⟨upd_same, rh.notin hn, rh.notW hn⟩ (RUs.ext (Ext.fresh hn) r)

/-! ### sequences among values -/
def fits (n : Nat) : Bool := Nat.ble n 16777216
theorem fits_le {n : Nat} (h : fits n = true) : n ≤ sizeLine := by rw [sizeLine_eq]; exact Nat.le_of_ble_eq_true h
def lstAt (h : HP) (n : Nat) : Option (List U) := match h.m n with
  | some (.lst xs) => some xs
  | _ => none
theorem lstAt_eq {h : HP} {n : Nat} {xs : List U} (e : lstAt h n = some xs) : h.m n = some (.lst xs) := by
  unfold lstAt at e
  split at e
  · rename_i ys q
    cases e
    exact q
  · cases e
def asLst (h : HP) : U → Option (List U)
  | .lst xs => some xs
  | .lsx xs => some xs
  | .ref n => lstAt h n
  | _ => none
/-- a list that is tracked as a plain one -/
def asLstT (h : HP) : U → Option (List U)
  | .lst xs => some xs
  | .ref n => lstAt h n
  | _ => none
theorem asLstT_ok (rh : RH P ρ W hp H) {u : U} {v : V} {xs : List U} (r : RU P ρ W H u v) (e : asLstT hp u = some xs) : ∃ a vs, v = .ref a ∧ H a = some (.lst vs) ∧ RUs P ρ W H xs vs := by
  cases r with
  | lst h r =>
    have e' : xs = _ := (Option.some.inj e).symm
    subst e'
    exact ⟨_, _, rfl, h.1, r⟩
  | @ref n a h =>
    obtain ⟨b, hb, ro⟩ := rh.obj _ _ (lstAt_eq e)
    rw [h] at hb
    cases hb
    cases ro with
    | lst hl rl => exact ⟨_, _, rfl, hl, rl⟩
  | _ => cases e
def asTup : U → Option (List U)
  | .tup xs => some xs
  | _ => none
def asSeq (h : HP) (u : U) : Option (List U) := match asTup u with
  | some xs => some xs
  | none => asLst h u
theorem LAt.sq {a : Addr} {xs : List V} (h : LAt P ρ W H a xs) : SqL P.K H a xs := by
  rcases h with ⟨o, h⟩ | h
  · exact .inl (.inr ⟨o, h.1⟩)
  · exact .inr h
theorem TAt.sq {a : Addr} {xs : List V} (h : TAt P ρ W H a xs) : SqT P.K H a xs := by
  rcases h with h | ⟨o, h⟩ | h
  · exact .inl (.inl h.1)
  · exact .inl (.inr ⟨o, h.1⟩)
  · exact .inr h
theorem asLst_ok (rh : RH P ρ W hp H) {u : U} {v : V} {xs : List U} (r : RU P ρ W H u v) (e : asLst hp u = some xs) : ∃ a vs, v = .ref a ∧ SqL P.K H a vs ∧ RUs P ρ W H xs vs := by
  cases r with
  | lst h r =>
    have e' : xs = _ := (Option.some.inj e).symm
    subst e'
    exact ⟨_, _, rfl, SqL.of h.1, r⟩
  | lsx h r =>
    have e' : xs = _ := (Option.some.inj e).symm
    subst e'
    exact ⟨_, _, rfl, h.sq, r⟩
  | @ref n a h =>
    obtain ⟨b, hb, ro⟩ := rh.obj _ _ (lstAt_eq e)
    rw [h] at hb
    cases hb
    cases ro with
    | lst hl rl => exact ⟨_, _, rfl, SqL.of hl, rl⟩
  | _ => cases e
theorem asTup_ok {u : U} {v : V} {xs : List U} (r : RU P ρ W H u v) (e : asTup u = some xs) : ∃ a vs, v = .ref a ∧ TAt P ρ W H a vs ∧ RUs P ρ W H xs vs := by
  cases r with
  | tup h r =>
    have e' : xs = _ := (Option.some.inj e).symm
    subst e'
    exact ⟨_, _, rfl, h, r⟩
  | _ => cases e
theorem asSeq_ok (rh : RH P ρ W hp H) {u : U} {v : V} {xs : List U} (r : RU P ρ W H u v) (e : asSeq hp u = some xs) : ∃ a vs, v = .ref a ∧ (SqL P.K H a vs ∨ SqT P.K H a vs) ∧ RUs P ρ W H xs vs := by
  unfold asSeq at e
  cases q : asTup u with
  | some ys =>
    rw [q] at e
    cases e
    obtain ⟨a, vs, h1, h2, h3⟩ := asTup_ok r q
    exact ⟨a, vs, h1, .inr h2.sq, h3⟩
  | none =>
    rw [q] at e
    obtain ⟨a, vs, h1, h2, h3⟩ := asLst_ok rh r e
    exact ⟨a, vs, h1, .inl h2, h3⟩

/-! ### operations on values -/
/-- what a continuation asks of a value that needs no store in the logical heap -/
def Cont (P : Par) (ρ : List Addr) (W : WS) (hp : HP) (H : Hp) (Q : VK) (r : U) : Prop := ∀ ρ' H' z, Ext ρ H ρ' H' → RH P ρ' W hp H' → RU P ρ' W H' r z → Q z H'
theorem Cont.now {r : U} {z : V} (c : Cont P ρ W hp H Q r) (rh : RH P ρ W hp H) (ru : RU P ρ W H r z) : Q z H := c ρ H z Ext.refl rh ru
theorem Cont.newLst {us : List U} {vs : List V} (c : Cont P ρ W hp H Q (.lst us)) (rh : RH P ρ W hp H) (r : RUs P ρ W H us vs) : ∀ p, H p = none → Q (.ref p) (upd H p (.lst vs)) := fun p hn => c ρ _ _ (Ext.fresh hn) (rh.fresh hn) (RU.newLst rh hn r)
theorem Cont.newTup {us : List U} {vs : List V} (c : Cont P ρ W hp H Q (.tup us)) (rh : RH P ρ W hp H) (r : RUs P ρ W H us vs) : ∀ p, H p = none → Q (.ref p) (upd H p (.tup vs)) := fun p hn => c ρ _ _ (Ext.fresh hn) (rh.fresh hn) (RU.newTup rh hn r)

abbrev G1 := HP → U → Option U
abbrev G2 := HP → U → U → Option U
def OpM (P : Par) (X : Cx) (f : Value → Value → Sem Value) (g : G2) : Prop :=
  ∀ (pins : List (Addr × Obj)) (s : Shared) (σ : St) (H : Hp) (x y : V) (v u : Value) (Q : VK) (ρ : List Addr) (W : WS) (hp : HP) (a b r : U), Inv X pins σ H s → RelV x v → RelV y u → RH P ρ W hp H → RU P ρ W H a x → RU P ρ W H b y →
    g hp a b = some r → Cont P ρ W hp H Q r → wpAny (model X.prog X.w) X.A (f v u) (EP X pins σ Q) X.xe s
theorem OpM.of {f : Value → Value → Sem Value} {g : G2} {r : R2} (ho : OpR X f r)
    (h : ∀ (H : Hp) (x y : V) (Q : VK) (ρ : List Addr) (W : WS) (hp : HP) (a b c : U), RH P ρ W hp H → RU P ρ W H a x → RU P ρ W H b y → g hp a b = some c → Cont P ρ W hp H Q c → r x y H Q) : OpM P X f g :=
  fun pins s σ H x y v u Q ρ W hp a b c I rx ry rh ra rb e k => ho pins s σ H x y v u Q I rx ry (h H x y Q ρ W hp a b c rh ra rb e k)
/-- the first that answers -/
def gOr (g g' : G2) : G2 := fun h a b => match g h a b with
  | some r => some r
  | none => g' h a b
theorem OpM.or {f : Value → Value → Sem Value} {g g' : G2} (h : OpM P X f g) (h' : OpM P X f g') : OpM P X f (gOr g g') :=
  fun pins s σ H x y v u Q ρ W hp a b r I rx ry rh ra rb e k => by
  unfold gOr at e
  cases q : g hp a b with
  | some c =>
    rw [q] at e
    cases e
    exact h pins s σ H x y v u Q ρ W hp a b _ I rx ry rh ra rb q k
  | none =>
    rw [q] at e
    exact h' pins s σ H x y v u Q ρ W hp a b r I rx ry rh ra rb e k
def eBin (g : G2) (ma mb : ME) : ME := fun σ h => (ma σ h).bind fun x h1 => (mb σ h1).bind fun y h2 => match g h2 x y with
  | some r => .ok r h2
  | none => .bad
theorem bin_run {a b : Expr} {ma mb : ME} {g : G2} {f : Value → Value → Sem Value} (ha : PE X a (tM P E ma)) (hb : PE X b (tM P E mb)) (ho : OpM P X f g) {pins : List (Addr × Obj)} {s : Shared} {σ : St} {H : Hp} {Q : VK} (I : Inv X pins σ H s)
    (q : tM P E (eBin g ma mb) σ H Q) : wpAny (model X.prog X.w) X.A (eval a X.env) (fun v s₁ => wpAny (model X.prog X.w) X.A (eval b X.env) (fun u s₂ => wpAny (model X.prog X.w) X.A (f v u) (EP X pins σ Q) X.xe s₂) X.xe s₁) X.xe s := by
  obtain ⟨ρ, W0, W, σ', hp, rs, rh, po⟩ := q
  unfold eBin at po
  refine thn (ha.run pins s σ H (fun x H1 => ∃ ρ1 u hp1, RSl P ρ1 W0 W H1 σ' σ ∧ RH P ρ1 W hp1 H1 ∧ RU P ρ1 W H1 u x ∧ PostE P E ρ1 W H1 Q ((mb σ' hp1).bind fun y h2 => match g h2 u y with | some r => .ok r h2 | none => .bad)) I
    (tM_then rs rh po fun ρ1 H1 u v hp1 rs1 rh1 ru1 x1 po1 => ⟨ρ1, u, hp1, rs1, rh1, ru1, po1⟩)) fun v s1 ⟨x, H1, I1, r1, ρ1, u1, hp1, rs1, rh1, ru1, po1⟩ => ?_
  refine thn (hb.run pins s1 σ H1 (fun y H2 => ∃ ρ2 u2 hp2, RH P ρ2 W hp2 H2 ∧ RU P ρ2 W H2 u1 x ∧ RU P ρ2 W H2 u2 y ∧ PostE P E ρ2 W H2 Q (match g hp2 u1 u2 with | some r => .ok r hp2 | none => .bad)) I1
    (tM_then rs1 rh1 po1 fun ρ2 H2 u v hp2 rs2 rh2 ru2 x2 po2 => ⟨ρ2, u, hp2, rh2, ru1.ext x2, ru2, po2⟩)) fun u s2 ⟨y, H2, I2, r2, ρ2, u2, hp2, rh2, ra, rb, po2⟩ => ?_
  cases e : g hp2 u1 u2 with
  | none => rw [e] at po2; exact po2.elim
  | some r =>
    rw [e] at po2
    exact ho pins s2 σ H2 x y v u Q ρ2 W hp2 u1 u2 r I2 r1 r2 rh2 ra rb e po2
theorem tM_bin {a b : Expr} {ma mb : ME} {g : G2} {op : Operator} {pos : Pos} (ho : OpM P X (binaryOp op) g) (ha : PE X a (tM P E ma)) (hb : PE X b (tM P E mb)) : PE X (.BinOp a op b pos) (tM P E (eBin g ma mb)) :=
  ⟨fun pins s σ H Q I q => wpAny_BinOp (bin_run ha hb ho I q)⟩
theorem tM_cmp {a b : Expr} {ma mb : ME} {g : G2} {op : CmpOp} {pos : Pos} (ho : OpM P X (compareOp op) g) (ha : PE X a (tM P E ma)) (hb : PE X b (tM P E mb)) (hm : behindInMarks op b = false) : PE X (.Compare a [op] [b] pos) (tM P E (eBin g ma mb)) :=
  ⟨fun pins s σ H Q I q => wpAny_Compare1 (bin_run ha hb ho I q) hm⟩

/-! ### arithmetic -/
def gII (f : Int → Int → Option Int) : G2 := fun _ a b => match a, b with
  | .int i, .int j => (f i j).map .int
  | _, _ => none
theorem gII_ok {f : Int → Int → Option Int} {a b c : U} {x y : V} (ra : RU P ρ W H a x) (rb : RU P ρ W H b y) (e : gII f hp a b = some c) : ∃ i j k, x = .int i ∧ y = .int j ∧ f i j = some k ∧ c = .int k := by
  unfold gII at e
  split at e
  · cases ra
    cases rb
    obtain ⟨k, h1, h2⟩ := Option.map_eq_some_iff.mp e
    exact ⟨_, _, k, rfl, rfl, h1, h2.symm⟩
  · cases e
theorem om_ii0 {f : Value → Value → Sem Value} {g : Int → Int → Int} (ho : OpR X f (rI0 fun i j => .int (g i j))) : OpM P X f (gII fun i j => some (g i j)) :=
  OpM.of ho fun H x y Q ρ W hp a b c rh ra rb e k => by
    obtain ⟨i, j, z, rfl, rfl, h1, rfl⟩ := gII_ok ra rb e
    cases h1
    exact ⟨i, j, rfl, rfl, k.now rh (.int _)⟩
theorem om_ii {f : Value → Value → Sem Value} {C : Int → Int → Prop} {g : Int → Int → Int} {b : Int → Int → Bool} (ho : OpR X f (rI C fun i j => .int (g i j))) (hb : ∀ i j, b i j = true → C i j) :
    OpM P X f (gII fun i j => if b i j = true then some (g i j) else none) :=
  OpM.of ho fun H x y Q ρ W hp a' b' c rh ra rb e k => by
    obtain ⟨i, j, z, rfl, rfl, h1, rfl⟩ := gII_ok ra rb e
    split at h1
    · rename_i hc
      cases h1
      exact ⟨i, j, rfl, rfl, hb i j hc, k.now rh (.int _)⟩
    · cases h1
def gAddS : G2 := fun _ a b => match a, b with
  | .str x, .str y => if fits (x.length + y.length) = true then some (.str (x ++ y)) else none
  | _, _ => none
theorem om_addS : OpM P X (binaryOp .Add) gAddS := OpM.of op_add_str fun H x y Q ρ W hp a b c rh ra rb e k => by
  unfold gAddS at e
  split at e
  · split at e
    · rename_i x y hf
      cases e
      cases ra
      cases rb
      refine ⟨_, _, rfl, rfl, ?_, ?_⟩
      · have := fits_le hf
        simpa [Str.length] using this
      · have z := k.now rh (.str _)
        have e2 : (⟨(x ++ y).toArray⟩ : Str) = (⟨x.toArray⟩ : Str) ++ (⟨y.toArray⟩ : Str) := by
          show _ = Str.append _ _
          unfold Str.append
          simp
        rw [← e2]
        exact z
    · cases e
  · cases e
theorem RUs.append : ∀ {xs ys : List U} {vs ws : List V}, RUs P ρ W H xs vs → RUs P ρ W H ys ws → RUs P ρ W H (xs ++ ys) (vs ++ ws)
  | _, _, _, _, .nil, s => s
  | _, _, _, _, .cons r t, s => .cons r (RUs.append t s)
end
end M7
end

noncomputable section
namespace M7
open PySem L2

section
variable {P : Par} {ρ ρ' : List Addr} {W : WS} {W0 : FW} {H H' : Hp} {hp : HP} {E : XK} {Q : VK} {X : Cx}

theorem RUs.nil_iff {us : List U} {vs : List V} (r : RUs P ρ W H us vs) : vs = [] ↔ us = [] := by cases r <;> simp
/-! ### sequences: +, * -/
def gAddL : G2 := fun h a b => match asLstT h a, asLstT h b with
  | some xs, some ys => if fits (xs.length + ys.length) = true then some (.lst (xs ++ ys)) else none
  | _, _ => none
theorem om_addL : OpM P X (binaryOp .Add) gAddL := OpM.of op_cat fun H x y Q ρ W hp a b c rh ra rb e k => by
  unfold gAddL at e
  split at e
  · rename_i xs ys ea eb
    split at e
    · rename_i hf
      cases e
      obtain ⟨l, vs, rfl, h1, r1⟩ := asLstT_ok rh ra ea
      obtain ⟨m, ws, rfl, h2, r2⟩ := asLstT_ok rh rb eb
      refine ⟨l, m, vs, ws, rfl, rfl, h1, h2, ?_, k.newLst rh (r1.append r2)⟩
      rw [← r1.length, ← r2.length]
      exact fits_le hf
    · cases e
  · cases e
def gAddT : G2 := fun _ a b => match asTup a, asTup b with
  | some xs, some ys => if fits (xs.length + ys.length) = true then some (.tup (xs ++ ys)) else none
  | _, _ => none
theorem om_addT (hK : X.K = P.K) : OpM P X (binaryOp .Add) gAddT := OpM.of op_catA fun H x y Q ρ W hp a b c rh ra rb e k => by
  unfold gAddT at e
  split at e
  · rename_i xs ys ea eb
    split at e
    · rename_i hf
      cases e
      obtain ⟨l, vs, rfl, h1, r1⟩ := asTup_ok ra ea
      obtain ⟨m, ws, rfl, h2, r2⟩ := asTup_ok rb eb
      refine ⟨l, m, vs, ws, rfl, rfl, by rw [hK]; exact h1.sq, by rw [hK]; exact h2.sq, ?_, fun z => ?_, fun _ z => ?_, fun _ _ => k.newTup rh (r1.append r2)⟩
      · rw [← r1.length, ← r2.length]
        exact fits_le hf
      · have := r1.nil_iff.mp z
        subst this
        exact k.now rh (.tup h2 r2)
      · have := r2.nil_iff.mp z
        subst this
        rw [List.append_nil] at k
        exact k.now rh (.tup h1 r1)
    · cases e
  · cases e
def repU (xs : List U) : Nat → List U
  | 0 => []
  | n + 1 => xs ++ repU xs n
theorem repU_ok {xs : List U} {vs : List V} (r : RUs P ρ W H xs vs) : ∀ n, RUs P ρ W H (repU xs n) (List.replicate n vs).flatten
  | 0 => .nil
  | n + 1 => by
    rw [List.replicate_succ, List.flatten_cons]
    exact r.append (repU_ok r n)
def gMulL : G2 := fun h a b => match asLstT h a, b with
  | some xs, .int k => if (Nat.ble (xs.length * k.toNat) 16777216 && decide (-(2 ^ 63) ≤ k) && decide (k < 2 ^ 63)) = true then some (.lst (repU xs k.toNat)) else none
  | _, _ => none
theorem om_mulL : OpM P X (binaryOp .Mult) gMulL := OpM.of op_rep fun H x y Q ρ W hp a b c rh ra rb e k => by
  unfold gMulL at e
  split at e
  · rename_i xs n ea
    split at e
    · rename_i hf
      cases e
      simp only [Bool.and_eq_true, decide_eq_true_eq] at hf
      obtain ⟨l, vs, rfl, h1, r1⟩ := asLstT_ok rh ra ea
      cases rb
      refine ⟨l, n, vs, rfl, rfl, h1, hf.1.2, hf.2, ?_, k.newLst rh (repU_ok r1 _)⟩
      rw [← r1.length]
      exact fits_le hf.1.1
    · cases e
  · cases e
def gMulT : G2 := fun _ a b => match asTup a, b with
  | some xs, .int k => if (Nat.ble xs.length 1000 && Nat.ble 1 xs.length && decide (2 ≤ k) && decide (k ≤ 1000)) = true then some (.tup (repU xs k.toNat)) else none
  | _, _ => none
theorem om_mulT (hK : X.K = P.K) : OpM P X (binaryOp .Mult) gMulT := OpM.of op_repT fun H x y Q ρ W hp a b c rh ra rb e k => by
  unfold gMulT at e
  split at e
  · rename_i xs n ea
    split at e
    · rename_i hf
      cases e
      simp only [Bool.and_eq_true, decide_eq_true_eq] at hf
      obtain ⟨l, vs, rfl, h1, r1⟩ := asTup_ok ra ea
      cases rb
      have hl := r1.length
      have h1' := Nat.le_of_ble_eq_true hf.1.1.1
      have h2' := Nat.le_of_ble_eq_true hf.1.1.2
      refine ⟨l, n, vs, rfl, rfl, by rw [hK]; exact h1.sq, fun z => ?_, hf.1.2, hf.2, by omega, k.newTup rh (repU_ok r1 _)⟩
      rw [z, List.length_nil] at hl
      omega
    · cases e
  · cases e

/-! ### data -/
mutual
/-- a value as data: depth, all signs in the line -/
def toPy : Nat → HP → U → Option PyData
  | 0, _, _ => none
  | _ + 1, _, .non => some .none
  | _ + 1, _, .bl b => some (.bool b)
  | _ + 1, _, .int i => some (.int i)
  | _ + 1, _, .str x => some (.str ⟨x.toArray⟩)
  | n + 1, h, .tup xs => (toPys n h xs).map .tuple
  | n + 1, h, .lst xs => (toPys n h xs).map .list
  | n + 1, h, .lsx xs => (toPys n h xs).map .list
  | n + 1, h, .ref m => match lstAt h m with
    | some xs => (toPys n h xs).map .list
    | none => none
  | _ + 1, _, .obj .. => none
  | _ + 1, _, .cls _ => none
def toPys : Nat → HP → List U → Option (List PyData)
  | 0, _, _ => none
  | _ + 1, _, [] => some []
  | n + 1, h, u :: us => match toPy n h u, toPys n h us with
    | some d, some ds => some (d :: ds)
    | _, _ => none
end

variable (P)
theorem dp_all {K : PySem.W.Frag} {H : Hp} : ∀ {vs : List V} {ds : List PyData}, Paired (Dp K H) vs ds → DpAll K H vs ds
  | _, _, .nil => .nil
  | _, _, .cons r t => .cons r (dp_all t)
variable {P}
mutual
theorem toPy_ok (rh : RH P ρ W hp H) : ∀ (n : Nat) {u : U} {v : V} {d : PyData}, RU P ρ W H u v → toPy n hp u = some d → Dp P.K H v d
  | 0, u, v, d, r, e => by cases u <;> cases e
  | n + 1, u, v, d, r, e => by
    cases r with
    | non => cases e; exact .non
    | bl b => cases e; exact .bl b
    | int i => cases e; exact .int i
    | str x => cases e; exact .str _
    | tup h r =>
      obtain ⟨ds, e1, rfl⟩ := Option.map_eq_some_iff.mp e
      exact .tup h.sq (toPys_ok rh n r e1)
    | lst h r =>
      obtain ⟨ds, e1, rfl⟩ := Option.map_eq_some_iff.mp e
      exact .lst (SqL.of h.1) (toPys_ok rh n r e1)
    | lsx h r =>
      obtain ⟨ds, e1, rfl⟩ := Option.map_eq_some_iff.mp e
      exact .lst h.sq (toPys_ok rh n r e1)
    | @ref m a h =>
      have e' : (match lstAt hp m with
        | some xs => (toPys n hp xs).map PyData.list
        | none => none) = some d := e
      split at e'
      · rename_i xs q
        obtain ⟨ds, e1, rfl⟩ := Option.map_eq_some_iff.mp e'
        obtain ⟨b, hb, ro⟩ := rh.obj _ _ (lstAt_eq q)
        rw [h] at hb
        cases hb
        cases ro with
        | lst hl rl => exact .lst (SqL.of hl) (toPys_ok rh n rl e1)
      · cases e'
    | obj h hn r => cases e
    | cls C => cases e
theorem toPys_ok (rh : RH P ρ W hp H) : ∀ (n : Nat) {us : List U} {vs : List V} {ds : List PyData}, RUs P ρ W H us vs → toPys n hp us = some ds → DpAll P.K H vs ds
  | 0, us, vs, ds, r, e => by cases us <;> cases e
  | n + 1, us, vs, ds, r, e => by
    cases r with
    | nil => cases e; exact .nil
    | @cons u v us vs r t =>
      have e' : (match toPy n hp u, toPys n hp us with
        | some d, some ds => some (d :: ds)
        | _, _ => none) = some ds := e
      split at e'
      · rename_i d ds' q1 q2
        cases e'
        exact .cons (toPy_ok rh n r q1) (toPys_ok rh n t q2)
      · cases e'
end

/-! ### == and != -/
/-- texts alike -/
def scalU.listEq (x y : List Nat) : Bool := List.rec (motive := fun _ => List Nat → Bool) (fun ys => List.rec true (fun _ _ _ => false) ys) (fun x _ ih ys => List.rec false (fun y r _ => Bool.rec false (ih r) (Nat.beq x y)) ys) x y
theorem listEq_iff : ∀ (x y : List Nat), scalU.listEq x y = decide (x = y)
  | [], [] => by simp [scalU.listEq]
  | [], _ :: _ => by simp [scalU.listEq]
  | _ :: _, [] => by simp [scalU.listEq]
  | x :: xs, y :: ys => by
    have ih := listEq_iff xs ys
    show (Bool.rec false (scalU.listEq xs ys) (Nat.beq x y) : Bool) = _
    cases e : Nat.beq x y with
    | true =>
      have := Nat.eq_of_beq_eq_true e
      subst this
      show scalU.listEq xs ys = _
      rw [ih]
      simp
    | false =>
      have := Nat.ne_of_beq_eq_false e
      simp [this]
/-- the scalars that == tells apart as data does -/
def scalU (a b : U) : Option Bool := match a with
  | .non => match b with
    | .non => some true
    | .int _ => some false
    | .bl _ => some false
    | .str _ => some false
    | _ => none
  | .int i => match b with
    | .int j => some (eqZ i j)
    | .non => some false
    | .str _ => some false
    | _ => none
  | .str x => match b with
    | .str y => some (scalU.listEq x y)
    | .non => some false
    | .int _ => some false
    | .bl _ => some false
    | _ => none
  | .bl c => match b with
    | .bl d => some (c == d)
    | .non => some false
    | .str _ => some false
    | _ => none
  | _ => none
theorem scalU_ok {a b : U} {x y : V} {k : Bool} (ra : RU P ρ W H a x) (rb : RU P ρ W H b y) (e : scalU a b = some k) : scal x y = true ∧ decide (x = y) = k := by
  cases ra <;> cases rb <;> first
    | (cases e; refine ⟨rfl, ?_⟩; first | (rw [listEq_iff]; simp; done) | (rw [eqZ_eq]; simp; done) | (rename_i a b; cases a <;> cases b <;> rfl) | (simp; done))
    | cases e
def gEqS (neg : Bool) : G2 := fun _ a b => (scalU a b).map fun k => .bl (if neg then !k else k)
theorem om_eqS : OpM P X (compareOp .Eq) (gEqS false) := OpM.of op_eq fun H x y Q ρ W hp a b c rh ra rb e k => by
  obtain ⟨q, h1, rfl⟩ := Option.map_eq_some_iff.mp e
  obtain ⟨h2, h3⟩ := scalU_ok ra rb h1
  refine ⟨h2, ?_⟩
  rw [h3]
  exact k.now rh (.bl _)
theorem om_neS : OpM P X (compareOp .NotEq) (gEqS true) := OpM.of op_ne fun H x y Q ρ W hp a b c rh ra rb e k => by
  obtain ⟨q, h1, rfl⟩ := Option.map_eq_some_iff.mp e
  obtain ⟨h2, h3⟩ := scalU_ok ra rb h1
  refine ⟨h2, ?_⟩
  rw [h3]
  exact k.now rh (.bl _)
def deep : Nat := 3000
/-- as data of any depth up to 64 -/
def gEqD (neg : Bool) : G2 := fun h a b => match toPy deep h a, toPy deep h b with
  | some d, some e => if (SeqAt.shaped d && SeqAt.shaped e) = true then some (.bl (if neg then !PyData.eqv d e else PyData.eqv d e)) else none
  | _, _ => none
theorem om_eqD (hK : X.K = P.K) (hu : X.A.units + 64 < cLine) : OpM P X (compareOp .Eq) (gEqD false) := OpM.of (op_eqD hu) fun H x y Q ρ W hp a b c rh ra rb e k => by
  unfold gEqD at e
  split at e
  · rename_i d d' ea eb
    split at e
    · rename_i hs
      cases e
      simp only [Bool.and_eq_true] at hs
      rw [hK]
      exact ⟨d, d', toPy_ok rh _ ra ea, toPy_ok rh _ rb eb, hs.1, hs.2, k.now rh (.bl _)⟩
    · cases e
  · cases e
theorem om_neD (hK : X.K = P.K) (hu : X.A.units + 64 < cLine) : OpM P X (compareOp .NotEq) (gEqD true) := OpM.of (op_neD hu) fun H x y Q ρ W hp a b c rh ra rb e k => by
  unfold gEqD at e
  split at e
  · rename_i d d' ea eb
    split at e
    · rename_i hs
      cases e
      simp only [Bool.and_eq_true] at hs
      rw [hK]
      exact ⟨d, d', toPy_ok rh _ ra ea, toPy_ok rh _ rb eb, hs.1, hs.2, k.now rh (.bl _)⟩
    · cases e
  · cases e
def gEq : G2 := gOr (gEqS false) (gEqD false)
def gNe : G2 := gOr (gEqS true) (gEqD true)
theorem om_eq (hK : X.K = P.K) (hu : X.A.units + 64 < cLine) : OpM P X (compareOp .Eq) gEq := om_eqS.or (om_eqD hK hu)
theorem om_ne (hK : X.K = P.K) (hu : X.A.units + 64 < cLine) : OpM P X (compareOp .NotEq) gNe := om_neS.or (om_neD hK hu)

/-! ### order -/
def gCmpI (f : Int → Int → Bool) : G2 := fun _ a b => match a, b with
  | .int i, .int j => some (.bl (f i j))
  | _, _ => none
theorem om_cmpI {f : Value → Value → Sem Value} {g : Int → Int → Bool} (ho : OpR X f (rI0 fun i j => .bl (g i j))) : OpM P X f (gCmpI g) := OpM.of ho fun H x y Q ρ W hp a b c rh ra rb e k => by
  unfold gCmpI at e
  split at e
  · cases e
    cases ra
    cases rb
    exact ⟨_, _, rfl, rfl, k.now rh (.bl _)⟩
  · cases e
def ltL : List Nat → List Nat → Bool
  | [], [] => false
  | [], _ :: _ => true
  | _ :: _, [] => false
  | x :: xs, y :: ys => match Nat.beq x y with
    | true => ltL xs ys
    | false => Nat.blt x y
theorem ltL_iff : ∀ x y : List Nat, ltL x y = decide (x < y)
  | [], [] => by simp [ltL]
  | [], _ :: _ => by simp [ltL]
  | _ :: _, [] => by simp [ltL]
  | x :: xs, y :: ys => by
    unfold ltL
    cases e : Nat.beq x y with
    | true =>
      have := Nat.eq_of_beq_eq_true e
      subst this
      rw [ltL_iff xs ys]
      simp
    | false =>
      have := Nat.ne_of_beq_eq_false e
      cases q : Nat.blt x y with
      | true =>
        have q' : x < y := Nat.le_of_ble_eq_true q
        simp [List.cons_lt_cons_iff, q']
      | false =>
        have q' : ¬ x < y := fun z => by
          have : Nat.blt x y = true := Nat.ble_eq_true_of_le z
          rw [this] at q; cases q
        simp [List.cons_lt_cons_iff, q', this]
def gLtS : G2 := fun _ a b => match a, b with
  | .str x, .str y => some (.bl (ltL x y))
  | _, _ => none
theorem om_ltS : OpM P X (compareOp .Lt) gLtS := OpM.of op_lt_str fun H x y Q ρ W hp a b c rh ra rb e k => by
  unfold gLtS at e
  split at e
  · cases e
    cases ra
    cases rb
    refine ⟨_, _, rfl, rfl, ?_⟩
    have z := k.now rh (.bl _)
    rw [ltL_iff] at z
    exact z
  · cases e
def gGtS : G2 := fun _ a b => match a, b with
  | .str x, .str y => some (.bl (ltL y x))
  | _, _ => none
theorem om_gtS : OpM P X (compareOp .Gt) gGtS := OpM.of op_gt_str fun H x y Q ρ W hp a b c rh ra rb e k => by
  unfold gGtS at e
  split at e
  · cases e
    cases ra
    cases rb
    refine ⟨_, _, rfl, rfl, ?_⟩
    have z := k.now rh (.bl _)
    rw [ltL_iff] at z
    exact z
  · cases e
def gLt : G2 := gOr (gCmpI fun i j => decide (i < j)) gLtS
def gGt : G2 := gOr (gCmpI fun i j => decide (j < i)) gGtS
def gLe : G2 := gCmpI fun i j => decide (i ≤ j)
def gGe : G2 := gCmpI fun i j => decide (j ≤ i)
theorem om_lt : OpM P X (compareOp .Lt) gLt := (om_cmpI op_lt).or om_ltS
theorem om_gt : OpM P X (compareOp .Gt) gGt := (om_cmpI op_gt).or om_gtS
theorem om_le : OpM P X (compareOp .LtE) gLe := om_cmpI op_le
theorem om_ge : OpM P X (compareOp .GtE) gGe := om_cmpI op_ge

/-! ### is -/
def isNonU : U → Bool
  | .non => true
  | _ => false
theorem isNonU_ok {a : U} {x : V} (r : RU P ρ W H a x) : decide (x = .non) = isNonU a := by cases r <;> simp [isNonU]
def gIs : G2 := fun _ a b => match b with
  | .non => some (.bl (isNonU a))
  | .bl j => match a with
    | .bl i => some (.bl (i == j))
    | _ => none
  | _ => none
def gIsNot : G2 := fun _ a b => match b with
  | .non => some (.bl (!isNonU a))
  | .bl j => match a with
    | .bl i => some (.bl (!(i == j)))
    | _ => none
  | _ => none
theorem om_is : OpM P X (compareOp .Is) gIs := OpM.of (op_isN.or op_isBl) fun H x y Q ρ W hp a b c rh ra rb e k => by
  unfold gIs at e
  split at e
  · cases e
    cases rb
    refine .inl ⟨rfl, ?_⟩
    rw [isNonU_ok ra]
    exact k.now rh (.bl _)
  · split at e
    · cases e
      cases ra
      cases rb
      refine .inr ⟨_, _, rfl, rfl, ?_⟩
      have z := k.now rh (.bl _)
      rw [Bool.beq_eq_decide_eq] at z
      exact z
    · cases e
  · cases e
theorem om_isNot : OpM P X (compareOp .IsNot) gIsNot := OpM.of (op_notN.or op_notBl) fun H x y Q ρ W hp a b c rh ra rb e k => by
  unfold gIsNot at e
  split at e
  · cases e
    cases rb
    refine .inl ⟨rfl, ?_⟩
    rw [isNonU_ok ra]
    exact k.now rh (.bl _)
  · split at e
    · cases e
      cases ra
      cases rb
      refine .inr ⟨_, _, rfl, rfl, ?_⟩
      have z := k.now rh (.bl _)
      rw [Bool.beq_eq_decide_eq] at z
      exact z
    · cases e
  · cases e

/-! ### in -/
/-- == of flat values -/
def eqF.flatU : U → Bool
  | .non => true
  | .bl _ => true
  | .int _ => true
  | .str _ => true
  | _ => false
def eqF.no (b : U) : Option Bool := match eqF.flatU b with
  | true => some false
  | false => none
def eqF (a b : U) : Option Bool := match a with
  | .non => match b with
    | .non => some true
    | _ => eqF.no b
  | .int i => match b with
    | .int j => some (eqZ i j)
    | .bl d => some (eqZ i (if d then 1 else 0))
    | _ => eqF.no b
  | .str x => match b with
    | .str y => some (scalU.listEq x y)
    | _ => eqF.no b
  | .bl c => match b with
    | .bl d => some (c == d)
    | .int j => some (eqZ (if c then 1 else 0) j)
    | _ => eqF.no b
  | _ => none
theorem flatU_ok {a : U} {x : V} (r : RU P ρ W H a x) (h : eqF.flatU a = true) : flatV x = true := by cases r <;> first | rfl | cases h
theorem eqF_ok {a b : U} {x y : V} {k : Bool} (ra : RU P ρ W H a x) (rb : RU P ρ W H b y) (e : eqF a b = some k) : flatV x = true ∧ flatV y = true ∧ eqV x y = k := by
  cases ra <;> cases rb <;> first
    | (cases e; exact ⟨rfl, rfl, rfl⟩)
    | (cases e; refine ⟨rfl, rfl, ?_⟩; simp [eqV, listEq_iff, eqZ_eq, Bool.beq_eq_decide_eq]; done)
    | (cases e)
def anyEq (x : U) : List U → Option Bool
  | [] => some false
  | y :: ys => match eqF y x, anyEq x ys with
    | some a, some b => some (a || b)
    | _, _ => none
theorem anyEq_ok {a : U} {x : V} (ra : RU P ρ W H a x) (fx : flatV x = true) : ∀ {us : List U} {vs : List V} {k : Bool}, RUs P ρ W H us vs → anyEq a us = some k → vs.all flatV = true ∧ inV x vs = k
  | _, _, _, .nil, e => by cases e; exact ⟨rfl, rfl⟩
  | _, _, k, .cons r t, e => by
    unfold anyEq at e
    split at e
    · rename_i p q e1 e2
      cases e
      obtain ⟨h1, h2, h3⟩ := eqF_ok r ra e1
      obtain ⟨h4, h5⟩ := anyEq_ok ra fx t e2
      refine ⟨by rw [List.all_cons, h1, h4]; rfl, ?_⟩
      unfold inV at h5 ⊢
      rw [List.any_cons, h3, h5]
    · cases e
def gInSeq (neg : Bool) : G2 := fun h a b => match asSeq h b with
  | some us => if eqF.flatU a = true then (anyEq a us).map fun k => .bl (if neg then !k else k) else none
  | none => none
theorem om_inSeq (hK : X.K = P.K) : OpM P X (compareOp .In) (gInSeq false) := OpM.of op_in_seq fun H x y Q ρ W hp a b c rh ra rb e k => by
  unfold gInSeq at e
  split at e
  · rename_i us es
    split at e
    · rename_i hf
      obtain ⟨z, h1, rfl⟩ := Option.map_eq_some_iff.mp e
      obtain ⟨p, vs, rfl, hs, r⟩ := asSeq_ok rh rb es
      have fx := flatU_ok ra hf
      obtain ⟨h2, h3⟩ := anyEq_ok ra fx r h1
      rw [hK]
      refine ⟨p, vs, rfl, hs, fx, h2, ?_⟩
      rw [h3]
      exact k.now rh (.bl _)
    · cases e
  · cases e
theorem om_notInSeq (hK : X.K = P.K) : OpM P X (compareOp .NotIn) (gInSeq true) := OpM.of op_notIn_seq fun H x y Q ρ W hp a b c rh ra rb e k => by
  unfold gInSeq at e
  split at e
  · rename_i us es
    split at e
    · rename_i hf
      obtain ⟨z, h1, rfl⟩ := Option.map_eq_some_iff.mp e
      obtain ⟨p, vs, rfl, hs, r⟩ := asSeq_ok rh rb es
      have fx := flatU_ok ra hf
      obtain ⟨h2, h3⟩ := anyEq_ok ra fx r h1
      rw [hK]
      refine ⟨p, vs, rfl, hs, fx, h2, ?_⟩
      rw [h3]
      exact k.now rh (.bl _)
    · cases e
  · cases e
end
end M7
end

noncomputable section
namespace M7
open PySem L2

section
variable {P : Par} {ρ ρ' : List Addr} {W : WS} {W0 : FW} {H H' : Hp} {hp : HP} {E : XK} {Q : VK} {X : Cx} {pos : Pos}

/-! ### truth -/
def truU (h : HP) : U → Option Bool
  | .non => some false
  | .bl b => some b
  | .int i => some (!decide (i = 0))
  | .str x => if fits x.length = true then some (!x.isEmpty) else none
  | .tup xs => some (!xs.isEmpty)
  | .lst xs => some (!xs.isEmpty)
  | .lsx xs => some (!xs.isEmpty)
  | .ref n => match h.m n with
    | some (.lst xs) => some (!xs.isEmpty)
    | some (.dK ks _) => some (!ks.isEmpty)
    | _ => none
  | .obj .. => none
  | .cls _ => none
theorem RUs.isEmpty {us : List U} {vs : List V} (r : RUs P ρ W H us vs) : (!us.isEmpty) = !vs.isEmpty := by cases r <;> rfl
theorem truU_ok (rh : RH P ρ W hp H) {u : U} {v : V} {k : Bool} (r : RU P ρ W H u v) (e : truU hp u = some k) : TruV P.K v H k := by
  cases r with
  | non => cases e; rfl
  | bl b => cases e; rfl
  | int i =>
    cases e
    show _ = (i != 0)
    rw [bne, Bool.beq_eq_decide_eq]
  | str x =>
    have e' : (if fits x.length = true then some (!x.isEmpty) else none) = some k := e
    split at e'
    · rename_i hf
      cases e'
      refine ⟨by simpa [Str.length] using fits_le hf, ?_⟩
      cases x <;> simp [Str.length]
      omega
    · cases e'
  | cls C => cases e
  | tup h r =>
    cases e
    exact .inr (.inl ⟨_, h.sq, RUs.isEmpty r⟩)
  | lst h r =>
    cases e
    exact .inl ⟨_, SqL.of h.1, RUs.isEmpty r⟩
  | lsx h r =>
    cases e
    exact .inl ⟨_, h.sq, RUs.isEmpty r⟩
  | @ref n a h =>
    have e' : (match hp.m n with
      | some (.lst xs) => some (!xs.isEmpty)
      | some (.dK ks _) => some (!ks.isEmpty)
      | _ => none) = some k := e
    split at e'
    · rename_i xs q
      cases e'
      obtain ⟨b, hb, ro⟩ := rh.obj _ _ q
      rw [h] at hb
      cases hb
      cases ro with
      | lst hl rl => exact .inl ⟨_, SqL.of hl, rl.isEmpty⟩
    · rename_i ks us q
      cases e'
      obtain ⟨b, hb, ro⟩ := rh.obj _ _ q
      rw [h] at hb
      cases hb
      cases ro with
      | @dK _ _ kvs hl hk rl =>
        refine .inr (.inr ⟨_, hl, ?_⟩)
        cases ks <;> cases kvs <;> first | rfl | cases hk
    · cases e'
  | obj h hn r => cases e

/-! ### tests -/
inductive RT where
  | ok (b : Bool) (h : HP) | exc (x : Ex) (h : HP) | bad
abbrev MT := SS → HP → RT
def PostT (P : Par) (E : XK) (ρ : List Addr) (W : WS) (H : Hp) (Q : Bool → Hp → Prop) : RT → Prop
  | .ok b hp => ∀ ρ' H', Ext ρ H ρ' H' → RH P ρ' W hp H' → Q b H'
  | .exc x hp => ∀ ρ' H' cls d, Ext ρ H ρ' H' → RH P ρ' W hp H' → RX P ρ' W H' x cls d → E cls d H'
  | .bad => False
def tMT (P : Par) (E : XK) (m : MT) : TT := fun σ H Q => ∃ ρ W0 W σ' hp, RSl P ρ W0 W H σ' σ ∧ RH P ρ W hp H ∧ PostT P E ρ W H Q (m σ' hp)
/-- the truth of an expression's value -/
def tVal (m : ME) : MT := fun σ h => match m σ h with
  | .ok u h1 => match truU h1 u with
    | some b => .ok b h1
    | none => .bad
  | .exc x h1 => .exc x h1
  | .bad => .bad
/-- the same, the value a bool -/
def tBl (m : ME) : MT := fun σ h => match m σ h with
  | .ok u h1 => match u with
    | .bl b => .ok b h1
    | _ => .bad
  | .exc x h1 => .exc x h1
  | .bad => .bad
theorem tT_val {a : Expr} {m : ME} (hK : X.K = P.K) (ha : PE X a (tM P E m)) (he : ∀ whole, isTrue a X.env whole = (do let v ← whole; standAt a.pos; holding [v] (truthy v))) : PT X a (tMT P E (tVal m)) :=
  ⟨fun pins s σ H Q I q => by
  obtain ⟨ρ, W0, W, σ', hp, rs, rh, po⟩ := q
  refine (pt_truth ha he).run pins s σ H Q I ⟨ρ, W0, W, σ', hp, rs, rh, ?_⟩
  unfold tVal at po
  cases e : m σ' hp with
  | bad => rw [e] at po; exact po
  | exc x h1 => rw [e] at po; exact po
  | ok u h1 =>
    rw [e] at po
    dsimp only at po
    cases e2 : truU h1 u with
    | none => rw [e2] at po; exact po.elim
    | some b =>
      rw [e2] at po
      intro ρ1 H1 v x1 rh1 ru1
      rw [hK]
      exact ⟨b, truU_ok rh1 ru1 e2, po ρ1 H1 x1 rh1⟩⟩
/-- a comparison as a test -/
theorem tT_cmp {a b : Expr} {ma mb : ME} {g : G2} {op : CmpOp} (ho : OpM P X (compareOp op) g) (ha : PE X a (tM P E ma)) (hb : PE X b (tM P E mb)) (hm : behindInMarks op b = false) : PT X (.Compare a [op] [b] pos) (tMT P E (tBl (eBin g ma mb))) :=
  ⟨fun pins s σ H Q I q => by
  obtain ⟨ρ, W0, W, σ', hp, rs, rh, po⟩ := q
  refine wpAny_isTrue_Compare1 (thn (bin_run (Q := fun v H' => ∃ k, v = .bl k ∧ Q k H') ha hb ho I ⟨ρ, W0, W, σ', hp, rs, rh, ?_⟩) fun v s1 h1 => thn h1 fun u s2 h2 => thn h2 fun c s3 ⟨z, H3, I3, r3, k, ez, q3⟩ => ?_) hm
  · unfold tBl at po
    cases e : eBin g ma mb σ' hp with
    | bad => rw [e] at po; exact po
    | exc x h1 => rw [e] at po; exact po
    | ok u h1 =>
      rw [e] at po
      dsimp only at po
      split at po
      · rename_i b'
        intro ρ1 H1 v x1 rh1 ru1
        cases ru1
        exact ⟨_, rfl, po ρ1 H1 x1 rh1⟩
      · exact po.elim
  · subst ez
    cases r3
    exact wpAny_truthy_bool ⟨H3, I3, q3⟩⟩
def RT.bind (r : RT) (f : Bool → HP → RT) : RT := RT.rec (motive := fun _ => RT) (fun u h => f u h) (fun x h => .exc x h) .bad r
theorem PostT.from {Q : Bool → Hp → Prop} (x : Ext ρ H ρ' H') : ∀ {r : RT}, PostT P E ρ W H Q r → PostT P E ρ' W H' Q r
  | .ok _ _, h => fun ρ2 H2 y rh => h ρ2 H2 (x.trans y) rh
  | .exc _ _, h => fun ρ2 H2 c d y rh rx => h ρ2 H2 c d (x.trans y) rh rx
  | .bad, h => h
theorem tMT_then {m : MT} {f : Bool → HP → RT} {σ : St} {σ' : SS} {Q : Bool → Hp → Prop} (rs : RSl P ρ W0 W H σ' σ) (rh : RH P ρ W hp H) (po : PostT P E ρ W H Q ((m σ' hp).bind f)) {R' : Bool → Hp → Prop}
    (k : ∀ ρ1 H1 b hp1, RSl P ρ1 W0 W H1 σ' σ → RH P ρ1 W hp1 H1 → PostT P E ρ1 W H1 Q (f b hp1) → R' b H1) : tMT P E m σ H R' := by
  refine ⟨ρ, W0, W, σ', hp, rs, rh, ?_⟩
  cases e : m σ' hp with
  | ok b hp1 =>
    rw [e] at po
    exact fun ρ1 H1 x rh1 => k ρ1 H1 b hp1 (rs.ext rh x) rh1 (PostT.from x po)
  | exc x hp1 => rw [e] at po; exact po
  | bad => rw [e] at po; exact po
def tAnd' (m n : MT) : MT := fun σ h => (m σ h).bind fun b h1 => if b = true then n σ h1 else .ok false h1
def tOr' (m n : MT) : MT := fun σ h => (m σ h).bind fun b h1 => if b = true then .ok true h1 else n σ h1
def tNot' (m : MT) : MT := fun σ h => (m σ h).bind fun b h1 => .ok (!b) h1
theorem tT_and {a b : Expr} {rest : List Expr} {m n : MT} (ha : PT X a (tMT P E m)) (hb : PW X (.BoolOp .And (b :: rest) pos) (tMT P E n)) : PW X (.BoolOp .And (a :: b :: rest) pos) (tMT P E (tAnd' m n)) :=
  ⟨fun wh pins s σ H Q I q => by
  obtain ⟨ρ, W0, W, σ', hp, rs, rh, po⟩ := q
  refine (pw_and ha hb).run wh pins s σ H Q I (tMT_then rs rh po fun ρ1 H1 b hp1 rs1 rh1 po1 => ?_)
  cases b with
  | true => exact ⟨ρ1, W0, W, σ', hp1, rs1, rh1, po1⟩
  | false => exact po1 ρ1 H1 Ext.refl rh1⟩
theorem tT_or {a b : Expr} {rest : List Expr} {m n : MT} (ha : PT X a (tMT P E m)) (hb : PW X (.BoolOp .Or (b :: rest) pos) (tMT P E n)) : PW X (.BoolOp .Or (a :: b :: rest) pos) (tMT P E (tOr' m n)) :=
  ⟨fun wh pins s σ H Q I q => by
  obtain ⟨ρ, W0, W, σ', hp, rs, rh, po⟩ := q
  refine (pw_or ha hb).run wh pins s σ H Q I (tMT_then rs rh po fun ρ1 H1 b hp1 rs1 rh1 po1 => ?_)
  cases b with
  | true => exact po1 ρ1 H1 Ext.refl rh1
  | false => exact ⟨ρ1, W0, W, σ', hp1, rs1, rh1, po1⟩⟩
theorem tT_not {a : Expr} {m : MT} (ha : PT X a (tMT P E m)) : PT X (.UnaryOp .Not a pos) (tMT P E (tNot' m)) :=
  ⟨fun pins s σ H Q I q => by
  obtain ⟨ρ, W0, W, σ', hp, rs, rh, po⟩ := q
  exact (pt_not ha).run pins s σ H Q I (tMT_then rs rh po fun ρ1 H1 b hp1 rs1 rh1 po1 => po1 ρ1 H1 Ext.refl rh1)⟩

/-! ### a if c else b; and, or, not of bools as values -/
def RT.bindE (r : RT) (f : Bool → HP → R) : R := RT.rec (motive := fun _ => R) (fun u h => f u h) (fun x h => .exc x h) .bad r
theorem tMT_thenE {m : MT} {f : Bool → HP → R} {σ : St} {σ' : SS} (rs : RSl P ρ W0 W H σ' σ) (rh : RH P ρ W hp H) (po : PostE P E ρ W H Q ((m σ' hp).bindE f)) {R' : Bool → Hp → Prop}
    (k : ∀ ρ1 H1 b hp1, RSl P ρ1 W0 W H1 σ' σ → RH P ρ1 W hp1 H1 → PostE P E ρ1 W H1 Q (f b hp1) → R' b H1) : tMT P E m σ H R' := by
  refine ⟨ρ, W0, W, σ', hp, rs, rh, ?_⟩
  cases e : m σ' hp with
  | ok b hp1 =>
    rw [e] at po
    exact fun ρ1 H1 x rh1 => k ρ1 H1 b hp1 (rs.ext rh x) rh1 (PostE.from x po)
  | exc x hp1 => rw [e] at po; exact po
  | bad => rw [e] at po; exact po
def eIf (c : MT) (a b : ME) : ME := fun σ h => (c σ h).bindE fun k h1 => if k = true then a σ h1 else b σ h1
theorem tM_if {c a b : Expr} {mc : MT} {ma mb : ME} (hc : PT X c (tMT P E mc)) (ha : PE X a (tM P E ma)) (hb : PE X b (tM P E mb)) : PE X (.IfExp c a b pos) (tM P E (eIf mc ma mb)) :=
  ⟨fun pins s σ H Q I q => by
  obtain ⟨ρ, W0, W, σ', hp, rs, rh, po⟩ := q
  refine (pe_ifExp hc ha hb).run pins s σ H Q I (tMT_thenE rs rh po fun ρ1 H1 b hp1 rs1 rh1 po1 => ?_)
  cases b with
  | true => exact ⟨ρ1, W0, W, σ', hp1, rs1, rh1, po1⟩
  | false => exact ⟨ρ1, W0, W, σ', hp1, rs1, rh1, po1⟩⟩
def eAnd (a b : ME) : ME := fun σ h => (a σ h).bind fun x h1 => match x with
  | .bl true => b σ h1
  | .bl false => .ok (.bl false) h1
  | _ => .bad
def eOr (a b : ME) : ME := fun σ h => (a σ h).bind fun x h1 => match x with
  | .bl true => .ok (.bl true) h1
  | .bl false => b σ h1
  | _ => .bad
def eNot (a : ME) : ME := fun σ h => (a σ h).bind fun x h1 => match x with
  | .bl k => .ok (.bl (!k)) h1
  | _ => .bad
theorem tM_one {a : Expr} {op} {m : ME} (ha : PE X a (tM P E m)) : PE X (.BoolOp op [a] pos) (tM P E m) := pe_one ha
theorem tM_and {a b : Expr} {rest : List Expr} {ma mb : ME} (ha : PE X a (tM P E ma)) (hb : PE X (.BoolOp .And (b :: rest) pos) (tM P E mb)) : PE X (.BoolOp .And (a :: b :: rest) pos) (tM P E (eAnd ma mb)) :=
  ⟨fun pins s σ H Q I q => by
  obtain ⟨ρ, W0, W, σ', hp, rs, rh, po⟩ := q
  refine (pe_and ha hb).run pins s σ H Q I (tM_then rs rh po fun ρ1 H1 u v hp1 rs1 rh1 ru1 x1 po1 => ?_)
  split at po1
  · cases ru1
    exact ⟨true, rfl, ρ1, W0, W, σ', hp1, rs1, rh1, po1⟩
  · cases ru1
    exact ⟨false, rfl, po1.pure rh1 (.bl _)⟩
  · exact po1.elim⟩
theorem tM_or {a b : Expr} {rest : List Expr} {ma mb : ME} (ha : PE X a (tM P E ma)) (hb : PE X (.BoolOp .Or (b :: rest) pos) (tM P E mb)) : PE X (.BoolOp .Or (a :: b :: rest) pos) (tM P E (eOr ma mb)) :=
  ⟨fun pins s σ H Q I q => by
  obtain ⟨ρ, W0, W, σ', hp, rs, rh, po⟩ := q
  refine (pe_or ha hb).run pins s σ H Q I (tM_then rs rh po fun ρ1 H1 u v hp1 rs1 rh1 ru1 x1 po1 => ?_)
  split at po1
  · cases ru1
    exact ⟨true, rfl, po1.pure rh1 (.bl _)⟩
  · cases ru1
    exact ⟨false, rfl, ρ1, W0, W, σ', hp1, rs1, rh1, po1⟩
  · exact po1.elim⟩
theorem tM_not {a : Expr} {ma : ME} (ha : PE X a (tM P E ma)) : PE X (.UnaryOp .Not a pos) (tM P E (eNot ma)) :=
  ⟨fun pins s σ H Q I q => by
  obtain ⟨ρ, W0, W, σ', hp, rs, rh, po⟩ := q
  refine (pe_not ha).run pins s σ H Q I (tM_then rs rh po fun ρ1 H1 u v hp1 rs1 rh1 ru1 x1 po1 => ?_)
  split at po1
  · cases ru1
    exact ⟨_, rfl, po1.pure rh1 (.bl _)⟩
  · exact po1.elim⟩
def eNeg (a : ME) : ME := fun σ h => (a σ h).bind fun x h1 => match x with
  | .int k => .ok (.int (-k)) h1
  | _ => .bad
theorem tM_neg {a : Expr} {ma : ME} (ha : PE X a (tM P E ma)) : PE X (.UnaryOp .USub a pos) (tM P E (eNeg ma)) :=
  ⟨fun pins s σ H Q I q => by
  obtain ⟨ρ, W0, W, σ', hp, rs, rh, po⟩ := q
  refine (pe_un un_neg ha).run pins s σ H Q I (tM_then rs rh po fun ρ1 H1 u v hp1 rs1 rh1 ru1 x1 po1 => ?_)
  split at po1
  · cases ru1
    exact ⟨_, rfl, po1.pure rh1 (.int _)⟩
  · exact po1.elim⟩

/-! ### a op b op' c -/
def eChain (g g' : G2) (ma mb mc : ME) : ME := fun σ h => (ma σ h).bind fun x h1 => (mb σ h1).bind fun y h2 => match g h2 x y with
  | some (.bl true) => (mc σ h2).bind fun z h3 => match g' h3 y z with
    | some r => .ok r h3
    | none => .bad
  | some (.bl false) => .ok (.bl false) h2
  | _ => .bad
end
end M7
end

noncomputable section
namespace M7
open PySem L2

/-! ### names by number -/
def digs : Nat → Nat → List Nat
  | 0, _ => []
  | k + 1, i => match Nat.beq i 0 with
    | true => []
    | false => (i % 128) :: digs k (i / 128)
def undigs : List Nat → Nat
  | [] => 0
  | d :: ds => d + 128 * undigs ds
theorem undigs_digs : ∀ k i, i ≤ k → undigs (digs k i) = i
  | 0, i, h => by have : i = 0 := by omega
                  subst this; rfl
  | k + 1, i, h => by
    unfold digs
    cases e : Nat.beq i 0 with
    | true => have := Nat.eq_of_beq_eq_true e; subst this; rfl
    | false =>
      have hi := Nat.ne_of_beq_eq_false e
      show i % 128 + 128 * undigs (digs k (i / 128)) = i
      rw [undigs_digs k (i / 128) (by omega)]
      omega
/-- the text of a number: its digits to the base 128 -/
def nmOf (i : Nat) : Str := ⟨(digs i i).toArray⟩
theorem nmOf_inj {i j : Nat} (h : nmOf i = nmOf j) : i = j := by
  have e : (digs i i).toArray = (digs j j).toArray := congrArg Str.cps h
  have e2 : digs i i = digs j j := by simpa using e
  have e3 := congrArg undigs e2
  rwa [undigs_digs i i (Nat.le_refl _), undigs_digs j j (Nat.le_refl _)] at e3

section
variable {P : Par} {ρ ρ' : List Addr} {W : WS} {W0 : FW} {H H' : Hp} {hp : HP} {E : XK} {Q : VK} {X : Cx} {pos : Pos}

/-! ### an operation on data as a rule on values -/
def rOf (P : Par) (g : G2) : R2 := fun x y H Q => ∃ ρ W hp a b r, RH P ρ W hp H ∧ RU P ρ W H a x ∧ RU P ρ W H b y ∧ g hp a b = some r ∧ Cont P ρ W hp H Q r
theorem OpM.rule {f : Value → Value → Sem Value} {g : G2} (h : OpM P X f g) : OpR X f (rOf P g) := fun pins s σ H x y v u Q I rx ry ⟨ρ, W, hp, a, b, r, rh, ra, rb, e, k⟩ =>
  h pins s σ H x y v u Q ρ W hp a b r I rx ry rh ra rb e k
theorem tOp_of {g : G2} {ma mb : ME} {σ : St} {H : Hp} {Q : VK} (q : tM P E (eBin g ma mb) σ H Q) : tOp (rOf P g) (tM P E ma) (tM P E mb) σ H Q := by
  obtain ⟨ρ, W0, W, σ', hp, rs, rh, po⟩ := q
  unfold eBin at po
  refine tM_then rs rh po fun ρ1 H1 u v hp1 rs1 rh1 ru1 x1 po1 => ?_
  refine tM_then rs1 rh1 po1 fun ρ2 H2 u2 v2 hp2 rs2 rh2 ru2 x2 po2 => ?_
  cases e : g hp2 u u2 with
  | none => rw [e] at po2; exact po2.elim
  | some r =>
    rw [e] at po2
    exact ⟨ρ2, W, hp2, u, u2, r, rh2, ru1.ext x2, ru2, e, po2⟩
theorem tM_chain {a b c : Expr} {op op' : CmpOp} {g g' : G2} {ma mb mc : ME} (ho : OpM P X (compareOp op) g) (ho' : OpM P X (compareOp op') g') (ha : PE X a (tM P E ma)) (hb : PE X b (tM P E mb)) (hc : PE X c (tM P E mc))
    (hm : lastMarks [op, op'] [b, c] = false) : PE X (.Compare a [op, op'] [b, c] pos) (tM P E (eChain g g' ma mb mc)) :=
  ⟨fun pins s σ H Q I q => by
  obtain ⟨ρ, W0, W, σ', hp, rs, rh, po⟩ := q
  refine (pe_chain ho.rule ho'.rule ha hb hc hm).run pins s σ H Q I ?_
  unfold eChain at po
  refine tM_then rs rh po fun ρ1 H1 u v hp1 rs1 rh1 ru1 x1 po1 => ?_
  refine tM_then rs1 rh1 po1 fun ρ2 H2 u2 v2 hp2 rs2 rh2 ru2 x2 po2 => ?_
  cases e : g hp2 u u2 with
  | none => rw [e] at po2; exact po2.elim
  | some r =>
    rw [e] at po2
    refine ⟨ρ2, W, hp2, u, u2, r, rh2, ru1.ext x2, ru2, e, fun ρ3 H3 z x3 rh3 rz => ?_⟩
    split at po2
    · rename_i q
      cases q
      cases rz
      refine ⟨true, rfl, ?_⟩
      rw [if_pos rfl]
      refine tM_then (rs2.ext rh2 x3) rh3 (PostE.from x3 po2) fun ρ4 H4 u4 v4 hp4 rs4 rh4 ru4 x4 po4 => ?_
      cases e4 : g' hp4 u2 u4 with
      | none => rw [e4] at po4; exact po4.elim
      | some r4 =>
        rw [e4] at po4
        exact ⟨ρ4, W, hp4, u2, u4, r4, rh4, (ru2.ext x3).ext x4, ru4, e4, po4⟩
    · rename_i q
      cases q
      cases rz
      refine ⟨false, rfl, ?_⟩
      rw [if_neg Bool.false_ne_true]
      exact po2 ρ3 H3 _ x3 rh3 (.bl _)
    · exact po2.elim⟩

theorem tT_chain {a b c : Expr} {op op' : CmpOp} {g g' : G2} {ma mb mc : ME} (ho : OpM P X (compareOp op) g) (ho' : OpM P X (compareOp op') g') (ha : PE X a (tM P E ma)) (hb : PE X b (tM P E mb)) (hc : PE X c (tM P E mc))
    (hm : lastMarks [op, op'] [b, c] = false) : PT X (.Compare a [op, op'] [b, c] pos) (tMT P E (tBl (eChain g g' ma mb mc))) :=
  ⟨fun pins s σ H Q I q => by
  obtain ⟨ρ, W0, W, σ', hp, rs, rh, po⟩ := q
  have po' : PostE P E ρ W H (fun v H' => ∃ k, v = .bl k ∧ Q k H') (eChain g g' ma mb mc σ' hp) := by
    unfold tBl at po
    cases e : eChain g g' ma mb mc σ' hp with
    | bad => rw [e] at po; exact po
    | exc x h1 => rw [e] at po; exact po
    | ok u h1 =>
      rw [e] at po
      dsimp only at po
      split at po
      · intro ρ1 H1 v x1 rh1 ru1
        cases ru1
        exact ⟨_, rfl, po ρ1 H1 x1 rh1⟩
      · exact po.elim
  refine (pt_chain ho.rule ho'.rule ha hb hc hm).run pins s σ H Q I ?_
  show tChain _ _ _ _ _ σ H (fun x H' => ∃ k, x = .bl k ∧ Q k H')
  generalize (fun (x : V) (H' : Hp) => ∃ k, x = .bl k ∧ Q k H') = Q' at po' ⊢
  unfold eChain at po'
  refine tM_then rs rh po' fun ρ1 H1 u v hp1 rs1 rh1 ru1 x1 po1 => ?_
  refine tM_then rs1 rh1 po1 fun ρ2 H2 u2 v2 hp2 rs2 rh2 ru2 x2 po2 => ?_
  cases e : g hp2 u u2 with
  | none => rw [e] at po2; exact po2.elim
  | some r =>
    rw [e] at po2
    refine ⟨ρ2, W, hp2, u, u2, r, rh2, ru1.ext x2, ru2, e, fun ρ3 H3 z x3 rh3 rz => ?_⟩
    split at po2
    · rename_i q
      cases q
      cases rz
      refine ⟨true, rfl, ?_⟩
      rw [if_pos rfl]
      refine tM_then (rs2.ext rh2 x3) rh3 (PostE.from x3 po2) fun ρ4 H4 u4 v4 hp4 rs4 rh4 ru4 x4 po4 => ?_
      cases e4 : g' hp4 u2 u4 with
      | none => rw [e4] at po4; exact po4.elim
      | some r4 =>
        rw [e4] at po4
        exact ⟨ρ4, W, hp4, u2, u4, r4, rh4, (ru2.ext x3).ext x4, ru4, e4, po4⟩
    · rename_i q
      cases q
      cases rz
      refine ⟨false, rfl, ?_⟩
      rw [if_neg Bool.false_ne_true]
      exact po2 ρ3 H3 _ x3 rh3 (.bl _)
    · exact po2.elim⟩

/-! ### a[i] -/
def atU {α : Type} (xs : List α) (i : Int) : Option α := atI xs i
theorem atU_ok {us : List U} {vs : List V} (r : RUs P ρ W H us vs) {i : Int} {u : U} (e : atU us i = some u) : ∃ v, atI vs i = some v ∧ RU P ρ W H u v := by
  unfold atU atI at e
  have hl := r.length
  unfold atI
  rw [← hl]
  cases q : ixN us.length i with
  | none => rw [q] at e; cases e
  | some j =>
    rw [q] at e
    have e' : us[j]? = some u := e
    show ∃ v, vs[j]? = some v ∧ _
    clear e q
    induction r generalizing j with
    | nil => simp at e'
    | cons a t ih =>
      cases j with
      | zero => simp at e'; subst e'; exact ⟨_, rfl, a⟩
      | succ j =>
        obtain ⟨v, h1, h2⟩ := ih t.length j (by simpa using e')
        exact ⟨v, by simpa using h1, h2⟩
def gIx : G2 := fun h a b => match b with
  | .int i => match a with
    | .str x => if fits x.length = true then (atU x i).map fun c => .str [c] else none
    | _ => (asSeq h a).bind fun us => atU us i
  | _ => none
theorem ix_ok (hK : X.K = P.K) : IxR X (rOf P gIx) := by
  intro value slice pins s σ H x y v u Q I rx ry ⟨ρ, W, hp, a, b, r, rh, ra, rb, e, k⟩ hs
  refine ix_seq value slice pins s σ H x y v u Q I rx ry ?_ hs
  unfold gIx at e
  split at e
  · rename_i i
    cases rb
    split at e
    · rename_i z
      cases ra
      split at e
      · rename_i hf
        obtain ⟨c, h1, rfl⟩ := Option.map_eq_some_iff.mp e
        refine .inr (.inr ⟨_, i, c, rfl, rfl, by simpa [Str.length] using fits_le hf, h1, ?_⟩)
        exact k.now rh (.str [c])
      · cases e
    · obtain ⟨us, h1, h2⟩ := Option.bind_eq_some_iff.mp e
      obtain ⟨p, vs, rfl, hq, rs⟩ := asSeq_ok rh ra h1
      obtain ⟨w, h3, h4⟩ := atU_ok rs h2
      rcases hq with hq | hq
      · exact .inl ⟨p, vs, i, w, rfl, rfl, by rw [hK]; exact hq, h3, k.now rh h4⟩
      · exact .inr (.inl ⟨p, vs, i, w, rfl, rfl, by rw [hK]; exact hq, h3, k.now rh h4⟩)
  · cases e
def eIx (ma mb : ME) : ME := eBin gIx ma mb
theorem tM_ix {a b : Expr} {ma mb : ME} (hK : X.K = P.K) (ha : PE X a (tM P E ma)) (hb : PE X b (tM P E mb)) (hs : PlainIx b) : PE X (.Subscript a b pos) (tM P E (eIx ma mb)) :=
  ⟨fun pins s σ H Q I q => (pe_ix (ix_ok hK) ha hb hs).run pins s σ H Q I (tOp_of q)⟩

/-! ### a[lo:hi] -/
def cutU {α : Type} (xs : List α) (lo hi : Option Int) : List α := (xs.drop (HT.sIx xs.length 0 lo)).take (HT.sIx xs.length xs.length hi - HT.sIx xs.length 0 lo)
theorem RUs.drop : ∀ {us : List U} {vs : List V} (n : Nat), RUs P ρ W H us vs → RUs P ρ W H (us.drop n) (vs.drop n)
  | _, _, 0, r => r
  | _, _, n + 1, .nil => .nil
  | _, _, n + 1, .cons _ t => RUs.drop n t
theorem RUs.take : ∀ {us : List U} {vs : List V} (n : Nat), RUs P ρ W H us vs → RUs P ρ W H (us.take n) (vs.take n)
  | _, _, 0, _ => .nil
  | _, _, n + 1, .nil => .nil
  | _, _, n + 1, .cons r t => .cons r (RUs.take n t)
theorem cutU_ok {us : List U} {vs : List V} (r : RUs P ρ W H us vs) (lo hi : Option Int) : RUs P ρ W H (cutU us lo hi) (cutV vs lo hi) := by
  have hl := r.length
  unfold cutU cutV
  rw [← hl]
  exact RUs.take _ (RUs.drop _ r)
abbrev G3 := HP → U → Option Int → Option Int → Option U
def gSl : G3 := fun h a lo hi => match a with
  | .str x => if fits x.length = true then some (.str (cutU x lo hi)) else none
  | .tup xs => some (.tup (cutU xs lo hi))
  | a => (asLst h a).map fun xs => .lst (cutU xs lo hi)
def rSlOf (P : Par) : V → Option Int → Option Int → Hp → VK → Prop := fun x lo hi H Q => ∃ ρ W hp a r, RH P ρ W hp H ∧ RU P ρ W H a x ∧ gSl hp a lo hi = some r ∧ Cont P ρ W hp H Q r
theorem sl_ok (hK : X.K = P.K) : SlR X (rSlOf P) := by
  intro pins s σ H x v vl vu lo hi sl Q I rx hs pl pu ⟨ρ, W, hp, a, r, rh, ra, e, k⟩
  refine (sl_str.or (sl_tupA.or sl_list)) pins s σ H x v vl vu lo hi sl Q I rx hs pl pu ?_
  unfold gSl at e
  split at e
  · split at e
    · rename_i z hf
      cases e
      cases ra
      refine .inl ⟨_, rfl, by simpa [Str.length] using fits_le hf, ?_⟩
      have z := k.now rh (.str _)
      unfold cutS
      simpa [Str.length, cutU] using z
    · cases e
  · rename_i xs
    cases e
    obtain ⟨p, vs, rfl, ht, rs⟩ := asTup_ok ra rfl
    refine .inr (.inl ⟨p, vs, rfl, by rw [hK]; exact ht.sq, fun z => ?_, fun _ => k.newTup rh (cutU_ok rs lo hi)⟩)
    have hl := rs.length
    have e2 : cutU xs lo hi = xs := by
      unfold cutU
      rw [hl, z.1, z.2, List.drop_zero, Nat.sub_zero, ← hl, List.take_length]
    rw [e2] at k
    exact k.now rh ra
  · obtain ⟨xs, h1, rfl⟩ := Option.map_eq_some_iff.mp e
    obtain ⟨p, vs, rfl, hq, rs⟩ := asLst_ok rh ra h1
    exact .inr (.inr ⟨p, vs, rfl, by rw [hK]; exact hq, k.newLst rh (cutU_ok rs lo hi)⟩)
/-- the parts of a slice -/
def partU (m : Option ME) (σ : SS) (h : HP) (k : Option Int → HP → R) : R := match m with
  | none => k none h
  | some m => (m σ h).bind fun u h1 => match u with
    | .int i => k (some i) h1
    | _ => .bad
def partT (P : Par) (E : XK) : Option ME → TO
  | none => tNoPart
  | some m => tPart (tM P E m)
theorem part_ok {m : Option ME} {k : Option Int → HP → R} {σ : St} {σ' : SS} (rs : RSl P ρ W0 W H σ' σ) (rh : RH P ρ W hp H) (po : PostE P E ρ W H Q (partU m σ' hp k)) {R' : Option Int → Hp → Prop}
    (kk : ∀ ρ1 H1 o hp1, RSl P ρ1 W0 W H1 σ' σ → RH P ρ1 W hp1 H1 → Ext ρ H ρ1 H1 → PostE P E ρ1 W H1 Q (k o hp1) → R' o H1) : partT P E m σ H R' := by
  cases m with
  | none => exact kk ρ H none hp rs rh Ext.refl po
  | some m =>
    refine tM_then rs rh po fun ρ1 H1 u v hp1 rs1 rh1 ru1 x1 po1 => ?_
    split at po1
    · cases ru1
      exact ⟨_, rfl, kk ρ1 H1 _ hp1 rs1 rh1 x1 po1⟩
    · exact po1.elim
def eSl (ma : ME) (ml mh : Option ME) : ME := fun σ h => (ma σ h).bind fun x h1 => partU ml σ h1 fun lo h2 => partU mh σ h2 fun hi h3 => match gSl h3 x lo hi with
  | some r => .ok r h3
  | none => .bad
theorem tM_sl {a : Expr} {lo hi : Option Expr} {p2 : Pos} {ma : ME} {ml mh : Option ME} (hK : X.K = P.K) (ha : PE X a (tM P E ma)) (hl : PO X lo (partT P E ml)) (hu : PO X hi (partT P E mh)) :
    PE X (.Subscript a (.Slice lo hi none p2) pos) (tM P E (eSl ma ml mh)) :=
  ⟨fun pins s σ H Q I q => by
  obtain ⟨ρ, W0, W, σ', hp, rs, rh, po⟩ := q
  refine (pe_slice (sl_ok hK) ha hl hu).run pins s σ H Q I ?_
  unfold eSl at po
  refine tM_then rs rh po fun ρ1 H1 u v hp1 rs1 rh1 ru1 x1 po1 => ?_
  refine part_ok rs1 rh1 po1 fun ρ2 H2 o hp2 rs2 rh2 x2 po2 => ?_
  refine part_ok rs2 rh2 po2 fun ρ3 H3 o3 hp3 rs3 rh3 x3 po3 => ?_
  cases e : gSl hp3 u o o3 with
  | none => rw [e] at po3; exact po3.elim
  | some r =>
    rw [e] at po3
    exact ⟨ρ3, W, hp3, u, r, rh3, (ru1.ext x2).ext x3, e, po3⟩⟩
theorem po_n : PO X none (partT P E none) := po_none
theorem po_s {e : Expr} {m : ME} (h : PE X e (tM P E m)) : PO X (some e) (partT P E (some m)) := po_some h

/-! ### displays -/
def aStar (m : ME) (ma : MA) : MA := fun σ h => match m σ h with
  | .ok u h1 => match asSeq h1 u with
    | some xs => match ma σ h1 with
      | .ok us h2 => .ok (xs ++ us) h2
      | .exc x h2 => .exc x h2
      | .bad => .bad
    | none => .bad
  | .exc x h1 => .exc x h1
  | .bad => .bad
def eTup (ma : MA) : ME := fun σ h => (ma σ h).bind fun us h1 => if fits us.length = true then .ok (.tup us) h1 else .bad
def eLst (ma : MA) : ME := fun σ h => (ma σ h).bind fun us h1 => if fits us.length = true then .ok (.lst us) h1 else .bad
theorem tM_tup {es : List Expr} {k : Nat} {ma : MA} (h : PA X es (tMA P E ma)) : PE X (.Tuple es k pos) (tM P E (eTup ma)) :=
  ⟨fun pins s σ H Q I q => by
  obtain ⟨ρ, W0, W, σ', hp, rs, rh, po⟩ := q
  refine (pe_tup h).run pins s σ H Q I (tMA_then rs rh po fun ρ1 H1 us vs hp1 rs1 rh1 ru1 x1 po1 => ?_)
  split at po1
  · rename_i hf
    exact ⟨by rw [← ru1.length]; exact fits_le hf, Cont.newTup po1 rh1 ru1⟩
  · exact po1.elim⟩
theorem tM_lst {es : List Expr} {ma : MA} (h : PA X es (tMA P E ma)) : PE X (.List es pos) (tM P E (eLst ma)) :=
  ⟨fun pins s σ H Q I q => by
  obtain ⟨ρ, W0, W, σ', hp, rs, rh, po⟩ := q
  refine (pe_lst h).run pins s σ H Q I (tMA_then rs rh po fun ρ1 H1 us vs hp1 rs1 rh1 ru1 x1 po1 => ?_)
  split at po1
  · rename_i hf
    exact ⟨by rw [← ru1.length]; exact fits_le hf, Cont.newLst po1 rh1 ru1⟩
  · exact po1.elim⟩

/-! ### a new object of the logical heap -/
theorem Ext.newRef {p : Addr} {o : HO} (hn : H p = none) : Ext ρ H (ρ ++ [p]) (upd H p o) :=
  ⟨⟨[p], rfl, fun a ha => by have : a = p := by simpa using ha
                             rw [this]; exact hn⟩, fun a u h _ => by rw [upd_ne (ne_of_none h hn)]; exact h, fun a u h => ⟨u, by rw [upd_ne (ne_of_none h hn)]; exact h⟩, fun a ob u h => by rw [upd_ne (ne_of_none h hn)]; exact h⟩
theorem RH.newRef (rh : RH P ρ W hp H) {p : Addr} {o : HO} {u : O} (hn : H p = none) (ro : RO P (ρ ++ [p]) W (upd H p o) p u) : RH P (ρ ++ [p]) W (hp.new u) (upd H p o) := by
  have x : Ext ρ H (ρ ++ [p]) (upd H p o) := Ext.newRef hn
  have np := rh.notin hn
  refine ⟨?_, ?_, fun a ha => ?_, fun a ha => ?_, fun a ha => let ⟨o, h⟩ := rh.wt a ha; x.there a o h, fun i u' e => ?_⟩
  · show hp.n + 1 = _
    rw [rh.len, List.length_append]
    rfl
  · rw [List.nodup_append]
    exact ⟨rh.nd, by simp, fun a ha b hb z => np (by have : b = p := by simpa using hb
                                                     rw [← this, ← z]; exact ha)⟩
  · rcases List.mem_append.mp ha with q | q
    · exact rh.own a q
    · have : a = p := by simpa using q
      rw [this]
      exact rh.notW hn
  · rcases List.mem_append.mp ha with q | q
    · obtain ⟨o, h⟩ := rh.there a q
      exact x.there a o h
    · have : a = p := by simpa using q
      rw [this]
      exact ⟨o, upd_same⟩
  · have e' : (if i = hp.n then some u else hp.m i) = some u' := (ifEq_eq _ _ _ _).symm.trans e
    split at e'
    · rename_i hi
      cases e'
      refine ⟨p, ?_, ro⟩
      rw [hi, rh.len]
      simp
    · obtain ⟨a, h1, r⟩ := rh.obj i u' e'
      refine ⟨a, x.ix h1, ?_⟩
      have na : a ≠ p := fun z => np (z ▸ List.mem_of_getElem? h1)
      cases r with
      | lst h r => exact .lst (by rw [upd_ne na]; exact h) (RUs.ext x r)
      | dK h hk r => exact .dK (by rw [upd_ne na]; exact h) hk (RUs.ext x r)
      | ins h hn' r => exact .ins (by rw [upd_ne na]; exact h) hn' (RUs.ext x r)
      | dV h hk hv r => exact .dV (by rw [upd_ne na]; exact h) hk hv (RUs.ext x r)
      | dN h hx hk nd r => exact .dN (by rw [upd_ne na]; exact h) hx (Paired.mapP hk fun _ _ z => ⟨z.1, z.2.ext x⟩) nd (RUs.ext x r)
theorem RH.lastIx (rh : RH P ρ W hp H) {p : Addr} : (ρ ++ [p])[hp.n]? = some p := by rw [rh.len]; simp
/-- [..], later changed elsewhere: an object of the logical heap -/
def eLstH (ma : MA) : ME := fun σ h => (ma σ h).bind fun us h1 => if fits us.length = true then .ok (.ref h1.n) (h1.new (.lst us)) else .bad
theorem tM_lstH {es : List Expr} {ma : MA} (h : PA X es (tMA P E ma)) : PE X (.List es pos) (tM P E (eLstH ma)) :=
  ⟨fun pins s σ H Q I q => by
  obtain ⟨ρ, W0, W, σ', hp, rs, rh, po⟩ := q
  refine (pe_lst h).run pins s σ H Q I (tMA_then rs rh po fun ρ1 H1 us vs hp1 rs1 rh1 ru1 x1 po1 => ?_)
  split at po1
  · rename_i hf
    refine ⟨by rw [← ru1.length]; exact fits_le hf, fun p hn => ?_⟩
    exact po1 _ _ _ (Ext.newRef hn) (rh1.newRef hn (.lst upd_same (RUs.ext (Ext.newRef hn) ru1))) (.ref rh1.lastIx)
  · exact po1.elim⟩

/-! ### attributes -/
def fldU : List Nat → List U → Nat → Option U
  | n :: ns, u :: us, f => match Nat.beq n f with
    | true => some u
    | false => fldU ns us f
  | _, _, _ => none
theorem fldU_ok (nmi : ∀ i j, P.nm i = P.nm j → i = j) {f : Nat} : ∀ {ns : List Nat} {us : List U} {fs : List (Str × V)} {u : U}, fs.map (·.1) = ns.map P.nm → RUs P ρ W H us (fs.map (·.2)) → fldU ns us f = some u →
    ∃ v, fs.lookup (P.nm f) = some v ∧ RU P ρ W H u v
  | [], us, fs, u, _, _, e => by cases us <;> cases e
  | n :: ns, [], fs, u, _, _, e => by cases e
  | n :: ns, u' :: us, [], u, h, _, e => by cases h
  | n :: ns, u' :: us, (g, v) :: fs, u, h, r, e => by
    rw [List.map_cons, List.map_cons] at h
    injection h with h1 h2
    have h1 : g = P.nm n := h1
    cases r with
    | cons r t =>
      unfold fldU at e
      cases q : Nat.beq n f with
      | true =>
        rw [q] at e
        cases e
        have := Nat.eq_of_beq_eq_true q
        subst this
        refine ⟨v, ?_, r⟩
        rw [List.lookup_cons, h1]
        simp
      | false =>
        rw [q] at e
        obtain ⟨w, h3, h4⟩ := fldU_ok nmi h2 t e
        refine ⟨w, ?_, h4⟩
        rw [List.lookup_cons, h1]
        have hb : (P.nm f == P.nm n) = false := beq_eq_false_iff_ne.mpr fun z => Nat.ne_of_beq_eq_false q (nmi _ _ z).symm
        rw [hb]
        exact h3
theorem fldU_no (nmi : ∀ i j, P.nm i = P.nm j → i = j) {f : Nat} : ∀ {ns : List Nat} {us : List U} {fs : List (Str × V)}, fs.map (·.1) = ns.map P.nm → RUs P ρ W H us (fs.map (·.2)) → fldU ns us f = none → fs.lookup (P.nm f) = none
  | [], us, fs, h, _, e => by
    cases fs with
    | nil => rfl
    | cons a b => cases h
  | n :: ns, [], fs, h, r, e => by
    cases fs with
    | nil => cases h
    | cons a b => cases r
  | n :: ns, u' :: us, [], h, _, e => by cases h
  | n :: ns, u' :: us, (g, v) :: fs, h, r, e => by
    rw [List.map_cons, List.map_cons] at h
    injection h with h1 h2
    have h1 : g = P.nm n := h1
    cases r with
    | cons r t =>
      unfold fldU at e
      cases q : Nat.beq n f with
      | true => rw [q] at e; cases e
      | false =>
        rw [q] at e
        rw [List.lookup_cons, h1]
        have hb : (P.nm f == P.nm n) = false := beq_eq_false_iff_ne.mpr fun z => Nat.ne_of_beq_eq_false q (nmi _ _ z).symm
        rw [hb]
        exact fldU_no nmi h2 t e
/-- an instance: its class, names, values -/
def asIns (h : HP) : U → Option (Nat × List Nat × List U)
  | .obj C ns us => some (C, ns, us)
  | .ref n => match h.m n with
    | some (.ins C ns us) => some (C, ns, us)
    | _ => none
  | _ => none
theorem asIns_ok (rh : RH P ρ W hp H) {u : U} {v : V} {C : Nat} {ns : List Nat} {us : List U} (r : RU P ρ W H u v) (e : asIns hp u = some (C, ns, us)) :
    ∃ a dx fs, v = .ref a ∧ H a = some (.ins (P.cA C) dx fs) ∧ fs.map (·.1) = ns.map P.nm ∧ RUs P ρ W H us (fs.map (·.2)) := by
  cases r with
  | obj h hn r =>
    cases e
    exact ⟨_, _, _, rfl, h.1, hn, r⟩
  | @ref n a h =>
    have e' : (match hp.m n with
      | some (.ins C ns us) => some (C, ns, us)
      | _ => none) = some (C, ns, us) := e
    split at e'
    · rename_i C' ns' us' q
      cases e'
      obtain ⟨b, hb, ro⟩ := rh.obj _ _ q
      rw [h] at hb
      cases hb
      cases ro with
      | ins hl hn rl => exact ⟨_, _, _, rfl, hl, hn, rl⟩
    · cases e'
  | _ => cases e
def memN (n : Nat) : List Nat → Bool
  | [] => false
  | m :: ms => match Nat.beq n m with
    | true => true
    | false => memN n ms
theorem memN_mem {n : Nat} : ∀ {l : List Nat}, memN n l = true → n ∈ l
  | [], h => by cases h
  | m :: ms, h => by
    unfold memN at h
    cases q : Nat.beq n m with
    | true => have := Nat.eq_of_beq_eq_true q
              subst this
              exact List.mem_cons_self
    | false => rw [q] at h; exact List.mem_cons_of_mem _ (memN_mem h)
/-- the classes Cs keep f in their instances -/
def FldF (P : Par) (f : Nat) (Cs : List Nat) : Prop := ∀ C ∈ Cs, Cls P.K (P.cA C) ∧ NoAttr P.K (P.cA C) (P.nm f)
def eFld (f : Nat) (Cs : List Nat) (m : ME) : ME := fun σ h => (m σ h).bind fun u h1 => match asIns h1 u with
  | some (C, ns, us) => match memN C Cs with
    | true => match fldU ns us f with
      | some r => .ok r h1
      | none => .bad
    | false => .bad
  | none => .bad
theorem tM_fld {e : Expr} {f : Nat} {x : Str} {Cs : List Nat} {m : ME} (nmi : ∀ i j, P.nm i = P.nm j → i = j) (hK : X.K = P.K) (hF : FldF P f Cs) (hx : P.nm f = x) (he : PE X e (tM P E m)) (hb : attributeBase e x X.env (eval e X.env) = eval e X.env) :
    PE X (.Attribute e x pos) (tM P E (eFld f Cs m)) :=
  ⟨fun pins s σ H Q I q => by
  obtain ⟨ρ, W0, W, σ', hp, rs, rh, po⟩ := q
  refine (pe_fld he hb).run pins s σ H Q I (tM_then rs rh po fun ρ1 H1 u v hp1 rs1 rh1 ru1 x1 po1 => ?_)
  split at po1
  · rename_i C ns us ei
    split at po1
    · rename_i hm
      split at po1
      · rename_i r hr
        obtain ⟨a, dx, fs, rfl, h1, h2, h3⟩ := asIns_ok rh1 ru1 ei
        obtain ⟨w, h4, h5⟩ := fldU_ok nmi h2 h3 hr
        obtain ⟨c1, c2⟩ := hF C (memN_mem hm)
        rw [hx] at c2 h4
        exact ⟨a, _, dx, fs, w, rfl, h1, by rw [hK]; exact c1, by rw [hK]; exact c2, h4, po1.pure rh1 h5⟩
      · exact po1.elim
    · exact po1.elim
  · exact po1.elim⟩
end
end M7
end

noncomputable section
namespace M7
open PySem L2 PySem.StrLaws Builtin Builtin.Str

/-! ### texts as lists of signs -/
def preL : List Nat → List Nat → Bool
  | [], _ => true
  | _ :: _, [] => false
  | x :: xs, y :: ys => match Nat.beq x y with
    | true => preL xs ys
    | false => false
theorem preL_iff : ∀ (y l : List Nat), preL y l = true ↔ l.take y.length = y
  | [], l => by simp [preL]
  | _ :: _, [] => by simp [preL]
  | x :: xs, y :: ys => by
    unfold preL
    cases e : Nat.beq x y with
    | true =>
      have := Nat.eq_of_beq_eq_true e
      subst this
      simp [preL_iff xs ys]
    | false =>
      have := Nat.ne_of_beq_eq_false e
      simp
      intro h
      exact absurd h.symm this
theorem preL_not {y l : List Nat} (h : preL y l = false) : ¬ l.take y.length = y := fun z => by
  rw [(preL_iff y l).mpr z] at h; cases h
def splS (y : List Nat) : Nat → List Nat → List Nat × List (List Nat)
  | _, [] => ([], [])
  | 0, c :: r => match preL y (c :: r) with
    | true => match splS y (y.length - 1) r with
      | (p, ps) => ([], p :: ps)
    | false => match splS y 0 r with
      | (p, ps) => (c :: p, ps)
  | s + 1, _ :: r => splS y s r
/-- l.split(y), y not empty -/
def splitL (y l : List Nat) : List (List Nat) := match splS y 0 l with
  | (p, ps) => p :: ps
def appHead (n : List Nat) : List (List Nat) → List (List Nat)
  | [] => []
  | p :: ps => (n ++ p) :: ps
section
variable {y : List Nat}
theorem splS_skip : ∀ (s : Nat) (l : List Nat), splS y s l = splS y 0 (l.drop s)
  | 0, l => by rw [List.drop_zero]
  | s + 1, [] => by simp [splS]
  | s + 1, c :: r => by
    rw [splS, List.drop_succ_cons]
    exact splS_skip s r
theorem split_hit {c : Nat} {r : List Nat} (hy : y ≠ []) (h : (c :: r).take y.length = y) : splitL y (c :: r) = [] :: splitL y ((c :: r).drop y.length) := by
  unfold splitL
  rw [splS, (preL_iff y (c :: r)).mpr h]
  dsimp only
  rw [splS_skip]
  cases y with
  | nil => exact absurd rfl hy
  | cons d t => rfl
theorem split_miss {c : Nat} {r : List Nat} (h : ¬ (c :: r).take y.length = y) : splitL y (c :: r) = appHead [c] (splitL y r) := by
  unfold splitL
  rw [splS]
  cases e : preL y (c :: r) with
  | true => exact absurd ((preL_iff y _).mp e) h
  | false => rfl
theorem appHead_nil (l : List (List Nat)) : appHead [] l = l := by cases l <;> rfl
theorem appHead_app (a b : List Nat) (l : List (List Nat)) : appHead a (appHead b l) = appHead (a ++ b) l := by cases l <;> simp [appHead]
theorem split_copy {L : List Nat} : ∀ (n a : Nat), (∀ k, a ≤ k → k < a + n → ¬ (L.drop k).take y.length = y) → a + n ≤ L.length → splitL y (L.drop a) = appHead ((L.drop a).take n) (splitL y (L.drop (a + n)))
  | 0, a, _, _ => by rw [List.take_zero, appHead_nil, Nat.add_zero]
  | n + 1, a, h, hl => by
    have ha : a < L.length := by omega
    have e : L.drop a = L[a] :: L.drop (a + 1) := List.drop_eq_getElem_cons ha
    have hm := h a (Nat.le_refl a) (by omega)
    rw [e] at hm
    have ih := split_copy (L := L) n (a + 1) (fun k h1 h2 => h k (by omega) (by omega)) (by omega)
    rw [e, split_miss hm, ih, List.take_succ_cons, appHead_app, show a + 1 + n = a + (n + 1) by omega]
    rfl
theorem split_nil : splitL y [] = [[]] := rfl
theorem split_none {L : List Nat} {a : Nat} (h : ∀ k, a ≤ k → ¬ (L.drop k).take y.length = y) : splitL y (L.drop a) = [L.drop a] := by
  by_cases ha : a ≤ L.length
  · have e := split_copy (y := y) (L := L) (L.length - a) a (fun k h1 _ => h k h1) (by omega)
    rw [e, show a + (L.length - a) = L.length by omega, List.drop_length, split_nil]
    show [_ ++ []] = _
    rw [List.append_nil, List.take_of_length_le (by rw [List.length_drop]; omega)]
  · rw [List.drop_eq_nil_of_le (by omega), split_nil]
end
theorem split_chain {x y : Str} (hy : 1 ≤ y.length) : ∀ (cuts : List Nat) (a f : Nat), ChainG x y x.length a cuts f → (∀ k, f ≤ k → ¬ At x y x.length k) → a ≤ x.length →
    (partsFrom x y.length a cuts).map (fun p => p.cps.toList) = splitL y.cps.toList (x.cps.toList.drop a)
  | [], a, f, h, hn, ha => by
    have e : f = a := h
    subst e
    have ex : x.cps.toList.length = x.length := by simp [Str.length]
    rw [split_none fun k hk hh => hn k hk (take_at hy hh)]
    show [(strSub x f x.length).cps.toList] = _
    rw [strSub_toList]
    congr 1
    exact List.take_of_length_le (by rw [List.length_drop]; omega)
  | c :: r, a, f, h, hn, ha => by
    obtain ⟨hac, hA, hno, hr⟩ := h
    have hb := hA.1
    have ex : x.cps.toList.length = x.length := by simp [Str.length]
    have ey : y.cps.toList.length = y.length := by simp [Str.length]
    have ih := split_chain hy r (c + y.length) f hr hn hb
    have cp := split_copy (y := y.cps.toList) (L := x.cps.toList) (c - a) a (fun k h1 h2 hh => hno k h1 (by omega) (take_at hy hh)) (by omega)
    have hc : c < x.cps.toList.length := by omega
    have ed : x.cps.toList.drop c = x.cps.toList[c] :: x.cps.toList.drop (c + 1) := List.drop_eq_getElem_cons hc
    have ht := at_take hA
    have hne : y.cps.toList ≠ [] := fun w => by
      rw [w] at ey
      have : (0 : Nat) = y.length := ey
      omega
    have hit : splitL y.cps.toList (x.cps.toList.drop c) = [] :: splitL y.cps.toList (x.cps.toList.drop (c + y.length)) := by
      have h3 := ht
      rw [ed] at h3
      rw [ed, split_hit hne h3, ← ed, List.drop_drop, ey]
    rw [cp, show a + (c - a) = c by omega, hit]
    show (strSub x a c).cps.toList :: (partsFrom x y.length (c + y.length) r).map _ = _
    rw [ih, strSub_toList]
    show _ = (_ ++ []) :: _
    rw [List.append_nil]
theorem kind_pos (x : Str) : 1 ≤ Builtin.Str.strKind x := by
  unfold Builtin.Str.strKind
  split
  · exact Nat.le_refl _
  · split <;> omega
theorem split_list {x y : Str} (hy : 1 ≤ y.length) (ha : Builtin.Str.strKind y = 1) : (Txt.split x y).map (fun p => p.cps.toList) = splitL y.cps.toList x.cps.toList := by
  obtain ⟨f, hc, hn⟩ := occ_tight x y hy
  have h := split_chain hy _ 0 f hc hn (Nat.zero_le _)
  rw [List.drop_zero] at h
  unfold Txt.split
  have e1 : decide (Builtin.Str.strKind x < Builtin.Str.strKind y) = false := decide_eq_false (by rw [ha]; have := kind_pos x; omega)
  rw [e1, Bool.or_false]
  by_cases hl : x.length < y.length
  · rw [if_pos (decide_eq_true hl)]
    have := split_none (y := y.cps.toList) (L := x.cps.toList) (a := 0) fun k _ hh => by
      have h2 := (take_at hy hh).1
      omega
    rw [List.drop_zero] at this
    rw [this]
    rfl
  · rw [if_neg (by simpa using hl)]
    cases e : occurrences x y 0 x.length (x.length + 1) with
    | nil =>
      rw [e] at h
      rw [if_pos (show ([] : List Nat).isEmpty = true from rfl), ← h]
      show [x.cps.toList] = [(strSub x 0 x.length).cps.toList]
      rw [strSub_toList]
      simp only [Str.length, List.drop_zero, Nat.sub_zero]
      rw [List.take_of_length_le (by simp)]
    | cons a r =>
      rw [e] at h
      rw [if_neg (by simp), partsBetween_eq, h]

/-! ### the first place -/
/-- what is ahead of the first y, what is behind it -/
def cutL (y : List Nat) : List Nat → Option (List Nat × List Nat)
  | [] => none
  | c :: r => match preL y (c :: r) with
    | true => some ([], (c :: r).drop y.length)
    | false => match cutL y r with
      | some (a, b) => some (c :: a, b)
      | none => none
theorem cutL_none {y : List Nat} (hy : y ≠ []) : ∀ {l : List Nat}, (∀ k, ¬ (l.drop k).take y.length = y) → cutL y l = none
  | [], _ => rfl
  | c :: r, h => by
    unfold cutL
    have h0 := h 0
    rw [List.drop_zero] at h0
    cases e : preL y (c :: r) with
    | true => exact absurd ((preL_iff _ _).mp e) h0
    | false =>
      dsimp only
      rw [cutL_none hy fun k => by have := h (k + 1); rwa [List.drop_succ_cons] at this]
theorem cutL_some {y : List Nat} (hy : y ≠ []) : ∀ {l : List Nat} {i : Nat}, (l.drop i).take y.length = y → (∀ k, k < i → ¬ (l.drop k).take y.length = y) → cutL y l = some (l.take i, l.drop (i + y.length))
  | [], i, h, _ => by
    rw [List.drop_nil, List.take_nil] at h
    exact absurd h.symm hy
  | c :: r, 0, h, _ => by
    rw [List.drop_zero] at h
    unfold cutL
    rw [(preL_iff _ _).mpr h, List.take_zero, Nat.zero_add]
  | c :: r, i + 1, h, hn => by
    unfold cutL
    have h0 := hn 0 (by omega)
    rw [List.drop_zero] at h0
    cases e : preL y (c :: r) with
    | true => exact absurd ((preL_iff _ _).mp e) h0
    | false =>
      rw [List.drop_succ_cons] at h
      have ih := cutL_some hy (l := r) (i := i) h fun k hk => by have := hn (k + 1) (by omega); rwa [List.drop_succ_cons] at this
      dsimp only
      rw [ih]
      dsimp only
      rw [List.take_succ_cons, show i + 1 + y.length = (i + y.length) + 1 by omega, List.drop_succ_cons]
theorem occ1 {x y : Str} (hy : 1 ≤ y.length) : (occurrences x y 0 x.length 1 = [] ∧ ∀ k, ¬ (x.cps.toList.drop k).take y.cps.toList.length = y.cps.toList) ∨
    ∃ i rest, occurrences x y 0 x.length 1 = i :: rest ∧ At x y x.length i ∧ ∀ k, k < i → ¬ (x.cps.toList.drop k).take y.cps.toList.length = y.cps.toList := by
  rw [occ_eq]
  have h := occ_first x y x.length 1 (Nat.le_refl _) (List.range' 0 (x.length + 1 - 0)) 0 (fun _ _ => Nat.zero_le _)
  rcases h with ⟨h1, h2⟩ | ⟨pre, a, post, h1, h2, h3, h4⟩
  · refine .inl ⟨by rw [h1], fun k hh => ?_⟩
    have h5 := take_at hy hh
    exact h2 k (by rw [List.mem_range'_1]; have := h5.1; omega) h5
  · refine .inr ?_
    cases e : (forIn (List.range' 0 (x.length + 1 - 0)) ((#[] : Array Nat), 0) (occBody x y x.length 1)).run.fst.toList with
    | nil =>
      have : (forIn (List.range' 0 (x.length + 1 - 0)) ((#[] : Array Nat), 0) (occBody x y x.length 1)).run.fst[0]? = none := by
        rw [← Array.getElem?_toList, e]; rfl
      rw [this] at h2; cases h2
    | cons i rest =>
      have e0 : (forIn (List.range' 0 (x.length + 1 - 0)) ((#[] : Array Nat), 0) (occBody x y x.length 1)).run.fst[0]? = some i := by
        rw [← Array.getElem?_toList, e]; rfl
      rw [e0] at h2
      have hia : i = a := Option.some.inj h2
      subst hia
      refine ⟨i, rest, rfl, h3, fun k hk hh => ?_⟩
      refine h4 k ?_ (take_at hy hh)
      have rg : ∀ j, j < x.length + 1 → (List.range' 0 (x.length + 1 - 0))[j]? = some j := fun j hj => List.getElem?_eq_some_iff.mpr ⟨by simpa using hj, by simp⟩
      have hlen := congrArg List.length h1
      simp at hlen
      have hr : (List.range' 0 (x.length + 1 - 0))[pre.length]? = some i := by rw [h1]; simp
      rw [rg _ (by omega)] at hr
      have hp : pre.length = i := Option.some.inj hr
      have hk2 := rg k (by omega)
      rw [h1, List.getElem?_append_left (by omega)] at hk2
      exact List.mem_of_getElem? hk2
def partL (y l : List Nat) : List Nat × List Nat × List Nat := match cutL y l with
  | some (a, b) => (a, y, b)
  | none => (l, [], [])
theorem part_list {x y : Str} (hy : 1 ≤ y.length) : (Txt.partition x y).1.cps.toList = (partL y.cps.toList x.cps.toList).1 ∧ (Txt.partition x y).2.1.cps.toList = (partL y.cps.toList x.cps.toList).2.1 ∧
    (Txt.partition x y).2.2.cps.toList = (partL y.cps.toList x.cps.toList).2.2 := by
  have ey : y.cps.toList.length = y.length := by simp [Str.length]
  have hne : y.cps.toList ≠ [] := fun w => by
    rw [w] at ey
    have : (0 : Nat) = y.length := ey
    omega
  unfold Txt.partition partL
  rcases occ1 (x := x) hy with ⟨h1, h2⟩ | ⟨i, rest, h1, h2, h3⟩
  · rw [h1, cutL_none hne h2]
    exact ⟨rfl, rfl, rfl⟩
  · rw [h1, cutL_some hne (at_take h2) h3]
    dsimp only
    rw [strSub_toList, strSub_toList, ey]
    refine ⟨by simp, rfl, ?_⟩
    exact List.take_of_length_le (by rw [List.length_drop]; simp [Str.length])
/-- y in l -/
def inL (y l : List Nat) : Bool := match y with
  | [] => true
  | _ => (cutL y l).isSome
theorem in_list {x y : Str} : (!(occurrences x y 0 x.length 1).isEmpty) = inL y.cps.toList x.cps.toList := by
  cases hy : y.cps.toList with
  | nil =>
    show _ = true
    refine (found_iff x y).mpr ⟨0, ?_, ?_⟩
    · have : y.length = 0 := by
        have := congrArg List.length hy
        simpa [Str.length] using this
      omega
    · rw [subAt_eq, hy]
      simp [Str.length]
      have := congrArg List.length hy
      exact .inl (by simpa using this)
  | cons a r =>
    have hl : 1 ≤ y.length := by
      have := congrArg List.length hy
      simp [Str.length] at this ⊢
      omega
    show _ = (cutL (a :: r) _).isSome
    rw [← hy]
    have hne : y.cps.toList ≠ [] := by rw [hy]; simp
    rcases occ1 (x := x) hl with ⟨h1, h2⟩ | ⟨i, rest, h1, h2, h3⟩
    · rw [h1, cutL_none hne h2]; rfl
    · rw [h1, cutL_some hne (at_take h2) h3]; rfl
def joinL (z : List Nat) : List (List Nat) → List Nat
  | [] => []
  | p :: r => p ++ go z r
where go (z : List Nat) : List (List Nat) → List Nat
  | [] => []
  | p :: r => z ++ (p ++ go z r)
theorem join_list (z : Str) (ps : List Str) : (Txt.join z ps).cps.toList = joinL z.cps.toList (ps.map fun p => p.cps.toList) := by
  cases ps with
  | nil => rfl
  | cons p r =>
    show (glued z (p :: r)).cps.toList = _
    rw [glued_list]
    show p.cps.toList ++ glueL z.cps.toList r = p.cps.toList ++ joinL.go z.cps.toList (r.map _)
    congr 1
    induction r with
    | nil => rfl
    | cons q r ih =>
      show z.cps.toList ++ (q.cps.toList ++ glueL z.cps.toList r) = z.cps.toList ++ (q.cps.toList ++ joinL.go _ _)
      rw [ih]
theorem starts_list (x y : Str) : Txt.startswith x y = preL y.cps.toList x.cps.toList := by
  have ex : x.cps.toList.length = x.length := by simp [Str.length]
  have ey : y.cps.toList.length = y.length := by simp [Str.length]
  unfold Txt.startswith
  rw [subAt_eq, List.drop_zero, Nat.zero_add, ← ey, ← ex]
  cases e : preL y.cps.toList x.cps.toList with
  | true =>
    have h := (preL_iff _ _).mp e
    have hl := congrArg List.length h
    rw [List.length_take] at hl
    rw [h]
    simp only [Array.length_toList] at hl
    simp
    omega
  | false =>
    have h := preL_not e
    simp
    intro _
    exact h
end M7
end

noncomputable section
namespace M7
open PySem L2

section
variable {P : Par} {ρ ρ' : List Addr} {W : WS} {W0 : FW} {H H' : Hp} {hp : HP} {E : XK} {Q : VK} {X : Cx} {pos : Pos}

/-! ### a built-in called with values -/
abbrev GA := HP → List U → Option U
def cOf (P : Par) (g : GA) : List V → Hp → VK → Prop := fun xs H Q => ∃ ρ W hp us r, RH P ρ W hp H ∧ RUs P ρ W H us xs ∧ g hp us = some r ∧ Cont P ρ W hp H Q r
theorem callM {f : Value} {r : List V → Hp → VK → Prop} {g : GA} (hc : CallR X f r)
    (h : ∀ (H : Hp) (xs : List V) (Q : VK) (ρ : List Addr) (W : WS) (hp : HP) (us : List U) (c : U), RH P ρ W hp H → RUs P ρ W H us xs → g hp us = some c → Cont P ρ W hp H Q c → r xs H Q) : CallR X f (cOf P g) :=
  fun pins s σ H xs us Q I rv ⟨ρ, W, hp, ls, c, rh, rs, e, k⟩ => hc pins s σ H xs us Q I rv (h H xs Q ρ W hp ls c rh rs e k)
def gaOr (g g' : GA) : GA := fun h us => match g h us with
  | some r => some r
  | none => g' h us
theorem callOr {f : Value} {g g' : GA} (h : CallR X f (cOf P g)) (h' : CallR X f (cOf P g')) : CallR X f (cOf P (gaOr g g')) :=
  fun pins s σ H xs us Q I rv ⟨ρ, W, hp, ls, c, rh, rs, e, k⟩ => by
  unfold gaOr at e
  cases q : g hp ls with
  | some d =>
    rw [q] at e
    cases e
    exact h pins s σ H xs us Q I rv ⟨ρ, W, hp, ls, _, rh, rs, q, k⟩
  | none =>
    rw [q] at e
    exact h' pins s σ H xs us Q I rv ⟨ρ, W, hp, ls, c, rh, rs, e, k⟩
def eCallB (g : GA) (ma : MA) : ME := fun σ h => (ma σ h).bind fun us h1 => match g h1 us with
  | some r => .ok r h1
  | none => .bad
theorem tCB_of {g : GA} {ma : MA} {σ : St} {H : Hp} {Q : VK} (q : tM P E (eCallB g ma) σ H Q) : tCB (cOf P g) (tMA P E ma) σ H Q := by
  obtain ⟨ρ, W0, W, σ', hp, rs, rh, po⟩ := q
  refine tMA_then rs rh po fun ρ1 H1 us vs hp1 rs1 rh1 ru1 x1 po1 => ?_
  cases e : g hp1 us with
  | none => rw [e] at po1; exact po1.elim
  | some r =>
    rw [e] at po1
    exact ⟨ρ1, W, hp1, us, r, rh1, ru1, e, po1⟩
variable {x : Str} {p : Pos} {e : Expr} {es : List Expr} {ma : MA} {bid T : String} {g : GA}
theorem tM_callB (hc : CallR X (.builtin bid) (cOf P g)) (hg : Gl X x) (hm : X.mg x = none) (hv : bootBuiltins x = some (.builtin bid)) (ha : PA X (e :: es) (tMA P E ma)) (hn : x ≠ "__name__") (hdb : (x == ("__debug__" : Str)) = false)
    (he : starEach (e :: es) X.env = (false, eval e X.env) :: starEach es X.env) (hpl : (backTo pos (starEach es X.env)).any (·.1) = false) : PE X (.Call (.Name x p) (e :: es) [] pos) (tM P E (eCallB g ma)) :=
  ⟨fun pins s σ H Q I q => (pe_callB hc hg hm hv ha hn hdb he hpl).run pins s σ H Q I (tCB_of q)⟩
theorem tM_callTy (hc : CallR X (.type T) (cOf P g)) (hg : Gl X x) (hm : X.mg x = none) (hv : bootBuiltins x = some (.type T)) (ha : PA X (e :: es) (tMA P E ma)) (hn : x ≠ "__name__") (hdb : (x == ("__debug__" : Str)) = false)
    (he : starEach (e :: es) X.env = (false, eval e X.env) :: starEach es X.env) (hpl : (backTo pos (starEach es X.env)).any (·.1) = false) : PE X (.Call (.Name x p) (e :: es) [] pos) (tM P E (eCallB g ma)) :=
  ⟨fun pins s σ H Q I q => (pe_callTy hc hg hm hv ha hn hdb he hpl).run pins s σ H Q I (tCB_of q)⟩
def g1 (g : HP → U → Option U) : GA := fun h us => match us with
  | [u] => g h u
  | _ => none
def g2 (g : HP → U → U → Option U) : GA := fun h us => match us with
  | [u, v] => g h u v
  | _ => none
theorem g1_ok {g : HP → U → Option U} {us : List U} {vs : List V} {c : U} (r : RUs P ρ W H us vs) (e : g1 g hp us = some c) : ∃ u v, vs = [v] ∧ RU P ρ W H u v ∧ g hp u = some c := by
  unfold g1 at e
  split at e
  · cases r with
    | cons r t => cases t; exact ⟨_, _, rfl, r, e⟩
  · cases e
theorem g2_ok {g : HP → U → U → Option U} {us : List U} {vs : List V} {c : U} (r : RUs P ρ W H us vs) (e : g2 g hp us = some c) : ∃ u1 u2 v1 v2, vs = [v1, v2] ∧ RU P ρ W H u1 v1 ∧ RU P ρ W H u2 v2 ∧ g hp u1 u2 = some c := by
  unfold g2 at e
  split at e
  · cases r with
    | cons r t =>
      cases t with
      | cons r2 t => cases t; exact ⟨_, _, _, _, rfl, r, r2, e⟩
  · cases e

/-! ### len -/
def gLen : HP → U → Option U := fun h u => match u with
  | .str x => if fits x.length = true then some (.int x.length) else none
  | u => (asSeq h u).map fun xs => .int xs.length
theorem cr_len (hK : X.K = P.K) : CallR X (.builtin "len") (cOf P (g1 gLen)) := callM call_len fun H xs Q ρ W hp us c rh rs e k => by
  obtain ⟨u, v, rfl, ru, e⟩ := g1_ok rs e
  unfold gLen at e
  split at e
  · split at e
    · rename_i x hf
      cases e
      cases ru
      exact ⟨_, x.length, rfl, ⟨by simpa [Str.length] using fits_le hf, by simp [Str.length]⟩, k.now rh (.int _)⟩
    · cases e
  · obtain ⟨xs, h1, rfl⟩ := Option.map_eq_some_iff.mp e
    obtain ⟨a, vs, rfl, hq, r⟩ := asSeq_ok rh ru h1
    refine ⟨_, xs.length, rfl, ?_, k.now rh (.int _)⟩
    rw [hK, r.length]
    rcases hq with hq | hq
    · exact .inl ⟨vs, hq, rfl⟩
    · exact .inr ⟨vs, hq, rfl⟩

/-! ### tuple, list -/
def gTuple : HP → U → Option U := fun h u => match u with
  | .tup xs => some (.tup xs)
  | u => (asLst h u).map .tup
theorem cr_tuple (hK : X.K = P.K) : CallR X (.type "tuple") (cOf P (g1 gTuple)) := callM call_tuple_of fun H xs Q ρ W hp us c rh rs e k => by
  obtain ⟨u, v, rfl, ru, e⟩ := g1_ok rs e
  unfold gTuple at e
  split at e
  · cases e
    cases ru with
    | tup h r => exact ⟨_, _, rfl, .inr ⟨by rw [hK]; exact h.sq, k.now rh (.tup h r)⟩⟩
  · obtain ⟨xs, h1, rfl⟩ := Option.map_eq_some_iff.mp e
    obtain ⟨a, vs, rfl, hq, r⟩ := asLst_ok rh ru h1
    exact ⟨a, vs, rfl, .inl ⟨by rw [hK]; exact hq, k.newTup rh r⟩⟩
def gList : HP → U → Option U := fun h u => (asSeq h u).map .lst
theorem cr_list (hK : X.K = P.K) : CallR X (.type "list") (cOf P (g1 gList)) := callM call_list_of fun H xs Q ρ W hp us c rh rs e k => by
  obtain ⟨u, v, rfl, ru, e⟩ := g1_ok rs e
  obtain ⟨xs, h1, rfl⟩ := Option.map_eq_some_iff.mp e
  obtain ⟨a, vs, rfl, hq, r⟩ := asSeq_ok rh ru h1
  exact ⟨a, vs, rfl, by rw [hK]; exact hq, k.newLst rh r⟩

/-! ### all, any -/
def allB : List U → Option Bool
  | [] => some true
  | .bl b :: us => (allB us).map fun c => b && c
  | _ => none
def anyB : List U → Option Bool
  | [] => some false
  | .bl b :: us => (anyB us).map fun c => b || c
  | _ => none
theorem allB_ok : ∀ {us : List U} {vs : List V} {k : Bool}, RUs P ρ W H us vs → allB us = some k → ∃ bs : List Bool, vs = bs.map V.bl ∧ bs.all id = k
  | _, _, _, .nil, e => by cases e; exact ⟨[], rfl, rfl⟩
  | _, _, k, .cons (a := u) r t, e => by
    cases u with
    | bl b =>
      obtain ⟨c, h1, h2⟩ := Option.map_eq_some_iff.mp e
      obtain ⟨bs, rfl, h3⟩ := allB_ok t h1
      cases r
      exact ⟨b :: bs, rfl, by rw [List.all_cons, h3]; exact h2⟩
    | _ => cases e
theorem anyB_ok : ∀ {us : List U} {vs : List V} {k : Bool}, RUs P ρ W H us vs → anyB us = some k → ∃ bs : List Bool, vs = bs.map V.bl ∧ bs.any id = k
  | _, _, _, .nil, e => by cases e; exact ⟨[], rfl, rfl⟩
  | _, _, k, .cons (a := u) r t, e => by
    cases u with
    | bl b =>
      obtain ⟨c, h1, h2⟩ := Option.map_eq_some_iff.mp e
      obtain ⟨bs, rfl, h3⟩ := anyB_ok t h1
      cases r
      exact ⟨b :: bs, rfl, by rw [List.any_cons, h3]; exact h2⟩
    | _ => cases e
def gAll : HP → U → Option U := fun h u => (asLst h u).bind fun xs => (allB xs).map .bl
def gAny : HP → U → Option U := fun h u => (asLst h u).bind fun xs => (anyB xs).map .bl
theorem cr_all' (hK : X.K = P.K) (hc : X.calm = true) : CallR X (.builtin "all") (cOf P (g1 gAll)) := callM (cr_all hc) fun H xs Q ρ W hp us c rh rs e k => by
  obtain ⟨u, v, rfl, ru, e⟩ := g1_ok rs e
  obtain ⟨ys, h1, h2⟩ := Option.bind_eq_some_iff.mp e
  obtain ⟨b, h3, rfl⟩ := Option.map_eq_some_iff.mp h2
  obtain ⟨a, vs, rfl, hq, r⟩ := asLst_ok rh ru h1
  obtain ⟨bs, rfl, h4⟩ := allB_ok r h3
  exact ⟨a, bs, rfl, by rw [hK]; exact hq, by rw [h4]; exact k.now rh (.bl _)⟩
theorem cr_any' (hK : X.K = P.K) (hc : X.calm = true) : CallR X (.builtin "any") (cOf P (g1 gAny)) := callM (cr_any hc) fun H xs Q ρ W hp us c rh rs e k => by
  obtain ⟨u, v, rfl, ru, e⟩ := g1_ok rs e
  obtain ⟨ys, h1, h2⟩ := Option.bind_eq_some_iff.mp e
  obtain ⟨b, h3, rfl⟩ := Option.map_eq_some_iff.mp h2
  obtain ⟨a, vs, rfl, hq, r⟩ := asLst_ok rh ru h1
  obtain ⟨bs, rfl, h4⟩ := anyB_ok r h3
  exact ⟨a, bs, rfl, by rw [hK]; exact hq, by rw [h4]; exact k.now rh (.bl _)⟩

/-! ### int, str, abs, max, min -/
def strI : Int → List Nat
  | .ofNat m => (Nat.toDigits 10 m).map Char.toNat
  | .negSucc m => (Str.ofString (toString (Int.negSucc m))).cps.toList
theorem strI_ok (i : Int) : (Str.ofString (toString i)) = ⟨(strI i).toArray⟩ := by
  cases i with
  | ofNat m =>
    have h := PySem.W.KIN.signs_num m
    show Str.ofString (toString ((m : Nat) : Int)) = ⟨((Nat.toDigits 10 m).map Char.toNat).toArray⟩
    rw [← h]
  | negSucc m =>
    unfold strI
    simp
def gStr : HP → U → Option U := fun _ u => match u with
  | .str x => some (.str x)
  | .int i => if Nat.ble i.natAbs 1000000000000000000 = true then some (.str (strI i)) else none
  | _ => none
theorem log2_small {n : Nat} (h : n ≤ 1000000000000000000) : n.log2 < 1920 := by
  by_cases h0 : n = 0
  · subst h0; decide
  · have : n.log2 < 60 := (Nat.log2_lt h0).mpr (Nat.lt_of_le_of_lt h (by decide))
    omega
theorem cr_str : CallR X (.type "str") (cOf P (g1 gStr)) := by
  intro pins s σ H xs us Q I rv ⟨ρ, W, hp, ls, c, rh, rs, e, k⟩
  obtain ⟨u, v, rfl, ru, e⟩ := g1_ok rs e
  unfold gStr at e
  split at e
  · cases e
    cases ru
    exact SkE.call_str_str pins s σ H _ us Q I rv ⟨_, rfl, k.now rh (.str _)⟩
  · split at e
    · rename_i i hf
      cases e
      cases ru
      refine call_str_int pins s σ H _ us Q I rv ⟨i, rfl, log2_small (Nat.le_of_ble_eq_true hf), ?_⟩
      have z := k.now rh (.str (strI i))
      rw [← strI_ok] at z
      exact z
    · cases e
  · cases e
def intL (x : List Nat) : Option Int := match x with
  | [c] => if Nat.ble 48 c = true then if Nat.ble c 57 = true then some ((c - 48 : Nat) : Int) else none else none
  | _ => if Nat.ble x.length 640 = true then PySem.intText? ⟨x.toArray⟩ else none
theorem intL_ok {x : List Nat} {i : Int} (h : intL x = some i) : PySem.intText? ⟨x.toArray⟩ = some i ∧ (⟨x.toArray⟩ : Str).length ≤ 640 := by
  unfold intL at h
  split at h
  · rename_i c
    split at h
    · rename_i h1
      split at h
      · rename_i h2
        cases h
        have h1 := Nat.le_of_ble_eq_true h1
        have h2 := Nat.le_of_ble_eq_true h2
        refine ⟨?_, by simp [Str.length]⟩
        have : ∀ d : Fin 10, PySem.intText? ⟨#[48 + d.val]⟩ = some ((d.val : Nat) : Int) := by decide +kernel
        have q := this ⟨c - 48, by omega⟩
        have e : 48 + (c - 48) = c := by omega
        simp only [e] at q
        exact q
      · cases h
    · cases h
  · split at h
    · rename_i h1
      exact ⟨h, by simpa [Str.length] using Nat.le_of_ble_eq_true h1⟩
    · cases h
def gInt : HP → U → Option U := fun _ u => match u with
  | .int i => some (.int i)
  | .bl b => some (.int (if b then 1 else 0))
  | .str x => (intL x).map .int
  | _ => none
theorem cr_int : CallR X (.type "int") (cOf P (g1 gInt)) := by
  intro pins s σ H xs us Q I rv ⟨ρ, W, hp, ls, c, rh, rs, e, k⟩
  obtain ⟨u, v, rfl, ru, e⟩ := g1_ok rs e
  unfold gInt at e
  split at e
  · cases e
    cases ru
    exact call_int1 pins s σ H _ us Q I rv (.inl ⟨_, rfl, k.now rh (.int _)⟩)
  · cases e
    cases ru
    exact call_int1 pins s σ H _ us Q I rv (.inr ⟨_, rfl, k.now rh (.int _)⟩)
  · obtain ⟨i, h1, rfl⟩ := Option.map_eq_some_iff.mp e
    cases ru
    obtain ⟨h2, h3⟩ := intL_ok h1
    exact call_int_str pins s σ H _ us Q I rv ⟨_, i, rfl, h2, h3, k.now rh (.int _)⟩
  · cases e
def gAbs : HP → U → Option U := fun _ u => match u with
  | .int i => some (.int (if i < 0 then -i else i))
  | _ => none
theorem cr_abs : CallR X (.builtin "abs") (cOf P (g1 gAbs)) := callM call_abs fun H xs Q ρ W hp us c rh rs e k => by
  obtain ⟨u, v, rfl, ru, e⟩ := g1_ok rs e
  unfold gAbs at e
  split at e
  · cases e
    cases ru
    exact ⟨_, rfl, k.now rh (.int _)⟩
  · cases e
def gMax2 : HP → U → U → Option U := fun _ u v => match u, v with
  | .int i, .int j => some (.int (if j > i then j else i))
  | _, _ => none
theorem cr_max2 (hc : X.calm = true) : CallR X (.builtin "max") (cOf P (g2 gMax2)) := callM (call_max2 hc) fun H xs Q ρ W hp us c rh rs e k => by
  obtain ⟨u, u', v, v', rfl, ru, ru', e⟩ := g2_ok rs e
  unfold gMax2 at e
  split at e
  · cases e
    cases ru
    cases ru'
    exact ⟨_, _, rfl, k.now rh (.int _)⟩
  · cases e
def gMin2 : HP → U → U → Option U := fun _ u v => match u, v with
  | .int i, .int j => some (.int (if j < i then j else i))
  | _, _ => none
theorem cr_min2 (hc : X.calm = true) : CallR X (.builtin "min") (cOf P (g2 gMin2)) := callM (call_min2 hc) fun H xs Q ρ W hp us c rh rs e k => by
  obtain ⟨u, u', v, v', rfl, ru, ru', e⟩ := g2_ok rs e
  unfold gMin2 at e
  split at e
  · cases e
    cases ru
    cases ru'
    exact ⟨_, _, rfl, k.now rh (.int _)⟩
  · cases e
def intsU : List U → Option (List Int)
  | [] => some []
  | .int i :: us => (intsU us).map fun r => i :: r
  | _ => none
theorem intsU_ok : ∀ {us : List U} {vs : List V} {ns : List Int}, RUs P ρ W H us vs → intsU us = some ns → vs = ns.map V.int
  | _, _, _, .nil, e => by cases e; rfl
  | _, _, ns, .cons (a := u) r t, e => by
    cases u with
    | int i =>
      obtain ⟨c, h1, rfl⟩ := Option.map_eq_some_iff.mp e
      have := intsU_ok t h1
      cases r
      rw [this, List.map_cons]
    | _ => cases e
def maxL : Int → List Int → Int
  | m, [] => m
  | m, x :: xs => maxL (if x > m then x else m) xs
theorem maxL_spec : ∀ (l : List Int) (m : Int), (maxL m l ∈ m :: l) ∧ ∀ y ∈ m :: l, y ≤ maxL m l
  | [], m => ⟨by simp [maxL], by simp [maxL]⟩
  | x :: xs, m => by
    unfold maxL
    by_cases hx : x > m
    · rw [if_pos hx]
      obtain ⟨h1, h2⟩ := maxL_spec xs x
      refine ⟨List.mem_cons_of_mem _ h1, fun y hy => ?_⟩
      rcases List.mem_cons.mp hy with q | q
      · rw [q]
        have := h2 x List.mem_cons_self
        omega
      · exact h2 y q
    · rw [if_neg hx]
      obtain ⟨h1, h2⟩ := maxL_spec xs m
      refine ⟨?_, fun y hy => ?_⟩
      · rcases List.mem_cons.mp h1 with q | q
        · rw [q]; exact List.mem_cons_self
        · exact List.mem_cons_of_mem _ (List.mem_cons_of_mem _ q)
      · have h3 := h2 m List.mem_cons_self
        rcases List.mem_cons.mp hy with q | q
        · rw [q]; exact h3
        · rcases List.mem_cons.mp q with q | q
          · rw [q]; omega
          · exact h2 y (List.mem_cons_of_mem _ q)
def gMax : HP → U → Option U := fun h u => (asLst h u).bind fun xs => (intsU xs).bind fun ns => match ns with
  | [] => none
  | n :: r => some (.int (maxL n r))
theorem cr_max1 (hK : X.K = P.K) (hc : X.calm = true) : CallR X (.builtin "max") (cOf P (g1 gMax)) := callM (cr_max hc) fun H xs Q ρ W hp us c rh rs e k => by
  obtain ⟨u, v, rfl, ru, e⟩ := g1_ok rs e
  obtain ⟨ys, h1, h2⟩ := Option.bind_eq_some_iff.mp e
  obtain ⟨ns, h3, h4⟩ := Option.bind_eq_some_iff.mp h2
  obtain ⟨a, vs, rfl, hq, r⟩ := asLst_ok rh ru h1
  have := intsU_ok r h3
  subst this
  cases ns with
  | nil => cases h4
  | cons n ns =>
    cases h4
    refine ⟨a, n :: ns, rfl, by rw [hK]; exact hq, by simp, fun m hm hall => ?_⟩
    obtain ⟨s1, s2⟩ := maxL_spec ns n
    have : m = maxL n ns := Int.le_antisymm (s2 m hm) (hall _ s1)
    rw [this]
    exact k.now rh (.int _)
def gSum : HP → U → Option U := fun h u => (asLst h u).bind fun xs => (intsU xs).map fun ns => .int ns.sum
theorem cr_sum' (hK : X.K = P.K) (hc : X.calm = true) : CallR X (.builtin "sum") (cOf P (g1 gSum)) := callM (cr_sum hc) fun H xs Q ρ W hp us c rh rs e k => by
  obtain ⟨u, v, rfl, ru, e⟩ := g1_ok rs e
  obtain ⟨ys, h1, h2⟩ := Option.bind_eq_some_iff.mp e
  obtain ⟨ns, h3, rfl⟩ := Option.map_eq_some_iff.mp h2
  obtain ⟨a, vs, rfl, hq, r⟩ := asLst_ok rh ru h1
  have := intsU_ok r h3
  subst this
  exact ⟨a, ns, rfl, by rw [hK]; exact hq, k.now rh (.int _)⟩

/-! ### sorted texts -/
def strsU : List U → Option (List (List Nat))
  | [] => some []
  | .str x :: us => (strsU us).map fun r => x :: r
  | _ => none
theorem strsU_ok : ∀ {us : List U} {vs : List V} {ns : List (List Nat)}, RUs P ρ W H us vs → strsU us = some ns → vs = (ns.map fun x => (⟨x.toArray⟩ : Str)).map V.str
  | _, _, _, .nil, e => by cases e; rfl
  | _, _, ns, .cons (a := u) r t, e => by
    cases u with
    | str i =>
      obtain ⟨c, h1, rfl⟩ := Option.map_eq_some_iff.mp e
      have := strsU_ok t h1
      cases r
      rw [this, List.map_cons, List.map_cons]
    | _ => cases e
theorem strs_rus : ∀ (ns : List (List Nat)), RUs P ρ W H (ns.map U.str) ((ns.map fun x => (⟨x.toArray⟩ : Str)).map V.str)
  | [] => .nil
  | x :: r => .cons (.str x) (strs_rus r)
def insL (x : List Nat) : List (List Nat) → List (List Nat)
  | [] => [x]
  | y :: r => match ltL y x with
    | true => y :: insL x r
    | false => x :: y :: r
def sortL : List (List Nat) → List (List Nat)
  | [] => []
  | x :: r => insL x (sortL r)
theorem insL_perm (x : List Nat) : ∀ l, (insL x l).Perm (x :: l)
  | [] => .refl _
  | y :: r => by
    unfold insL
    cases ltL y x with
    | true => exact ((insL_perm x r).cons y).trans (.swap x y r)
    | false => exact .refl _
theorem sortL_perm : ∀ l, (sortL l).Perm l
  | [] => .refl _
  | x :: r => (insL_perm x _).trans ((sortL_perm r).cons x)
theorem ltL_le {a b : List Nat} (h : ltL a b = false) : b ≤ a := by
  rw [ltL_iff] at h
  exact List.not_lt.mp (of_decide_eq_false h)
theorem ltL_lt {a b : List Nat} (h : ltL a b = true) : a < b := by
  rw [ltL_iff] at h
  exact of_decide_eq_true h
theorem insL_sorted (x : List Nat) : ∀ l : List (List Nat), l.Pairwise (· ≤ ·) → (insL x l).Pairwise (· ≤ ·)
  | [], _ => by simp [insL]
  | y :: r, h => by
    unfold insL
    obtain ⟨h1, h2⟩ := List.pairwise_cons.mp h
    cases e : ltL y x with
    | true =>
      refine List.pairwise_cons.mpr ⟨fun z hz => ?_, insL_sorted x r h2⟩
      rcases List.mem_cons.mp ((insL_perm x r).mem_iff.mp hz) with q | q
      · rw [q]; exact List.le_of_lt (ltL_lt e)
      · exact h1 z q
    | false =>
      refine List.pairwise_cons.mpr ⟨fun z hz => ?_, h⟩
      rcases List.mem_cons.mp hz with q | q
      · rw [q]; exact ltL_le e
      · exact List.le_trans (ltL_le e) (h1 z q)
theorem sortL_sorted : ∀ l, (sortL l).Pairwise (· ≤ ·)
  | [] => .nil
  | x :: r => insL_sorted x _ (sortL_sorted r)
theorem sorted_unique {l m : List (List Nat)} (hp : l.Perm m) (hl : l.Pairwise (· ≤ ·)) (hm : m.Pairwise (· ≤ ·)) : l = m :=
  hp.eq_of_pairwise (fun a b _ _ h1 h2 => List.le_antisymm h1 h2) hl hm
end
end M7
end

noncomputable section
namespace M7
open PySem L2 PySem.Spec PyProof.Rows

section
variable {P : Par} {ρ ρ' : List Addr} {W : WS} {W0 : FW} {H H' : Hp} {hp : HP} {E : XK} {Q : VK} {X : Cx} {pos : Pos}
theorem ltCps_eq : ∀ a b : List Nat, ltCps a b = ltL a b
  | [], [] => rfl
  | [], _ :: _ => rfl
  | _ :: _, [] => rfl
  | x :: xs, y :: ys => by
    unfold ltCps ltL
    rw [ltCps_eq xs ys]
    cases e : Nat.beq x y with
    | true =>
      have := Nat.eq_of_beq_eq_true e
      subst this
      simp
    | false =>
      have h := Nat.ne_of_beq_eq_false e
      have hb : (x == y) = false := beq_eq_false_iff_ne.mpr h
      rw [hb, Bool.false_and, Bool.or_false]
      cases q : Nat.blt x y with
      | true => exact decide_eq_true (Nat.le_of_ble_eq_true q)
      | false =>
        refine decide_eq_false fun z => ?_
        have : Nat.blt x y = true := Nat.ble_eq_true_of_le z
        rw [this] at q; cases q
theorem risingS_pair : ∀ (r : List Str) (p : Str), risingS p r = true → ((p :: r).map fun z : Str => z.cps.toList).Pairwise (· ≤ ·)
  | [], p, _ => by simp
  | x :: r, p, h => by
    unfold risingS at h
    simp only [Bool.and_eq_true, Bool.not_eq_true'] at h
    have ih := risingS_pair r x h.2
    rw [ltCps_eq] at h
    have hle := ltL_le h.1
    rw [List.map_cons]
    refine List.pairwise_cons.mpr ⟨fun z hz => ?_, ih⟩
    rw [List.map_cons] at hz ih
    rcases List.mem_cons.mp hz with q | q
    · rw [q]; exact hle
    · exact List.le_trans hle ((List.pairwise_cons.mp ih).1 z q)
theorem sortedS_pair {l : List Str} (h : sortedS l = true) : (l.map fun z : Str => z.cps.toList).Pairwise (· ≤ ·) := by
  cases l with
  | nil => simp
  | cons x r => exact risingS_pair r x h
theorem str_back (ys : List Str) : ys = (ys.map fun z : Str => z.cps.toList).map fun x => (⟨x.toArray⟩ : Str) := by
  induction ys with
  | nil => rfl
  | cons y r ih =>
    rw [List.map_cons, List.map_cons, ← ih]
def gSorted : HP → U → Option U := fun h u => (asLst h u).bind fun xs => (strsU xs).bind fun ns => if Nat.blt ns.length 64 = true then some (.lst ((sortL ns).map .str)) else none
theorem cr_sortedT (hK : X.K = P.K) : CallR X (.builtin "sorted") (cOf P (g1 gSorted)) := callM cr_sortedS fun H xs Q ρ W hp us c rh rs e k => by
  obtain ⟨u, v, rfl, ru, e⟩ := g1_ok rs e
  obtain ⟨ys, h1, h2⟩ := Option.bind_eq_some_iff.mp e
  obtain ⟨ns, h3, h4⟩ := Option.bind_eq_some_iff.mp h2
  split at h4
  · rename_i hf
    cases h4
    obtain ⟨a, vs, rfl, hq, r⟩ := asLst_ok rh ru h1
    have := strsU_ok r h3
    subst this
    refine ⟨a, ns.map fun x => (⟨x.toArray⟩ : Str), rfl, by rw [hK]; exact hq, by rw [List.length_map]; exact Nat.le_of_ble_eq_true hf, fun zs p hp' hs hn => ?_⟩
    have e1 : (zs.map fun z : Str => z.cps.toList) = sortL ns := by
      refine sorted_unique ?_ (sortedS_pair hs) (sortL_sorted ns)
      have := (hp'.map fun z : Str => z.cps.toList)
      rw [List.map_map] at this
      have e2 : (ns.map ((fun z : Str => z.cps.toList) ∘ fun x => (⟨x.toArray⟩ : Str))) = ns := by
        conv => rhs; rw [← List.map_id ns]
        exact List.map_congr_left fun x _ => rfl
      rw [e2] at this
      exact this.trans (sortL_perm ns).symm
    rw [str_back zs, e1]
    exact k.newLst rh (strs_rus _) p hn
  · cases h4

/-! ### methods of texts -/
abbrev GM := HP → U → List U → Option U
def mOf (P : Par) (g : GM) : V → List V → Hp → VK → Prop := fun x xs H Q => ∃ ρ W hp u us r, RH P ρ W hp H ∧ RU P ρ W H u x ∧ RUs P ρ W H us xs ∧ g hp u us = some r ∧ Cont P ρ W hp H Q r
def eMeth (g : GM) (m : ME) (ma : MA) : ME := fun σ h => (m σ h).bind fun u h1 => match u with
  | .str _ => (ma σ h1).bind fun us h2 => match g h2 u us with
    | some r => .ok r h2
    | none => .bad
  | _ => .bad
theorem tM_meth {o e : Expr} {es : List Expr} {name : Str} {bid : String} {apos cpos : Pos} {m : ME} {ma : MA} {g : GM} (slot : Slot "str" name bid) (hty : typeOf (.builtin bid) = pure (.type "method_descriptor")) (hm : MtR X bid (mOf P g))
    (ho : PE X o (tM P E m)) (ha : PA X (e :: es) (tMA P E ma)) (hbase : attributeBase o name X.env (eval o X.env) = eval o X.env)
    (hfew : ((backTo cpos (starEach (e :: es) X.env)).all (fun x => !x.1) && (backToKw cpos (keywordEach [] X.env)).all (fun x => x.1.isSome)
      && decide ((e :: es).length + ([] : List Keyword).length + (if ([] : List Keyword).isEmpty then 0 else 1) < 30)) = true)
    (hline : (apos.endLine == cpos.line) = true) (hs : starEach (e :: es) X.env = (false, eval e X.env) :: starEach es X.env) (hplain : (backTo cpos (starEach es X.env)).any (·.1) = false) :
    PE X (.Call (.Attribute o name apos) (e :: es) [] cpos) (tM P E (eMeth g m ma)) :=
  ⟨fun pins s σ H Q I q => by
  obtain ⟨ρ, W0, W, σ', hp, rs, rh, po⟩ := q
  refine (pe_bm PySem.F.plainAttrs_str slot hty hm ho ha hbase hfew hline hs hplain).run pins s σ H Q I ?_
  unfold eMeth at po
  refine tM_then rs rh po fun ρ1 H1 u v hp1 rs1 rh1 ru1 x1 po1 => ?_
  split at po1
  · cases ru1
    refine ⟨rfl, tMA_then rs1 rh1 po1 fun ρ2 H2 us vs hp2 rs2 rh2 ru2 x2 po2 => ?_⟩
    split at po2
    · rename_i r hr
      exact ⟨ρ2, W, hp2, _, us, r, rh2, .str _, ru2, hr, po2⟩
    · exact po2.elim
  · exact po1.elim⟩
theorem methM {bid : String} {r : V → List V → Hp → VK → Prop} {g : GM} (hc : MtR X bid r)
    (h : ∀ (H : Hp) (x : V) (xs : List V) (Q : VK) (ρ : List Addr) (W : WS) (hp : HP) (u : U) (us : List U) (c : U), RH P ρ W hp H → RU P ρ W H u x → RUs P ρ W H us xs → g hp u us = some c → Cont P ρ W hp H Q c → r x xs H Q) : MtR X bid (mOf P g) :=
  fun pins s σ H x xs v us Q I rx rv ⟨ρ, W, hp, u, ls, c, rh, ru, rs, e, k⟩ => hc pins s σ H x xs v us Q I rx rv (h H x xs Q ρ W hp u ls c rh ru rs e k)
def allLt (n : Nat) : List Nat → Bool
  | [] => true
  | x :: xs => match Nat.blt x n with
    | true => allLt n xs
    | false => false
theorem allLt_ok {n : Nat} : ∀ {l : List Nat}, allLt n l = true → ∀ x ∈ l, x < n
  | [], _, x, hx => nomatch hx
  | y :: r, h, x, hx => by
    unfold allLt at h
    cases e : Nat.blt y n with
    | true =>
      rw [e] at h
      rcases List.mem_cons.mp hx with q | q
      · rw [q]; exact Nat.le_of_ble_eq_true e
      · exact allLt_ok h x q
    | false => rw [e] at h; cases h
theorem kind_one {l : List Nat} (h : allLt 256 l = true) : Builtin.Str.strKind ⟨l.toArray⟩ = 1 := by
  unfold Builtin.Str.strKind
  rw [if_pos]
  simp only [List.all_toArray, List.all_eq_true, decide_eq_true_eq]
  exact allLt_ok h
/-- a separator: not empty, of plain signs -/
def sepOk (y : List Nat) : Bool := match y with
  | [] => false
  | _ => allLt 256 y
theorem sepOk_pos {y : List Nat} (h : sepOk y = true) : 1 ≤ y.length ∧ allLt 256 y = true := by
  cases y with
  | nil => cases h
  | cons a r => exact ⟨by simp, h⟩
def gSplit : GM := fun _ u us => match u, us with
  | .str x, [.str y] => if (sepOk y && Nat.ble (x.length + 2) 16777216) = true then some (.lst ((splitL y x).map .str)) else none
  | _, _ => none
theorem mr_split : MtR X "str.split" (mOf P gSplit) := methM mt_split fun H x xs Q ρ W hp u us c rh ru rs e k => by
  unfold gSplit at e
  split at e
  · split at e
    · rename_i x y hf
      simp only [Bool.and_eq_true] at hf
      cases e
      cases ru
      cases rs with
      | cons r t =>
        cases t
        cases r
        obtain ⟨h1, h2⟩ := sepOk_pos hf.1
        refine ⟨_, _, rfl, rfl, ?_, ?_, fun p hn => ?_⟩
        · simp only [Str.length, List.size_toArray]
          exact beq_eq_false_iff_ne.mpr (by omega)
        · have := fits_le (n := x.length + 2) hf.2
          simpa [Str.length] using this
        · have q := split_list (x := (⟨x.toArray⟩ : Str)) (y := (⟨y.toArray⟩ : Str)) (by simpa [Str.length] using h1) (kind_one h2)
          have q' : (Txt.split (⟨x.toArray⟩ : Str) (⟨y.toArray⟩ : Str)).map (fun p : Str => p.cps.toList) = splitL y x := q
          rw [str_back (Txt.split _ _), q']
          exact k.newLst rh (strs_rus _) p hn
    · cases e
  · cases e
def gPart : GM := fun _ u us => match u, us with
  | .str x, [.str y] => if (sepOk y && fits x.length) = true then some (.tup [.str (partL y x).1, .str (partL y x).2.1, .str (partL y x).2.2]) else none
  | _, _ => none
theorem str_eq {s : Str} {l : List Nat} (h : s.cps.toList = l) : s = ⟨l.toArray⟩ := by rw [← h]
theorem mr_part : MtR X "str.partition" (mOf P gPart) := methM mt_partition fun H x xs Q ρ W hp u us c rh ru rs e k => by
  unfold gPart at e
  split at e
  · split at e
    · rename_i x y hf
      simp only [Bool.and_eq_true] at hf
      cases e
      cases ru
      cases rs with
      | cons r t =>
        cases t
        cases r
        obtain ⟨h1, h2⟩ := sepOk_pos hf.1
        obtain ⟨q1, q2, q3⟩ := part_list (x := (⟨x.toArray⟩ : Str)) (y := (⟨y.toArray⟩ : Str)) (by simpa [Str.length] using h1)
        refine ⟨_, _, rfl, rfl, ?_, ?_, fun p hn => ?_⟩
        · simp only [Str.length, List.size_toArray]
          exact beq_eq_false_iff_ne.mpr (by omega)
        · simpa [Str.length] using fits_le hf.2
        · rw [str_eq q1, str_eq q2, str_eq q3]
          exact k.newTup rh (.cons (.str _) (.cons (.str _) (.cons (.str _) .nil))) p hn
    · cases e
  · cases e
def sumLen : List (List Nat) → Nat
  | [] => 0
  | x :: r => x.length + sumLen r
theorem sumLen_eq (l : List (List Nat)) : sumLen l = ((l.map fun x => (⟨x.toArray⟩ : Str)).map (·.length)).sum := by
  induction l with
  | nil => rfl
  | cons x r ih =>
    rw [List.map_cons, List.map_cons, List.sum_cons, ← ih]
    simp [sumLen, Str.length]
def gJoin : GM := fun h u us => match u, us with
  | .str z, [v] => (asSeq h v).bind fun xs => (strsU xs).bind fun ys => if Nat.ble (sumLen ys + ys.length * z.length) 16777216 = true then some (.str (joinL z ys)) else none
  | _, _ => none
theorem mr_join (hK : X.K = P.K) : MtR X "str.join" (mOf P gJoin) := methM mt_join fun H x xs Q ρ W hp u us c rh ru rs e k => by
  unfold gJoin at e
  split at e
  · rename_i z v
    obtain ⟨ws, h1, h2⟩ := Option.bind_eq_some_iff.mp e
    obtain ⟨ys, h3, h4⟩ := Option.bind_eq_some_iff.mp h2
    split at h4
    · rename_i hf
      cases h4
      cases ru
      cases rs with
      | cons r t =>
        cases t
        obtain ⟨a, vs, rfl, hq, rr⟩ := asSeq_ok rh r h1
        have := strsU_ok rr h3
        subst this
        refine ⟨_, a, ys.map fun x => (⟨x.toArray⟩ : Str), rfl, rfl, by rw [hK]; exact hq, ?_, ?_⟩
        · rw [← sumLen_eq, List.length_map]
          have := Nat.le_of_ble_eq_true hf
          simpa [Str.length] using this
        · have q := join_list (⟨z.toArray⟩ : Str) (ys.map fun x => (⟨x.toArray⟩ : Str))
          rw [List.map_map] at q
          have e2 : (ys.map ((fun p : Str => p.cps.toList) ∘ fun x => (⟨x.toArray⟩ : Str))) = ys := by
            conv => rhs; rw [← List.map_id ys]
            exact List.map_congr_left fun x _ => rfl
          rw [e2] at q
          rw [str_eq q]
          exact k.now rh (.str _)
    · cases h4
  · cases e
def gStarts : GM := fun _ u us => match u, us with
  | .str x, [.str y] => some (.bl (preL y x))
  | _, _ => none
theorem mr_starts : MtR X "str.startswith" (mOf P gStarts) := methM mt_startswith fun H x xs Q ρ W hp u us c rh ru rs e k => by
  unfold gStarts at e
  split at e
  · cases e
    cases ru
    cases rs with
    | cons r t =>
      cases t
      cases r
      refine ⟨_, _, rfl, rfl, ?_⟩
      rw [starts_list]
      exact k.now rh (.bl _)
  · cases e
/-- a text in a text -/
def gInStr (neg : Bool) : G2 := fun _ a b => match a, b with
  | .str y, .str x => some (.bl (if neg then !inL y x else inL y x))
  | _, _ => none
theorem om_inStr : OpM P X (compareOp .In) (gInStr false) := OpM.of op_in_str fun H x y Q ρ W hp a b c rh ra rb e k => by
  unfold gInStr at e
  split at e
  · cases e
    cases ra
    cases rb
    refine ⟨_, _, rfl, rfl, ?_⟩
    rw [in_list]
    exact k.now rh (.bl _)
  · cases e
theorem om_notInStr : OpM P X (compareOp .NotIn) (gInStr true) := OpM.of op_notin_str fun H x y Q ρ W hp a b c rh ra rb e k => by
  unfold gInStr at e
  split at e
  · cases e
    cases ra
    cases rb
    refine ⟨_, _, rfl, rfl, ?_⟩
    rw [in_list]
    exact k.now rh (.bl _)
  · cases e
end
end M7
end

noncomputable section
namespace M7
open PySem L2

/-- behind statements: what this frame alone owned may have changed too -/
structure ExtS (ρ : List Addr) (W0 : FW) (W : WS) (H : Hp) (ρ' : List Addr) (W' : WS) (H' : Hp) : Prop where
  pre : ∃ t, ρ' = ρ ++ t ∧ ∀ a ∈ t, H a = none
  keep : ∀ a o, H a = some o → a ∉ ρ → (¬ W a ∨ W0 a) → H' a = some o
  there : ∀ a o, H a = some o → ∃ o', H' a = some o'
  wn : ∀ a, W' a → W a ∨ H a = none
  frz : ∀ a ob u, H a = some (.frz ob u) → H' a = some (.frz ob u)
section
variable {P : Par} {ρ ρ' ρ'' : List Addr} {W W' W'' : WS} {W0 : FW} {H H' H'' : Hp} {hp : HP} {E : XK} {Q : VK} {X : Cx} {pos : Pos} {D : Ends}
theorem Ext.toS (x : Ext ρ H ρ' H') : ExtS ρ W0 W H ρ' W H' := ⟨x.pre, fun a o h n _ => x.keep a o h n, x.there, fun _ h => .inl h, x.frz⟩
theorem ExtS.refl : ExtS ρ W0 W H ρ W H := Ext.refl.toS
theorem ExtS.trans (x : ExtS ρ W0 W H ρ' W' H') (y : ExtS ρ' W0 W' H' ρ'' W'' H'') : ExtS ρ W0 W H ρ'' W'' H'' := by
  obtain ⟨t, e, ht⟩ := x.pre
  obtain ⟨u, e', hu⟩ := y.pre
  have nn : ∀ a, H' a = none → H a = none := fun a h => by
    cases z : H a with
    | none => rfl
    | some o =>
      obtain ⟨o', e2⟩ := x.there a o z
      rw [h] at e2; cases e2
  refine ⟨⟨t ++ u, by rw [e', e, List.append_assoc], fun a ha => ?_⟩, fun a o h n w => ?_, fun a o h => ?_, fun a h => ?_, fun a ob u h => y.frz a ob u (x.frz a ob u h)⟩
  · rcases List.mem_append.mp ha with q | q
    · exact ht a q
    · exact nn a (hu a q)
  · have h1 := x.keep a o h n w
    refine y.keep a o h1 (fun z => ?_) ?_
    · rw [e] at z
      rcases List.mem_append.mp z with q | q
      · exact n q
      · rw [ht a q] at h; cases h
    · rcases w with w | w
      · refine .inl fun z => ?_
        rcases x.wn a z with q | q
        · exact w q
        · rw [q] at h; cases h
      · exact .inr w
  · obtain ⟨o', h'⟩ := x.there a o h
    exact y.there a o' h'
  · rcases y.wn a h with q | q
    · exact x.wn a q
    · exact .inr (nn a q)

def PostS (P : Par) (E : XK) (ρ : List Addr) (W0 : FW) (W : WS) (H : Hp) (D : Ends) : RS → Prop
  | .nx σ' hp => ∀ ρ' W' H' σ, ExtS ρ W0 W H ρ' W' H' → RSl P ρ' W0 W' H' σ' σ → RH P ρ' W' hp H' → D.nx σ H'
  | .ct σ' hp => ∀ ρ' W' H' σ, ExtS ρ W0 W H ρ' W' H' → RSl P ρ' W0 W' H' σ' σ → RH P ρ' W' hp H' → D.ct σ H'
  | .bk σ' hp => ∀ ρ' W' H' σ, ExtS ρ W0 W H ρ' W' H' → RSl P ρ' W0 W' H' σ' σ → RH P ρ' W' hp H' → D.bk σ H'
  | .rt u hp => ∀ ρ' W' H' v, ExtS ρ W0 W H ρ' W' H' → (∀ a, W0 a → W' a) → RH P ρ' W' hp H' → RU P ρ' W' H' u v → D.rt v H'
  | .exc x hp => ∀ ρ' W' H' cls d, ExtS ρ W0 W H ρ' W' H' → (∀ a, W0 a → W' a) → RH P ρ' W' hp H' → RX P ρ' W' H' x cls d → E cls d H'
  | .bad => False
def tS (P : Par) (E : XK) (m : MS) : TS := fun D σ H => ∃ ρ W0 W σ' hp, RSl P ρ W0 W H σ' σ ∧ RH P ρ W hp H ∧ PostS P E ρ W0 W H D (m σ' hp)
theorem PostS.from (x : ExtS ρ W0 W H ρ' W' H') : ∀ {r : RS}, PostS P E ρ W0 W H D r → PostS P E ρ' W0 W' H' D r
  | .nx _ _, h => fun ρ2 W2 H2 σ y rs rh => h ρ2 W2 H2 σ (x.trans y) rs rh
  | .ct _ _, h => fun ρ2 W2 H2 σ y rs rh => h ρ2 W2 H2 σ (x.trans y) rs rh
  | .bk _ _, h => fun ρ2 W2 H2 σ y rs rh => h ρ2 W2 H2 σ (x.trans y) rs rh
  | .rt _ _, h => fun ρ2 W2 H2 v y w rh ru => h ρ2 W2 H2 v (x.trans y) w rh ru
  | .exc _ _, h => fun ρ2 W2 H2 c d y w rh rx => h ρ2 W2 H2 c d (x.trans y) w rh rx
  | .bad, h => h

/-- an expression ahead of the rest of a statement -/
def R.bindS (r : R) (f : U → HP → RS) : RS := R.rec (motive := fun _ => RS) (fun u h => f u h) (fun x h => .exc x h) .bad r
theorem tM_thenS {m : ME} {f : U → HP → RS} {σ : St} {σ' : SS} (rs : RSl P ρ W0 W H σ' σ) (rh : RH P ρ W hp H) (po : PostS P E ρ W0 W H D ((m σ' hp).bindS f)) {R' : VK}
    (k : ∀ ρ1 H1 u v hp1, RSl P ρ1 W0 W H1 σ' σ → RH P ρ1 W hp1 H1 → RU P ρ1 W H1 u v → Ext ρ H ρ1 H1 → PostS P E ρ1 W0 W H1 D (f u hp1) → R' v H1) : tM P E m σ H R' := by
  refine ⟨ρ, W0, W, σ', hp, rs, rh, ?_⟩
  cases e : m σ' hp with
  | ok u hp1 =>
    rw [e] at po
    exact fun ρ1 H1 v x rh1 ru => k ρ1 H1 u v hp1 (rs.ext rh x) rh1 ru x (PostS.from x.toS po)
  | exc x hp1 =>
    rw [e] at po
    exact fun ρ1 H1 c d x1 rh1 rx => po ρ1 W H1 c d x1.toS rs.sub rh1 rx
  | bad => rw [e] at po; exact po
def RA.bindS (r : RA) (f : List U → HP → RS) : RS := RA.rec (motive := fun _ => RS) (fun u h => f u h) (fun x h => .exc x h) .bad r
theorem tMA_thenS {m : MA} {f : List U → HP → RS} {σ : St} {σ' : SS} (rs : RSl P ρ W0 W H σ' σ) (rh : RH P ρ W hp H) (po : PostS P E ρ W0 W H D ((m σ' hp).bindS f)) {R' : List V → Hp → Prop}
    (k : ∀ ρ1 H1 us vs hp1, RSl P ρ1 W0 W H1 σ' σ → RH P ρ1 W hp1 H1 → RUs P ρ1 W H1 us vs → Ext ρ H ρ1 H1 → PostS P E ρ1 W0 W H1 D (f us hp1) → R' vs H1) : tMA P E m σ H R' := by
  refine ⟨ρ, W0, W, σ', hp, rs, rh, ?_⟩
  cases e : m σ' hp with
  | ok us hp1 =>
    rw [e] at po
    exact fun ρ1 H1 v x rh1 ru => k ρ1 H1 us v hp1 (rs.ext rh x) rh1 ru x (PostS.from x.toS po)
  | exc x hp1 =>
    rw [e] at po
    exact fun ρ1 H1 c d x1 rh1 rx => po ρ1 W H1 c d x1.toS rs.sub rh1 rx
  | bad => rw [e] at po; exact po
def RT.bindS (r : RT) (f : Bool → HP → RS) : RS := RT.rec (motive := fun _ => RS) (fun u h => f u h) (fun x h => .exc x h) .bad r
theorem tMT_thenS {m : MT} {f : Bool → HP → RS} {σ : St} {σ' : SS} (rs : RSl P ρ W0 W H σ' σ) (rh : RH P ρ W hp H) (po : PostS P E ρ W0 W H D ((m σ' hp).bindS f)) {R' : Bool → Hp → Prop}
    (k : ∀ ρ1 H1 b hp1, RSl P ρ1 W0 W H1 σ' σ → RH P ρ1 W hp1 H1 → PostS P E ρ1 W0 W H1 D (f b hp1) → R' b H1) : tMT P E m σ H R' := by
  refine ⟨ρ, W0, W, σ', hp, rs, rh, ?_⟩
  cases e : m σ' hp with
  | ok us hp1 =>
    rw [e] at po
    exact fun ρ1 H1 x rh1 => k ρ1 H1 us hp1 (rs.ext rh x) rh1 (PostS.from x.toS po)
  | exc x hp1 =>
    rw [e] at po
    exact fun ρ1 H1 c d x1 rh1 rx => po ρ1 W H1 c d x1.toS rs.sub rh1 rx
  | bad => rw [e] at po; exact po
/-- statements in a row -/
def RS.bind (r : RS) (f : SS → HP → RS) : RS := RS.rec (motive := fun _ => RS) (fun σ h => f σ h) (fun u h => .rt u h) (fun σ h => .ct σ h) (fun σ h => .bk σ h) (fun x h => .exc x h) .bad r
def sSkip : MS := fun σ h => .nx σ h
def sSeq (a b : MS) : MS := fun σ h => (a σ h).bind b
theorem tS_nil : PSs X [] (tS P E sSkip) := ⟨fun pins s σ H D I q => by
  obtain ⟨ρ, W0, W, σ', hp, rs, rh, po⟩ := q
  exact pss_nil.run pins s σ H D I (po ρ W H σ ExtS.refl rs rh)⟩
theorem tS_cons {st : Stmt} {rest : List Stmt} {a b : MS} (h1 : PS X st (tS P E a)) (h2 : PSs X rest (tS P E b)) : PSs X (st :: rest) (tS P E (sSeq a b)) := ⟨fun pins s σ H D I q => by
  obtain ⟨ρ, W0, W, σ', hp, rs, rh, po⟩ := q
  refine (pss_cons h1 h2).run pins s σ H D I ⟨ρ, W0, W, σ', hp, rs, rh, ?_⟩
  unfold sSeq at po
  cases e : a σ' hp with
  | nx σ1 h1 =>
    rw [e] at po
    exact fun ρ1 W1 H1 σr x rs1 rh1 => ⟨ρ1, W0, W1, σ1, h1, rs1, rh1, PostS.from x po⟩
  | rt u h1 => rw [e] at po; exact po
  | ct u h1 => rw [e] at po; exact po
  | bk u h1 => rw [e] at po; exact po
  | exc u h1 => rw [e] at po; exact po
  | bad => rw [e] at po; exact po⟩
theorem tS_one {st : Stmt} {a : MS} (h1 : PS X st (tS P E a)) : PSs X [st] (tS P E a) := pss_one h1
theorem tS_pass : PS X (.Pass pos) (tS P E sSkip) := ⟨fun pins s σ H D I q => by
  obtain ⟨ρ, W0, W, σ', hp, rs, rh, po⟩ := q
  exact ps_pass.run pins s σ H D I (po ρ W H σ ExtS.refl rs rh)⟩
def sCont : MS := fun σ h => .ct σ h
theorem tS_cont : PS X (.Continue pos) (tS P E sCont) := ⟨fun pins s σ H D I q => by
  obtain ⟨ρ, W0, W, σ', hp, rs, rh, po⟩ := q
  exact ps_continue.run pins s σ H D I (po ρ W H σ ExtS.refl rs rh)⟩
def sExpr (m : ME) : MS := fun σ h => (m σ h).bindS fun _ h1 => .nx σ h1
theorem tS_expr {e : Expr} {m : ME} (he : PE X e (tM P E m)) (hs : swapsWith e none pos.line X.env = pure false) : PS X (.Expr e pos) (tS P E (sExpr m)) := ⟨fun pins s σ H D I q => by
  obtain ⟨ρ, W0, W, σ', hp, rs, rh, po⟩ := q
  exact (ps_expr he hs).run pins s σ H D I (tM_thenS rs rh po fun ρ1 H1 u v hp1 rs1 rh1 ru1 x1 po1 => po1 ρ1 W H1 σ ExtS.refl rs1 rh1)⟩
def sRet (m : ME) : MS := fun σ h => (m σ h).bindS fun u h1 => .rt u h1
theorem tS_ret {e : Expr} {m : ME} (he : PE X e (tM P E m)) : PS X (.Return (some e) pos) (tS P E (sRet m)) := ⟨fun pins s σ H D I q => by
  obtain ⟨ρ, W0, W, σ', hp, rs, rh, po⟩ := q
  exact (ps_ret he).run pins s σ H D I (tM_thenS rs rh po fun ρ1 H1 u v hp1 rs1 rh1 ru1 x1 po1 => po1 ρ1 W H1 v ExtS.refl rs1.sub rh1 ru1)⟩
def sRetN : MS := fun _ h => .rt .non h
theorem tS_retN : PS X (.Return none pos) (tS P E sRetN) := ⟨fun pins s σ H D I q => by
  obtain ⟨ρ, W0, W, σ', hp, rs, rh, po⟩ := q
  exact ps_retN.run pins s σ H D I (po ρ W H .non ExtS.refl rs.sub rh .non)⟩
def sIf (c : MT) (a b : MS) : MS := fun σ h => (c σ h).bindS fun k h1 => if k = true then a σ h1 else b σ h1
theorem tS_if {c : Expr} {a b : List Stmt} {mc : MT} {ma mb : MS} (hc : PT X c (tMT P E mc)) (ha : PSs X a (tS P E ma)) (hb : PSs X b (tS P E mb)) : PS X (.If c a b pos) (tS P E (sIf mc ma mb)) := ⟨fun pins s σ H D I q => by
  obtain ⟨ρ, W0, W, σ', hp, rs, rh, po⟩ := q
  refine (ps_if hc ha hb).run pins s σ H D I (tMT_thenS rs rh po fun ρ1 H1 b hp1 rs1 rh1 po1 => ?_)
  cases b with
  | true => exact ⟨ρ1, W0, W, σ', hp1, rs1, rh1, po1⟩
  | false => exact ⟨ρ1, W0, W, σ', hp1, rs1, rh1, po1⟩⟩

/-! ### stores to names -/
theorem RSl.setVal {σ' : SS} {σ : St} (rs : RSl P ρ W0 W H σ' σ) {i : Nat} {u : U} {v : V} (ru : RU P ρ W H u v) : RSl P ρ W0 W H (σ'.set i (.val u)) (σ.set i (some v)) := by
  have gs : ∀ (j : Nat) (x : Sl), (σ'.set i (.val u))[j]? = some x → (j = i ∧ x = .val u ∧ i < σ'.length) ∨ (j ≠ i ∧ σ'[j]? = some x) := fun j x h => by
    by_cases hj : j = i
    · subst hj
      by_cases hl : j < σ'.length
      · rw [List.getElem?_set_self hl] at h
        exact .inl ⟨rfl, (Option.some.inj h).symm, hl⟩
      · rw [List.getElem?_eq_none (by simpa using hl)] at h; cases h
    · rw [List.getElem?_set_ne (Ne.symm hj)] at h
      exact .inr ⟨hj, h⟩
  refine ⟨by simpa using rs.len, rs.sub, fun j x h => ?_, fun j o h => ?_, fun j k o o' a h1 h2 h3 h4 => ?_⟩
  · rcases gs j _ h with ⟨rfl, e, hl⟩ | ⟨hj, e⟩
    · cases e
      exact ⟨v, by rw [List.getElem?_set_self (by rw [← rs.len]; exact hl)], ru⟩
    · obtain ⟨w, q1, q2⟩ := rs.val j x e
      exact ⟨w, by rw [List.getElem?_set_ne (Ne.symm hj)]; exact q1, q2⟩
  · rcases gs j _ h with ⟨rfl, e, hl⟩ | ⟨hj, e⟩
    · cases e
    · obtain ⟨a, q1, q2⟩ := rs.own j o e
      exact ⟨a, by rw [List.getElem?_set_ne (Ne.symm hj)]; exact q1, q2⟩
  · rcases gs j _ h1 with ⟨rfl, e, hl⟩ | ⟨hj, e⟩
    · cases e
    · rcases gs k _ h2 with ⟨rfl, e', hl⟩ | ⟨hk, e'⟩
      · cases e'
      · rw [List.getElem?_set_ne (Ne.symm hj)] at h3
        rw [List.getElem?_set_ne (Ne.symm hk)] at h4
        exact rs.one j k o o' a e e' h3 h4
theorem RSl.setValF {σ' : SS} {σ : St} (rs : RSl P ρ W0 W H σ' σ) {i : Nat} {u : U} {v : V} (ru : RU P ρ W H u v) : RSl P ρ W0 W H (setF σ' i (.val u)) (σ.set i (some v)) := by
  rw [setF_eq]
  exact rs.setVal ru
def sSet (i : Nat) (m : ME) : MS := fun σ h => (m σ h).bindS fun u h1 => .nx (setF σ i (.val u)) h1
theorem tS_set {i : Nat} {x : Str} {e : Expr} {m : ME} {pos' : Pos} (hN : X.N.Nodup) (hi : X.N[i]? = some x) (hx : Loc X.env.scope x) (he : PE X e (tM P E m)) (hs : swapsWith e (some (.Name x pos')) pos.line X.env = pure false)
    (hf : X.fn x = true ∨ X.env.scope.names.lookup x = some .local) : PS X (.Assign [.Name x pos'] e pos) (tS P E (sSet i m)) := ⟨fun pins s σ H D I q => by
  obtain ⟨ρ, W0, W, σ', hp, rs, rh, po⟩ := q
  exact (ps_set hN hi hx he hs hf).run pins s σ H D I (tM_thenS rs rh po fun ρ1 H1 u v hp1 rs1 rh1 ru1 x1 po1 => po1 ρ1 W H1 _ ExtS.refl ((setF_eq _ _ _).symm ▸ rs1.setVal ru1) rh1)⟩
/-- name op= e, a value -/
def sAug (i : Nat) (g : G2) (m : ME) : MS := fun σ h => match nthF σ i with
  | some (.val a) => (m σ h).bindS fun b h1 => match g h1 a b with
    | some r => .nx (setF σ i (.val r)) h1
    | none => .bad
  | _ => .bad
theorem tS_aug {i : Nat} {x : Str} {e : Expr} {m : ME} {op : Operator} {g : G2} {pos' : Pos} (hN : X.N.Nodup) (hi : X.N[i]? = some x) (hx : Loc X.env.scope x) (he : PE X e (tM P E m)) (ho : OpM P X (inplaceOp op) g)
    (hf : X.fn x = true ∨ X.env.scope.names.lookup x = some .local) : PS X (.AugAssign (.Name x pos') op e pos) (tS P E (sAug i g m)) := ⟨fun pins s σ H D I q => by
  obtain ⟨ρ, W0, W, σ', hp, rs, rh, po⟩ := q
  refine (ps_aug (ti := rOf P g) hN hi hx he ho.rule hf).run pins s σ H D I ?_
  unfold sAug at po
  split at po
  · rename_i a ha
    rw [nthF_eq] at ha
    obtain ⟨v, h1, h2⟩ := rs.val i a ha
    refine ⟨v, h1, tM_thenS rs rh po fun ρ1 H1 u w hp1 rs1 rh1 ru1 x1 po1 => ?_⟩
    split at po1
    · rename_i r hr
      exact ⟨ρ1, W, hp1, a, u, r, rh1, h2.ext x1, ru1, hr, fun ρ2 H2 z x2 rh2 rz => po1 ρ2 W H2 _ x2.toS ((rs1.ext rh1 x2).setValF rz) rh2⟩
    · exact po1.elim
  · exact po.elim⟩
end
end M7
end

noncomputable section
namespace M7
open PySem L2

section
variable {P : Par} {ρ ρ' ρ'' : List Addr} {W W' W'' : WS} {W0 : FW} {H H' H'' : Hp} {hp : HP} {E : XK} {Q : VK} {X : Cx} {pos : Pos} {D : Ends}

/-! ### new lists -/
def PostC (P : Par) (E : XK) (ρ : List Addr) (W : WS) (H : Hp) (Q : VK) : RA → Prop
  | .ok us hp => ∀ ρ1 H1 vs p, Ext ρ H ρ1 H1 → RH P ρ1 W hp H1 → RUs P ρ1 W H1 us vs → H1 p = none → Q (.ref p) (upd H1 p (.lst vs))
  | .exc x hp => ∀ ρ' H' cls d, Ext ρ H ρ' H' → RH P ρ' W hp H' → RX P ρ' W H' x cls d → E cls d H'
  | .bad => False
/-- the reading of an expression that makes a new list -/
def tMC (P : Par) (E : XK) (m : MA) : TE := fun σ H Q => ∃ ρ W0 W σ' hp, RSl P ρ W0 W H σ' σ ∧ RH P ρ W hp H ∧ PostC P E ρ W H Q (m σ' hp)
def cLst (ma : MA) : MA := fun σ h => match ma σ h with
  | .ok us h1 => if fits us.length = true then .ok us h1 else .bad
  | .exc x h1 => .exc x h1
  | .bad => .bad
theorem tC_lst {es : List Expr} {ma : MA} (h : PA X es (tMA P E ma)) : PE X (.List es pos) (tMC P E (cLst ma)) :=
  ⟨fun pins s σ H Q I q => by
  obtain ⟨ρ, W0, W, σ', hp, rs, rh, po⟩ := q
  refine (pe_lst h).run pins s σ H Q I ⟨ρ, W0, W, σ', hp, rs, rh, ?_⟩
  unfold cLst at po
  cases e : ma σ' hp with
  | bad => rw [e] at po; exact po
  | exc x h1 => rw [e] at po; exact po
  | ok us h1 =>
    rw [e] at po
    dsimp only at po
    intro ρ1 H1 vs x1 rh1 ru1
    split at po
    · rename_i hf
      exact ⟨by rw [← ru1.length]; exact fits_le hf, fun p hn => po ρ1 H1 vs p x1 rh1 ru1 hn⟩
    · exact po.elim⟩
/-- as a value that nobody changes -/
def eFz (m : MA) : ME := fun σ h => (m σ h).bind fun us h1 => .ok (.lst us) h1
theorem tM_fz {e : Expr} {m : MA} (h : PE X e (tMC P E m)) : PE X e (tM P E (eFz m)) :=
  ⟨fun pins s σ H Q I q => by
  obtain ⟨ρ, W0, W, σ', hp, rs, rh, po⟩ := q
  refine h.run pins s σ H Q I ⟨ρ, W0, W, σ', hp, rs, rh, ?_⟩
  unfold eFz at po
  cases e : m σ' hp with
  | bad => rw [e] at po; exact po
  | exc x h1 => rw [e] at po; exact po
  | ok us h1 =>
    rw [e] at po
    exact fun ρ1 H1 vs p x1 rh1 ru1 hn => po ρ1 _ _ (x1.trans (Ext.fresh hn)) (rh1.fresh hn) (RU.newLst rh1 hn ru1)⟩
/-- as an object of the logical heap -/
def eHp (m : MA) : ME := fun σ h => (m σ h).bind fun us h1 => .ok (.ref h1.n) (h1.new (.lst us))
theorem tM_hp {e : Expr} {m : MA} (h : PE X e (tMC P E m)) : PE X e (tM P E (eHp m)) :=
  ⟨fun pins s σ H Q I q => by
  obtain ⟨ρ, W0, W, σ', hp, rs, rh, po⟩ := q
  refine h.run pins s σ H Q I ⟨ρ, W0, W, σ', hp, rs, rh, ?_⟩
  unfold eHp at po
  cases e : m σ' hp with
  | bad => rw [e] at po; exact po
  | exc x h1 => rw [e] at po; exact po
  | ok us h1 =>
    rw [e] at po
    exact fun ρ1 H1 vs p x1 rh1 ru1 hn => po _ _ _ (x1.trans (Ext.newRef hn)) (rh1.newRef hn (.lst upd_same (RUs.ext (Ext.newRef hn) ru1))) (.ref rh1.lastIx)⟩
/-! ### owned by the frame -/
theorem stay_own {p : Addr} {o : HO} (hn : H p = none) : Stay ρ W H ρ (fun a => W a ∨ a = p) (upd H p o) :=
  ⟨fun a u h n w => ⟨by rw [upd_ne (ne_of_none h hn)]; exact h, n, fun z => z.elim w (ne_of_none h hn)⟩, fun _ _ h => h⟩
theorem RH.own1 (rh : RH P ρ W hp H) {p : Addr} {o : HO} (hn : H p = none) : RH P ρ (fun a => W a ∨ a = p) hp (upd H p o) := by
  have st : Stay ρ W H ρ (fun a => W a ∨ a = p) (upd H p o) := stay_own hn
  have x : Ext ρ H ρ (upd H p o) := Ext.fresh hn
  refine ⟨rh.len, rh.nd, fun a ha z => z.elim (rh.own a ha) fun e => rh.notin hn (e ▸ ha), fun a ha => let ⟨o, h⟩ := rh.there a ha; x.there a o h, fun a ha => ?_, fun i u e => ?_⟩
  · rcases ha with ha | rfl
    · obtain ⟨o, h⟩ := rh.wt a ha
      exact x.there a o h
    · exact ⟨_, upd_same⟩
  · obtain ⟨a, h1, r⟩ := rh.obj i u e
    refine ⟨a, h1, ?_⟩
    cases r with
    | lst h r => exact .lst (by rw [upd_ne (ne_of_none h hn)]; exact h) (RUs.stay st r)
    | dK h hk r => exact .dK (by rw [upd_ne (ne_of_none h hn)]; exact h) hk (RUs.stay st r)
    | ins h hn' r => exact .ins (by rw [upd_ne (ne_of_none h hn)]; exact h) hn' (RUs.stay st r)
    | dV h hk hv r => exact .dV (by rw [upd_ne (ne_of_none h hn)]; exact h) hk hv (RUs.stay st r)
    | dN h hx hk nd r => exact .dN (by rw [upd_ne (ne_of_none h hn)]; exact h) hx (Paired.mapP hk fun _ _ z => ⟨z.1, z.2.stay st⟩) nd (RUs.stay st r)
theorem ExtS.own1 {p : Addr} {o : HO} (hn : H p = none) : ExtS ρ W0 W H ρ (fun a => W a ∨ a = p) (upd H p o) :=
  ⟨⟨[], by simp, by simp⟩, fun a u h _ _ => by rw [upd_ne (ne_of_none h hn)]; exact h, fun a u h => ⟨u, by rw [upd_ne (ne_of_none h hn)]; exact h⟩, fun a h => h.imp (fun z => z) fun (e : a = p) => (by rw [e]; exact hn), fun a ob u h => by rw [upd_ne (ne_of_none h hn)]; exact h⟩
theorem RSl.setOwn {σ' : SS} {σ : St} (rs : RSl P ρ W0 W H σ' σ) (rh : RH P ρ W hp H) {i : Nat} {p : Addr} {o : O} {ho : HO} (hn : H p = none) (ro : RO P ρ (fun a => W a ∨ a = p) (upd H p ho) p o) (ni : o.isIns = true → W0.sf = some p := by intro z; cases z) :
    RSl P ρ W0 (fun a => W a ∨ a = p) (upd H p ho) (σ'.set i (.own o)) (σ.set i (some (.ref p))) := by
  have st : Stay ρ W H ρ (fun a => W a ∨ a = p) (upd H p ho) := stay_own hn
  have gs : ∀ (j : Nat) (x : Sl), (σ'.set i (.own o))[j]? = some x → (j = i ∧ x = .own o ∧ i < σ'.length) ∨ (j ≠ i ∧ σ'[j]? = some x) := fun j x h => by
    by_cases hj : j = i
    · subst hj
      by_cases hl : j < σ'.length
      · rw [List.getElem?_set_self hl] at h
        exact .inl ⟨rfl, (Option.some.inj h).symm, hl⟩
      · rw [List.getElem?_eq_none (by simpa using hl)] at h; cases h
    · rw [List.getElem?_set_ne (Ne.symm hj)] at h
      exact .inr ⟨hj, h⟩
  have old : ∀ (j : Nat) (o' : O), σ'[j]? = some (.own o') → ∃ a, σ[j]? = some (some (V.ref a)) ∧ W a ∧ ¬ W0 a ∧ a ≠ p ∧ RO P ρ (fun a => W a ∨ a = p) (upd H p ho) a o' ∧ (o'.isIns = true → W0.sf = some a) := fun j o' e => by
    obtain ⟨a, q1, q2, q3, q4, q5⟩ := rs.own j o' e
    have na : a ≠ p := fun z => rh.notW hn (z ▸ q2)
    refine ⟨a, q1, q2, q3, na, ?_, q5⟩
    cases q4 with
    | lst h r => exact .lst (by rw [upd_ne na]; exact h) (RUs.stay st r)
    | dK h hk r => exact .dK (by rw [upd_ne na]; exact h) hk (RUs.stay st r)
    | ins h hn' r => exact .ins (by rw [upd_ne na]; exact h) hn' (RUs.stay st r)
    | dV h hk hv r => exact .dV (by rw [upd_ne na]; exact h) hk hv (RUs.stay st r)
    | dN h hx hk nd r => exact .dN (by rw [upd_ne na]; exact h) hx (Paired.mapP hk fun _ _ z => ⟨z.1, z.2.stay st⟩) nd (RUs.stay st r)
  refine ⟨by simpa using rs.len, fun a h => .inl (rs.sub a h), fun j x h => ?_, fun j o' h => ?_, fun j k o1 o2 a h1 h2 h3 h4 => ?_⟩
  · rcases gs j _ h with ⟨rfl, e, hl⟩ | ⟨hj, e⟩
    · cases e
    · obtain ⟨w, q1, q2⟩ := rs.val j x e
      exact ⟨w, by rw [List.getElem?_set_ne (Ne.symm hj)]; exact q1, q2.stay st⟩
  · rcases gs j _ h with ⟨rfl, e, hl⟩ | ⟨hj, e⟩
    · cases e
      exact ⟨p, by rw [List.getElem?_set_self (by rw [← rs.len]; exact hl)], .inr rfl, fun z => rh.notW hn (rs.sub p z), ro, ni⟩
    · obtain ⟨a, q1, q2, q3, _, q4, q5⟩ := old j o' e
      exact ⟨a, by rw [List.getElem?_set_ne (Ne.symm hj)]; exact q1, .inl q2, q3, q4, q5⟩
  · rcases gs j _ h1 with ⟨rfl, e, hl⟩ | ⟨hj, e⟩
    · rcases gs k _ h2 with ⟨rfl, e', hl'⟩ | ⟨hk, e'⟩
      · rfl
      · obtain ⟨b, q1, _, _, q3, _, _⟩ := old k o2 e'
        rw [List.getElem?_set_self (by rw [← rs.len]; exact hl)] at h3
        rw [List.getElem?_set_ne (Ne.symm hk), q1] at h4
        cases h3
        cases h4
        exact absurd rfl q3
    · obtain ⟨b, q1, _, _, q3, _, _⟩ := old j o1 e
      rw [List.getElem?_set_ne (Ne.symm hj), q1] at h3
      cases h3
      rcases gs k _ h2 with ⟨rfl, e', hl'⟩ | ⟨hk, e'⟩
      · rw [List.getElem?_set_self (by rw [← rs.len]; exact hl')] at h4
        cases h4
        exact absurd rfl q3
      · rw [List.getElem?_set_ne (Ne.symm hk)] at h4
        exact rs.one j k o1 o2 _ e e' q1 h4
def sOwn (i : Nat) (m : MA) : MS := fun σ h => (m σ h).bindS fun us h1 => .nx (σ.set i (.own (.lst us))) h1
theorem tS_own {i : Nat} {x : Str} {e : Expr} {m : MA} {pos' : Pos} (hN : X.N.Nodup) (hi : X.N[i]? = some x) (hx : Loc X.env.scope x) (he : PE X e (tMC P E m)) (hs : swapsWith e (some (.Name x pos')) pos.line X.env = pure false)
    (hf : X.fn x = true ∨ X.env.scope.names.lookup x = some .local) : PS X (.Assign [.Name x pos'] e pos) (tS P E (sOwn i m)) := ⟨fun pins s σ H D I q => by
  obtain ⟨ρ, W0, W, σ', hp, rs, rh, po⟩ := q
  refine (ps_set hN hi hx he hs hf).run pins s σ H D I ⟨ρ, W0, W, σ', hp, rs, rh, ?_⟩
  unfold sOwn at po
  cases e : m σ' hp with
  | bad => rw [e] at po; exact po
  | exc x h1 => rw [e] at po; exact fun ρ1 H1 c d x1 rh1 rx => po ρ1 W H1 c d x1.toS rs.sub rh1 rx
  | ok us h1 =>
    rw [e] at po
    intro ρ1 H1 vs p x1 rh1 ru1 hn
    exact po ρ1 _ _ _ (x1.toS.trans (ExtS.own1 hn)) ((rs.ext rh x1).setOwn rh1 hn (.lst upd_same (RUs.stay (stay_own hn) ru1))) (rh1.own1 hn)⟩
/-- from here on nobody changes what stands in slot i -/
def sFreeze (i : Nat) : MS := fun σ h => match σ[i]? with
  | some (.own (.lst us)) => .nx (σ.set i (.val (.lst us))) h
  | _ => .bad
/-- frozen things stay where fewer addresses are owned -/
theorem stay_less {a : Addr} : Stay ρ W H ρ (fun b => W b ∧ b ≠ a) H := ⟨fun b u h n w => ⟨h, n, fun z => w z.1⟩, fun _ _ h => h⟩
theorem RO.stayAt {a : Addr} {o : O} (st : Stay ρ W H ρ' W' H') (h : ∀ u, H a = some u → H' a = some u) (r : RO P ρ W H a o) : RO P ρ' W' H' a o := by
  cases r with
  | lst h1 r => exact .lst (h _ h1) (RUs.stay st r)
  | dK h1 hk r => exact .dK (h _ h1) hk (RUs.stay st r)
  | ins h1 hn r => exact .ins (h _ h1) hn (RUs.stay st r)
  | dV h1 hk hv r => exact .dV (h _ h1) hk hv (RUs.stay st r)
  | dN h1 hx hk nd r => exact .dN (h _ h1) hx (Paired.mapP hk fun _ _ z => ⟨z.1, z.2.stay st⟩) nd (RUs.stay st r)
theorem RH.less (rh : RH P ρ W hp H) {a : Addr} : RH P ρ (fun b => W b ∧ b ≠ a) hp H :=
  ⟨rh.len, rh.nd, fun b hb z => rh.own b hb z.1, rh.there, fun b hb => rh.wt b hb.1, fun i o e => let ⟨b, h1, r⟩ := rh.obj i o e; ⟨b, h1, r.stayAt stay_less fun _ h => h⟩⟩
theorem tS_freeze {sts : List Stmt} {i : Nat} {m : MS} (h : PSs X sts (tS P E m)) : PSs X sts (tS P E (sSeq (sFreeze i) m)) := ⟨fun pins s σ H D I q => by
  obtain ⟨ρ, W0, W, σ', hp, rs, rh, po⟩ := q
  unfold sSeq sFreeze at po
  cases ei : σ'[i]? with
  | none => rw [ei] at po; exact (show False from po).elim
  | some x =>
    rw [ei] at po
    cases x with
    | no => exact (show False from po).elim
    | val u => exact (show False from po).elim
    | own o =>
      cases o with
      | dK ks us => exact (show False from po).elim
      | ins C ns us => exact (show False from po).elim
      | dN ks us => exact (show False from po).elim
      | lst us =>
        obtain ⟨a, q1, q2, q3, q4, q5⟩ := rs.own i _ ei
        have hl : i < σ'.length := (List.getElem?_eq_some_iff.mp ei).1
        cases q4 with
        | @lst _ vs h1 r =>
          refine h.run pins s σ H D I ⟨ρ, W0, fun b => W b ∧ b ≠ a, σ'.set i (.val (.lst us)), hp, ?_, rh.less, PostS.from ⟨⟨[], by simp, by simp⟩, fun b u h _ _ => h, fun b u h => ⟨u, h⟩, fun b h => .inl h.1, fun _ _ _ h => h⟩ (show PostS P E ρ W0 W H D (m _ hp) from po)⟩
          have gs : ∀ (j : Nat) (x : Sl), (σ'.set i (.val (.lst us)))[j]? = some x → (j = i ∧ x = .val (.lst us)) ∨ (j ≠ i ∧ σ'[j]? = some x) := fun j x h => by
            by_cases hj : j = i
            · subst hj
              rw [List.getElem?_set_self hl] at h
              exact .inl ⟨rfl, (Option.some.inj h).symm⟩
            · rw [List.getElem?_set_ne (Ne.symm hj)] at h
              exact .inr ⟨hj, h⟩
          refine ⟨by simpa using rs.len, fun b hb => ⟨rs.sub b hb, fun z => q3 (z ▸ hb)⟩, fun j u e => ?_, fun j o e => ?_, fun j k o o' b e1 e2 => ?_⟩
          · rcases gs j _ e with ⟨rfl, ee⟩ | ⟨_, ee⟩
            · cases ee
              exact ⟨_, q1, .lst ⟨h1, fun z => rh.own a z q2, fun z => z.2 rfl⟩ (RUs.stay stay_less r)⟩
            · obtain ⟨w, z1, z2⟩ := rs.val j u ee
              exact ⟨w, z1, z2.stay stay_less⟩
          · rcases gs j _ e with ⟨rfl, ee⟩ | ⟨hj, ee⟩
            · cases ee
            · obtain ⟨b, z1, z2, z3, z4, z5⟩ := rs.own j o ee
              refine ⟨b, z1, ⟨z2, fun hb => hj ?_⟩, z3, z4.stayAt stay_less fun _ h => h, z5⟩
              rw [hb] at z1
              exact rs.one j i o _ a ee ei z1 q1
          · rcases gs j _ e1 with ⟨rfl, e⟩ | ⟨_, e⟩
            · cases e
            · rcases gs k _ e2 with ⟨rfl, e'⟩ | ⟨_, e'⟩
              · cases e'
              · exact rs.one j k o o' b e e'⟩

/-! ### an owned object changes -/
theorem stay_at {a : Addr} {o : HO} (hw : a ∈ ρ ∨ W a) : Stay ρ W H ρ W (upd H a o) := ⟨fun b u h n w => ⟨by
    have ne : b ≠ a := fun z => by
      rw [z] at n w
      exact hw.elim n w
    rw [upd_ne ne]; exact h, n, w⟩, fun _ _ h => h⟩
theorem ExtS.ownSet {a : Addr} {o u : HO} (h : H a = some u) (hw : W a) (h0 : ¬ W0 a) (nf : ∀ ob v, u ≠ .frz ob v := by intro _ _ z; cases z) : ExtS ρ W0 W H ρ W (upd H a o) :=
  ⟨⟨[], by simp, by simp⟩, fun b v e _ w => by
    have ne : b ≠ a := fun z => by
      rw [z] at w
      exact w.elim (fun q => q hw) h0
    rw [upd_ne ne]; exact e, fun b v e => by
    by_cases z : b = a
    · subst z; exact ⟨o, upd_same⟩
    · exact ⟨v, by rw [upd_ne z]; exact e⟩, fun b h => .inl h, fun b ob v e => by
    have ne : b ≠ a := fun z => by
      rw [z, h] at e
      exact nf ob v (Option.some.inj e)
    rw [upd_ne ne]; exact e⟩
theorem RH.ownSet (rh : RH P ρ W hp H) {a : Addr} {o u : HO} (h : H a = some u) (hw : W a) : RH P ρ W hp (upd H a o) := by
  have th : ∀ b, (∃ v, H b = some v) → ∃ v, (upd H a o) b = some v := fun b ⟨v, e⟩ => by
    by_cases z : b = a
    · subst z; exact ⟨o, upd_same⟩
    · exact ⟨v, by rw [upd_ne z]; exact e⟩
  refine ⟨rh.len, rh.nd, rh.own, fun b hb => th b (rh.there b hb), fun b hb => th b (rh.wt b hb), fun i x e => ?_⟩
  obtain ⟨b, h1, r⟩ := rh.obj i x e
  exact ⟨b, h1, r.stayAt (stay_at (.inr hw)) fun v e => by
    have ne : b ≠ a := fun z => rh.own b (List.mem_of_getElem? h1) (by rw [z]; exact hw)
    rw [upd_ne ne]; exact e⟩
theorem RSl.ownSet {σ' : SS} {σ : St} (rs : RSl P ρ W0 W H σ' σ) {i : Nat} {a : Addr} {o o' : O} {ho : HO} (ei : σ'[i]? = some (.own o)) (ea : σ[i]? = some (some (.ref a))) (ro : RO P ρ W (upd H a ho) a o') (ni : o'.isIns = true → o.isIns = true := by intro z; cases z) :
    RSl P ρ W0 W (upd H a ho) (σ'.set i (.own o')) σ := by
  have hl : i < σ'.length := (List.getElem?_eq_some_iff.mp ei).1
  obtain ⟨a', q1, q2, q3, _, q5⟩ := rs.own i _ ei
  rw [ea] at q1
  cases q1
  have st : Stay ρ W H ρ W (upd H a ho) := stay_at (.inr q2)
  have gs : ∀ (j : Nat) (x : Sl), (σ'.set i (.own o'))[j]? = some x → (j = i ∧ x = .own o') ∨ (j ≠ i ∧ σ'[j]? = some x) := fun j x h => by
    by_cases hj : j = i
    · subst hj
      rw [List.getElem?_set_self hl] at h
      exact .inl ⟨rfl, (Option.some.inj h).symm⟩
    · rw [List.getElem?_set_ne (Ne.symm hj)] at h
      exact .inr ⟨hj, h⟩
  refine ⟨by simpa using rs.len, rs.sub, fun j u e => ?_, fun j x e => ?_, fun j k x y b e1 e2 h1 h2 => ?_⟩
  · rcases gs j _ e with ⟨rfl, ee⟩ | ⟨_, ee⟩
    · cases ee
    · obtain ⟨w, z1, z2⟩ := rs.val j u ee
      exact ⟨w, z1, z2.stay st⟩
  · rcases gs j _ e with ⟨rfl, ee⟩ | ⟨hj, ee⟩
    · cases ee
      exact ⟨a, ea, q2, q3, ro, fun z => q5 (ni z)⟩
    · obtain ⟨b, z1, z2, z3, z4, z5⟩ := rs.own j x ee
      refine ⟨b, z1, z2, z3, z4.stayAt st fun v e' => ?_, z5⟩
      rw [upd_ne fun z => hj ?_]
      · exact e'
      · rw [z] at z1
        exact rs.one j i x _ a ee ei z1 ea
  · rcases gs j _ e1 with ⟨rfl, e⟩ | ⟨hj, e⟩
    · rcases gs k _ e2 with ⟨rfl, e'⟩ | ⟨hk, e'⟩
      · rfl
      · exact rs.one j k _ y b ei e' h1 h2
    · rcases gs k _ e2 with ⟨rfl, e'⟩ | ⟨hk, e'⟩
      · exact rs.one j k x _ b e ei h1 h2
      · exact rs.one j k x y b e e' h1 h2
/-- x.append(e), x owned -/
def sAppend (i : Nat) (m : ME) : MS := fun σ h => match σ[i]? with
  | some (.own (.lst us)) => (m σ h).bindS fun u h1 => if Nat.blt us.length 16777216 = true then .nx (σ.set i (.own (.lst (us ++ [u])))) h1 else .bad
  | _ => .bad
theorem ownLst {σ' : SS} {σ : St} (rs : RSl P ρ W0 W H σ' σ) {i : Nat} {us : List U} (e : σ'[i]? = some (.own (.lst us))) : ∃ a vs, σ[i]? = some (some (V.ref a)) ∧ W a ∧ ¬ W0 a ∧ H a = some (.lst vs) ∧ RUs P ρ W H us vs := by
  obtain ⟨a, q1, q2, q3, q4, _⟩ := rs.own i _ e
  cases q4 with
  | lst h r => exact ⟨a, _, q1, q2, q3, h, r⟩
theorem tS_append {i : Nat} {o e : Expr} {apos cpos : Pos} {m : ME} (ho : PE X o (tVar i)) (he : PE X e (tM P E m)) (hst : starEach [e] X.env = (false, eval e X.env) :: starEach [] X.env)
    (hbase : attributeBase o "append" X.env (eval o X.env) = eval o X.env)
    (hfew : ((backTo cpos (starEach [e] X.env)).all (fun x => !x.1) && (backToKw cpos (keywordEach [] X.env)).all (fun x => x.1.isSome)
      && decide ([e].length + ([] : List Keyword).length + (if ([] : List Keyword).isEmpty then 0 else 1) < 30)) = true)
    (hline : (apos.endLine == cpos.line) = true) (hs : swapsWith (.Call (.Attribute o "append" apos) [e] [] cpos) none pos.line X.env = pure false) :
    PS X (.Expr (.Call (.Attribute o "append" apos) [e] [] cpos) pos) (tS P E (sAppend i m)) := ⟨fun pins s σ H D I q => by
  obtain ⟨ρ, W0, W, σ', hp, rs, rh, po⟩ := q
  refine (ps_expr (pe_bm PySem.F.plainAttrs_list PySem.F.slot_list_append PySem.F.type_list_append mt_append ho (pa_cons he pa_nil hst) hbase hfew hline hst (by rfl)) hs).run pins s σ H D I ?_
  unfold sAppend at po
  split at po
  · rename_i us ei
    obtain ⟨a, vs, q1, q2, q3, q4, q5⟩ := ownLst rs ei
    refine ⟨_, q1, .inl ⟨rfl, vs, SqL.of q4⟩, tM_thenS rs rh po fun ρ1 H1 u v hp1 rs1 rh1 ru1 x1 po1 => ?_⟩
    split at po1
    · rename_i hf
      obtain ⟨a', vs', z1, z2, z3, z4, z5⟩ := ownLst rs1 ei
      rw [q1] at z1
      cases z1
      have hl := z5.length
      refine ⟨a, vs', v, rfl, rfl, z4, by rw [← hl, sizeLine_eq]; exact Nat.le_of_ble_eq_true hf, ?_⟩
      exact po1 ρ1 W _ σ (ExtS.ownSet z4 z2 z3) (rs1.ownSet ei q1 (.lst upd_same (RUs.stay (stay_at (.inr z2)) (z5.append (.cons ru1 .nil))))) (rh1.ownSet z4 z2)
    · exact po1.elim
  · exact po.elim⟩
/-- x.extend(e), x owned, e makes a new list -/
def sExtend (i : Nat) (m : ME) : MS := fun σ h => match σ[i]? with
  | some (.own (.lst us)) => (m σ h).bindS fun u h1 => match asLstT h1 u with
    | some ws => if fits (us.length + ws.length) = true then .nx (σ.set i (.own (.lst (us ++ ws)))) h1 else .bad
    | none => .bad
  | _ => .bad
theorem tS_extend {i : Nat} {o e : Expr} {apos cpos : Pos} {m : ME} (ho : PE X o (tVar i)) (he : PE X e (tM P E m)) (hst : starEach [e] X.env = (false, eval e X.env) :: starEach [] X.env)
    (hbase : attributeBase o "extend" X.env (eval o X.env) = eval o X.env)
    (hfew : ((backTo cpos (starEach [e] X.env)).all (fun x => !x.1) && (backToKw cpos (keywordEach [] X.env)).all (fun x => x.1.isSome)
      && decide ([e].length + ([] : List Keyword).length + (if ([] : List Keyword).isEmpty then 0 else 1) < 30)) = true)
    (hline : (apos.endLine == cpos.line) = true) (hs : swapsWith (.Call (.Attribute o "extend" apos) [e] [] cpos) none pos.line X.env = pure false) :
    PS X (.Expr (.Call (.Attribute o "extend" apos) [e] [] cpos) pos) (tS P E (sExtend i m)) := ⟨fun pins s σ H D I q => by
  obtain ⟨ρ, W0, W, σ', hp, rs, rh, po⟩ := q
  refine (ps_expr (pe_bm PySem.F.plainAttrs_list PySem.F.slot_list_extend PySem.F.type_list_extend mt_extend ho (pa_cons he pa_nil hst) hbase hfew hline hst (by rfl)) hs).run pins s σ H D I ?_
  unfold sExtend at po
  split at po
  · rename_i us ei
    obtain ⟨a, vs, q1, q2, q3, q4, q5⟩ := ownLst rs ei
    refine ⟨_, q1, .inl ⟨rfl, vs, SqL.of q4⟩, tM_thenS rs rh po fun ρ1 H1 u v hp1 rs1 rh1 ru1 x1 po1 => ?_⟩
    split at po1
    · rename_i ws ew
      split at po1
      · rename_i hf
        obtain ⟨a', vs', z1, z2, z3, z4, z5⟩ := ownLst rs1 ei
        rw [q1] at z1
        cases z1
        obtain ⟨b, ys, rfl, y1, y2⟩ := asLstT_ok rh1 ru1 ew
        refine ⟨a, b, vs', ys, rfl, rfl, z4, y1, by rw [← z5.length, ← y2.length]; exact fits_le hf, ?_⟩
        exact po1 ρ1 W _ σ (ExtS.ownSet z4 z2 z3) (rs1.ownSet ei q1 (.lst upd_same (RUs.stay (stay_at (.inr z2)) (z5.append y2)))) (rh1.ownSet z4 z2)
      · exact po1.elim
    · exact po1.elim
  · exact po.elim⟩
end
end M7
end

noncomputable section
namespace M7
open PySem PySem.Spec PyProof.Rows L2

section
variable {P : Par} {ρ ρ' ρ'' : List Addr} {W W' W'' : WS} {W0 : FW} {H H' H'' : Hp} {hp : HP} {E : XK} {Q : VK} {X : Cx} {pos : Pos} {D : Ends}

/-! ### a def as a function on data -/
abbrev FM := List U → HP → R
def startU (n : Nat) (us : List U) : SS := us.map .val ++ List.replicate (n - us.length) .no
/-- the body run: N slots, k parameters -/
def runF (n k : Nat) (body : MS) : FM := fun us h => match Nat.beq us.length k with
  | true => match body (startU n us) h with
    | .nx _ h1 => .ok .non h1
    | .rt u h1 => .ok u h1
    | .exc x h1 => .exc x h1
    | _ => .bad
  | false => .bad
/-- what a def promises: what f says -/
def spM (P : Par) (k : Nat) (f : FM) : Sp := fun vs H Q E => vs.length = k ∧ ∃ ρ W us hp, RUs P ρ W H us vs ∧ RH P ρ W hp H ∧ PostE P E ρ W H Q (f us hp)
theorem RU.weak (h : ∀ a, W a → W' a) {u : U} {v : V} (r : RU P ρ W' H u v) : RU P ρ W H u v := r.stay ⟨fun a o e n w => ⟨e, n, fun z => w (h a z)⟩, fun _ _ e => e⟩
theorem RH.weak (h : ∀ a, W a → W' a) (rh : RH P ρ W' hp H) : RH P ρ W hp H :=
  ⟨rh.len, rh.nd, fun b hb z => rh.own b hb (h b z), rh.there, fun b hb => rh.wt b (h b hb), fun i o e => let ⟨b, h1, r⟩ := rh.obj i o e; ⟨b, h1, r.stayAt ⟨fun a o e n w => ⟨e, n, fun z => w (h a z)⟩, fun _ _ e => e⟩ fun _ h => h⟩⟩
theorem RX.weak (h : ∀ a, W a → W' a) {x : Ex} {cls : Value} {d : Option Addr} (r : RX P ρ W' H x cls d) : RX P ρ W H x cls d := by
  obtain ⟨h1, h2⟩ := r
  refine ⟨h1, ?_⟩
  split
  · trivial
  · rename_i u eu
    rw [eu] at h2
    obtain ⟨a, fs, v, q1, q2, q3, q4, q5, q6⟩ := h2
    exact ⟨a, fs, v, q1, q2, q3, q4, fun z => q5 (h a z), q6.weak h⟩
  · rename_i n1 n2
    split at h2
    · rename_i e; exact n1 e
    · rename_i u e; exact n2 u e
    · exact h2
theorem ExtS.toE (x : ExtS ρ ⟨W, W0.sf⟩ W H ρ' W' H') : Ext ρ H ρ' H' := ⟨x.pre, fun a o h n => x.keep a o h n (by by_cases z : W a; exact .inr z; exact .inl z), x.there, x.frz⟩
theorem ExtS.toE' {sf : Option Addr} (x : ExtS ρ ⟨W, sf⟩ W H ρ' W' H') : Ext ρ H ρ' H' := ⟨x.pre, fun a o h n => x.keep a o h n (by by_cases z : W a; exact .inr z; exact .inl z), x.there, x.frz⟩
theorem start_ok {us : List U} {vs : List V} (r : RUs P ρ W H us vs) (N : List Str) : RSl P ρ ⟨W, none⟩ W H (startU N.length us) (L2.start N vs) := by
  have hl := r.length
  have key : ∀ (i : Nat) (x : Sl), (startU N.length us)[i]? = some x → (∃ u, us[i]? = some u ∧ x = .val u) ∨ x = .no := fun i x h => by
    unfold startU at h
    by_cases hi : i < (us.map Sl.val).length
    · rw [List.getElem?_append_left hi, List.getElem?_map] at h
      cases e : us[i]? with
      | none => rw [e] at h; cases h
      | some u => rw [e] at h; exact .inl ⟨u, rfl, (Option.some.inj h).symm⟩
    · rw [List.getElem?_append_right (by omega), List.getElem?_replicate] at h
      split at h
      · exact .inr (Option.some.inj h).symm
      · cases h
  refine ⟨?_, fun _ h => h, fun i u h => ?_, fun i o h => ?_, fun i j o o' a h1 _ _ _ => ?_⟩
  · unfold startU L2.start
    rw [List.length_append, List.length_append, List.length_map, List.length_map, List.length_replicate, List.length_replicate, hl]
  · rcases key i _ h with ⟨u', e, z⟩ | z
    · cases z
      clear h key
      unfold L2.start
      induction r generalizing i with
      | nil => simp at e
      | @cons a b l1 l2 ra t ih =>
        cases i with
        | zero =>
          simp at e
          subst e
          exact ⟨b, by simp, ra⟩
        | succ i =>
          have hi : i < l2.length := by
            have e' : l1[i]? = some u := by simpa using e
            have := (List.getElem?_eq_some_iff.mp e').1
            rw [← t.length]; exact this
          obtain ⟨v, e1, e2⟩ := ih t.length i (by simpa using e)
          refine ⟨v, ?_, e2⟩
          rw [List.getElem?_append_left (by simpa using hi)] at e1
          rw [List.getElem?_append_left (by simpa using hi)]
          simpa using e1
    · cases z
  · rcases key i _ h with ⟨u', e, z⟩ | z <;> cases z
  · rcases key i _ h1 with ⟨u', e, z⟩ | z <;> cases z
/-- THE RULE for a def: its body's reading is a run -/
theorem fnM {P' : Program} {w : World} {K : PySem.W.Frag} {mg : Str → Option Value} {base : Heap} {x qual : Str} {st : Stmt} {f : Addr} {fd : FuncData} {N ps : List Str} {k : Nat} {body : MS} (F : Fun K x qual st f fd) (S : FnScope N ps (defScope st))
    (hb : ∀ (cdv : Value) (A : Around) (outer : List Env) (s : Shared) (H : Hp) (E : XK), Room k (A.deeper (envOfC qual (defScope st) s.heap.objs.size f cdv)) →
      PSs (cxOf (L2.CX P' w) P' w K mg base N qual (defScope st) f cdv A outer s H E) (defBody st) (tS P E body)) : FnOk P' w K mg base (L2.CX P' w) (k + 1) f fd ps (spM P ps.length (runF N.length ps.length body)) := by
  refine F.okX S (fun vs H Q E h => h.1) (fun cdv A outer s H vs Q E hr h => ⟨tS P E body, hb cdv A outer s H E hr, ?_⟩)
  obtain ⟨hl, ρ, W, us, hp, ru, rh, po⟩ := h
  refine ⟨ρ, ⟨W, none⟩, W, startU N.length us, hp, start_ok ru N, rh, ?_⟩
  unfold runF at po
  split at po
  · cases e : body (startU N.length us) hp with
    | nx σ1 h1 =>
      rw [e] at po
      exact fun ρ' W' H' σ x rs rh' => po ρ' H' .non x.toE' (rh'.weak rs.sub) .non
    | rt u h1 =>
      rw [e] at po
      exact fun ρ' W' H' v x w rh' ru' => po ρ' H' v x.toE' (rh'.weak w) (ru'.weak w)
    | exc u h1 =>
      rw [e] at po
      exact fun ρ' W' H' c d x w rh' rx => po ρ' H' c d x.toE' (rh'.weak w) (rx.weak w)
    | ct σ1 h1 => rw [e] at po; exact po.elim
    | bk σ1 h1 => rw [e] at po; exact po.elim
    | bad => rw [e] at po; exact po.elim
  · exact po.elim

/-! ### calls -/
/-- default values, the same everywhere -/
def Defs (P : Par) (dus : List U) (dvs : List V) : Prop := ∀ (ρ : List Addr) (W : WS) (H : Hp), RUs P ρ W H dus dvs
theorem Defs.nil : Defs P [] [] := fun _ _ _ => .nil
def eCall (k : Nat) (f : FM) (dus : List U) (ma : MA) : ME := fun σ h => (ma σ h).bind fun us h1 => match Nat.beq (us ++ dus).length k with
  | true => f (us ++ dus) h1
  | false => .bad
section
variable {CX : CXT} {lv k : Nat} {f C : Addr} {fd : FuncData} {ps : List Str} {fm : FM} {dus : List U} {dvs : List V} {ds : List Value} {x m : Str} {p apos : Pos} {e o : Expr} {es : List Expr} {ma : MA} {mo : ME}
theorem call_read {t : TA} {σ : L2.St} (q : tM P E (eCall k fm dus ma) σ H Q) (hD : Defs P dus dvs) : tCall (spM P k fm) dvs E (tMA P E ma) σ H Q := by
  obtain ⟨ρ, W0, W, σ', hp, rs, rh, po⟩ := q
  refine tMA_then rs rh po fun ρ1 H1 us vs hp1 rs1 rh1 ru1 x1 po1 => ?_
  split at po1
  · rename_i hl
    have r := ru1.append (hD ρ1 W H1)
    exact ⟨by rw [← r.length]; exact Nat.eq_of_beq_eq_true hl, ρ1, W, us ++ dus, hp1, r, rh1, po1⟩
  · exact po1.elim
theorem tM_call (F : FnOk X.prog X.w X.K X.mg X.base CX lv f fd ps (spM P k fm)) (hr : Room lv X.A) (hg : Gl X x) (hm : X.mg x = some (.ref f)) (hk : PySem.W.keepIn X.K (.ref f) = true) (hb : Binds X.K fd ps ds) (hd : Vals dvs ds) (hD : Defs P dus dvs) (hx : Passes CX X E)
    (ha : PA X (e :: es) (tMA P E ma)) (hdb : (x == ("__debug__" : Str)) = false) (he : starEach (e :: es) X.env = (false, eval e X.env) :: starEach es X.env) (hpl : (backTo pos (starEach es X.env)).any (·.1) = false) :
    PE X (.Call (.Name x p) (e :: es) [] pos) (tM P E (eCall k fm dus ma)) :=
  ⟨fun pins s σ H Q I q => (pe_call F hr hg hm hk hb hd hx ha hdb he hpl).run pins s σ H Q I (call_read (t := tMA P E ma) q hD)⟩
theorem tM_call0 (F : FnOk X.prog X.w X.K X.mg X.base CX lv f fd ps (spM P k fm)) (hr : Room lv X.A) (hg : Gl X x) (hm : X.mg x = some (.ref f)) (hk : PySem.W.keepIn X.K (.ref f) = true) (hb : Binds X.K fd ps ds) (hd : Vals dvs ds) (hD : Defs P dus dvs) (hx : Passes CX X E)
    (hdb : (x == ("__debug__" : Str)) = false) : PE X (.Call (.Name x p) [] [] pos) (tM P E (eCall k fm dus aNil)) :=
  ⟨fun pins s σ H Q I q => (pe_call0 F hr hg hm hk hb hd hx hdb).run pins s σ H Q I (by
    obtain ⟨ρ, W0, W, σ', hp, rs, rh, po⟩ := q
    have po1 : PostE P E ρ W H Q (match Nat.beq ([] ++ dus).length k with | true => fm ([] ++ dus) hp | false => .bad) := po
    show spM P k fm ([] ++ dvs) H Q E
    split at po1
    · rename_i hl
      have r : RUs P ρ W H ([] ++ dus) ([] ++ dvs) := hD ρ W H
      exact ⟨by rw [← r.length]; exact Nat.eq_of_beq_eq_true hl, ρ, W, [] ++ dus, hp, r, rh, po1⟩
    · exact po1.elim)⟩
/-- o.m(..), o an instance of class number c -/
def eMCall (c mn k : Nat) (f : FM) (dus : List U) (mo : ME) (ma : MA) : ME := fun σ h => (mo σ h).bind fun u h1 => match asIns h1 u with
  | some (C, ns, us) => match Nat.beq C c with
    | true => match fldU ns us mn with
      | none => (ma σ h1).bind fun ws h2 => match Nat.beq (u :: (ws ++ dus)).length k with
        | true => f (u :: (ws ++ dus)) h2
        | false => .bad
      | some _ => .bad
    | false => .bad
  | none => .bad
theorem meth_read {c mn : Nat} {σ : L2.St} (nmi : ∀ i j, P.nm i = P.nm j → i = j) (hmn : P.nm mn = m) (q : tM P E (eMCall c mn k fm dus mo ma) σ H Q) (hD : Defs P dus dvs) : tMeth (P.cA c) m (spM P k fm) dvs E (tM P E mo) (tMA P E ma) σ H Q := by
  obtain ⟨ρ, W0, W, σ', hp, rs, rh, po⟩ := q
  refine tM_then rs rh po fun ρ1 H1 u v hp1 rs1 rh1 ru1 x1 po1 => ?_
  split at po1
  · rename_i C ns us ei
    split at po1
    · rename_i hc
      have hc := Nat.eq_of_beq_eq_true hc
      subst hc
      split at po1
      · rename_i hn
        obtain ⟨a, dx, fs, rfl, h1, h2, h3⟩ := asIns_ok rh1 ru1 ei
        refine ⟨a, dx, fs, rfl, h1, by rw [← hmn]; exact fldU_no nmi h2 h3 hn, ?_⟩
        refine tMA_then rs1 rh1 po1 fun ρ2 H2 ws vs hp2 rs2 rh2 ru2 x2 po2 => ?_
        split at po2
        · rename_i hl
          have r : RUs P ρ2 W H2 (u :: (ws ++ dus)) (V.ref a :: (vs ++ dvs)) := .cons (ru1.ext x2) (ru2.append (hD ρ2 W H2))
          exact ⟨by rw [← r.length]; exact Nat.eq_of_beq_eq_true hl, ρ2, W, _, hp2, r, rh2, po2⟩
        · exact po2.elim
      · exact po1.elim
    · exact po1.elim
  · exact po1.elim
theorem tM_mcall {c mn : Nat} {pl : Sem Bool} (nmi : ∀ i j, P.nm i = P.nm j → i = j) (hmn : P.nm mn = m) (ho : PE X o (tM P E mo)) (hc : Cls X.K (P.cA c)) (hm : Meth X.K (P.cA c) m f) (F : FnOk X.prog X.w X.K X.mg X.base CX lv f fd ps (spM P k fm)) (hr : Room lv X.A)
    (hb : Binds X.K fd ps ds) (hd : Vals dvs ds) (hD : Defs P dus dvs) (hx : Passes CX X E) (ha : PA X (e :: es) (tMA P E ma)) (hst : starEach (e :: es) X.env = (false, eval e X.env) :: starEach es X.env) (hpl : (backTo pos (starEach es X.env)).any (·.1) = false)
    (ht : eval (.Call (.Attribute o m apos) (e :: es) [] pos) X.env = (do
      let ov ← eval o X.env
      standAt apos.atName
      let (f, first) ← holding [ov] (getMethod ov m pl)
      callWith pos f first (backTo pos (starEach (e :: es) X.env)) (backToKw pos (keywordEach [] X.env)))) :
    PE X (.Call (.Attribute o m apos) (e :: es) [] pos) (tM P E (eMCall c mn k fm dus mo ma)) :=
  ⟨fun pins s σ H Q I q => (pe_meth ho hc hm F hr hb hd hx ha hst hpl ht).run pins s σ H Q I (meth_read nmi hmn q hD)⟩
theorem tM_mcall0 {c mn : Nat} {pl : Sem Bool} (nmi : ∀ i j, P.nm i = P.nm j → i = j) (hmn : P.nm mn = m) (ho : PE X o (tM P E mo)) (hc : Cls X.K (P.cA c)) (hm : Meth X.K (P.cA c) m f) (F : FnOk X.prog X.w X.K X.mg X.base CX lv f fd ps (spM P k fm)) (hr : Room lv X.A)
    (hb : Binds X.K fd ps ds) (hd : Vals dvs ds) (hD : Defs P dus dvs) (hx : Passes CX X E)
    (ht : eval (.Call (.Attribute o m apos) [] [] pos) X.env = (do
      let ov ← eval o X.env
      standAt apos.atName
      let (f, first) ← holding [ov] (getMethod ov m pl)
      callWith pos f first (backTo pos (starEach [] X.env)) (backToKw pos (keywordEach [] X.env)))) :
    PE X (.Call (.Attribute o m apos) [] [] pos) (tM P E (eMCall c mn k fm dus mo aNil)) :=
  ⟨fun pins s σ H Q I q => (pe_meth0 ho hc hm F hr hb hd hx ht).run pins s σ H Q I (by
    obtain ⟨ρ, W0, W, σ', hp, rs, rh, po⟩ := q
    refine tM_then rs rh po fun ρ1 H1 u v hp1 rs1 rh1 ru1 x1 po1 => ?_
    split at po1
    · rename_i C ns us ei
      split at po1
      · rename_i hc
        have hc := Nat.eq_of_beq_eq_true hc
        subst hc
        split at po1
        · rename_i hn
          obtain ⟨a, dx, fs, rfl, h1, h2, h3⟩ := asIns_ok rh1 ru1 ei
          refine ⟨a, dx, fs, rfl, h1, by rw [← hmn]; exact fldU_no nmi h2 h3 hn, ?_⟩
          have po2 : PostE P E ρ1 W H1 Q (match Nat.beq (u :: ([] ++ dus)).length k with | true => fm (u :: ([] ++ dus)) hp1 | false => .bad) := po1
          show spM P k fm (V.ref a :: ([] ++ dvs)) H1 Q E
          split at po2
          · rename_i hl
            have r : RUs P ρ1 W H1 (u :: ([] ++ dus)) (V.ref a :: ([] ++ dvs)) := .cons ru1 (hD ρ1 W H1)
            exact ⟨by rw [← r.length]; exact Nat.eq_of_beq_eq_true hl, ρ1, W, _, hp1, r, rh1, po2⟩
          · exact po2.elim
        · exact po1.elim
      · exact po1.elim
    · exact po1.elim)⟩
end
end
end M7
end

noncomputable section
namespace M7
open PySem PySem.Spec PyProof.Rows L2

section
variable {P : Par} {ρ ρ' ρ'' : List Addr} {W W' W'' : WS} {W0 : FW} {H H' H'' : Hp} {hp : HP} {E : XK} {Q : VK} {X : Cx} {pos : Pos} {D : Ends}

/-! ### attributes are stored -/
def putU : List Nat → List U → Nat → U → List Nat × List U
  | n :: ns, u :: us, f, w => match Nat.beq n f with
    | true => (n :: ns, w :: us)
    | false => (n :: (putU ns us f w).1, u :: (putU ns us f w).2)
  | _, _, f, w => ([f], [w])
theorem putU_ok (nmi : ∀ i j, P.nm i = P.nm j → i = j) {f : Nat} {u : U} {v : V} (ru : RU P ρ W H u v) : ∀ {ns : List Nat} {us : List U} {fs : List (Str × V)}, fs.map (·.1) = ns.map P.nm → RUs P ρ W H us (fs.map (·.2)) →
    (putF (P.nm f) v fs).map (·.1) = (putU ns us f u).1.map P.nm ∧ RUs P ρ W H (putU ns us f u).2 ((putF (P.nm f) v fs).map (·.2))
  | [], us, fs, h, r => by
    cases fs with
    | cons a b => cases h
    | nil =>
      cases us with
      | nil => exact ⟨rfl, .cons ru .nil⟩
      | cons a b => cases r
  | n :: ns, [], fs, h, r => by
    cases fs with
    | nil => cases h
    | cons a b => cases r
  | n :: ns, u' :: us, [], h, r => by cases h
  | n :: ns, u' :: us, (g, w) :: fs, h, r => by
    rw [List.map_cons, List.map_cons] at h
    injection h with h1 h2
    have h1 : g = P.nm n := h1
    cases r with
    | cons r t =>
      unfold putU putF
      cases q : Nat.beq n f with
      | true =>
        have := Nat.eq_of_beq_eq_true q
        subst this
        rw [if_pos h1]
        refine ⟨?_, .cons ru t⟩
        show g :: fs.map (·.1) = P.nm n :: ns.map P.nm
        rw [h1, h2]
      | false =>
        have hne : ¬ g = P.nm f := fun z => Nat.ne_of_beq_eq_false q (nmi _ _ (h1.symm.trans z))
        rw [if_neg hne]
        obtain ⟨a1, a2⟩ := putU_ok nmi ru h2 t
        refine ⟨?_, .cons r a2⟩
        show g :: (putF (P.nm f) v fs).map (·.1) = P.nm n :: (putU ns us f u).1.map P.nm
        rw [h1, a1]
theorem len_fs {ns : List Nat} {fs : List (Str × V)} (h : fs.map (·.1) = ns.map P.nm) : fs.length = ns.length := by
  have := congrArg List.length h
  simpa using this

/-- an instance that this frame fills -/
theorem ownIns {σ' : SS} {σ : L2.St} (rs : RSl P ρ W0 W H σ' σ) {i : Nat} {C : Nat} {ns : List Nat} {us : List U} (e : σ'[i]? = some (.own (.ins C ns us))) :
    ∃ a dx fs, σ[i]? = some (some (V.ref a)) ∧ W a ∧ ¬ W0 a ∧ H a = some (.ins (P.cA C) dx fs) ∧ fs.map (·.1) = ns.map P.nm ∧ RUs P ρ W H us (fs.map (·.2)) ∧ W0.sf = some a := by
  obtain ⟨a, q1, q2, q3, q4, q5⟩ := rs.own i _ e
  cases q4 with
  | ins h hn r => exact ⟨a, _, _, q1, q2, q3, h, hn, r, q5 rfl⟩
def eOwnFld (i f : Nat) (Cs : List Nat) : ME := fun σ h => match nthF σ i with
  | some (.own (.ins C ns us)) => match memN C Cs with
    | true => match fldU ns us f with
      | some r => .ok r h
      | none => .bad
    | false => .bad
  | _ => .bad
theorem tM_ownFld {e : Expr} {i f : Nat} {x : Str} {Cs : List Nat} (nmi : ∀ i j, P.nm i = P.nm j → i = j) (hK : X.K = P.K) (hF : FldF P f Cs) (hx : P.nm f = x) (he : PE X e (tVar i)) (hb : attributeBase e x X.env (eval e X.env) = eval e X.env) :
    PE X (.Attribute e x pos) (tM P E (eOwnFld i f Cs)) :=
  ⟨fun pins s σ H Q I q => by
  obtain ⟨ρ, W0, W, σ', hp, rs, rh, po⟩ := q
  refine (pe_fld he hb).run pins s σ H Q I ?_
  unfold eOwnFld at po
  split at po
  · rename_i C ns us ei
    rw [nthF_eq] at ei
    split at po
    · rename_i hm
      split at po
      · rename_i r hr
        obtain ⟨a, dx, fs, q1, q2, q3, h1, h2, h3, _⟩ := ownIns rs ei
        obtain ⟨w, h4, h5⟩ := fldU_ok nmi h2 h3 hr
        obtain ⟨c1, c2⟩ := hF C (memN_mem hm)
        rw [hx] at c2 h4
        exact ⟨_, q1, a, _, dx, fs, w, rfl, h1, by rw [hK]; exact c1, by rw [hK]; exact c2, h4, po.pure rh h5⟩
      · exact po.elim
    · exact po.elim
  · exact po.elim⟩
/-- self.f = e -/
def sOwnFld (i f : Nat) (Cs : List Nat) (m : ME) : MS := fun σ h => (m σ h).bindS fun u h1 => match nthF σ i with
  | some (.own (.ins C ns us)) => match memN C Cs with
    | true => match Nat.blt ns.length 1000 with
      | true => .nx (setF σ i (.own (.ins C (putU ns us f u).1 (putU ns us f u).2))) h1
      | false => .bad
    | false => .bad
  | _ => .bad
theorem tS_ownFld {o e : Expr} {i f : Nat} {x : Str} {Cs : List Nat} {m : ME} {pos' : Pos} (nmi : ∀ i j, P.nm i = P.nm j → i = j) (hK : X.K = P.K) (hF : FldF P f Cs) (hx : P.nm f = x) (ho : PE X o (tVar i)) (he : PE X e (tM P E m))
    (hs : swapsWith e (some (.Attribute o x pos')) pos.line X.env = pure false) : PS X (.Assign [.Attribute o x pos'] e pos) (tS P E (sOwnFld i f Cs m)) := ⟨fun pins s σ H D I q => by
  obtain ⟨ρ, W0, W, σ', hp, rs, rh, po⟩ := q
  refine (ps_fld ho he hs).run pins s σ H D I (tM_thenS rs rh po fun ρ1 H1 u v hp1 rs1 rh1 ru1 x1 po1 => ?_)
  split at po1
  · rename_i C ns us ei
    rw [nthF_eq] at ei
    split at po1
    · rename_i hm
      split at po1
      · rename_i hl
        rw [setF_eq] at po1
        obtain ⟨a, dx, fs, q1, q2, q3, h1, h2, h3, h0⟩ := ownIns rs1 ei
        obtain ⟨c1, c2⟩ := hF C (memN_mem hm)
        obtain ⟨p1, p2⟩ := putU_ok nmi (f := f) ru1 h2 h3
        rw [hx] at c2 p1 p2
        have hl' : fs.length < 1000 := by rw [len_fs h2]; exact Nat.le_of_ble_eq_true hl
        refine ⟨_, q1, a, _, dx, fs, rfl, h1, by rw [hK]; exact c1, by rw [hK]; exact c2, hl', ?_⟩
        exact po1 ρ1 W _ σ (ExtS.ownSet h1 q2 q3) (rs1.ownSet ei q1 (.ins upd_same p1 (RUs.stay (stay_at (.inr q2)) p2)) fun _ => rfl) (rh1.ownSet h1 q2)
      · exact po1.elim
    · exact po1.elim
  · exact po1.elim⟩
/-! ### objects of the logical heap change -/
theorem Ext.refSet {a : Addr} {o u : HO} (h : H a = some u) (ha : a ∈ ρ) (nf : ∀ ob v, u ≠ .frz ob v := by intro _ _ z; cases z) : Ext ρ H ρ (upd H a o) :=
  ⟨⟨[], by simp, by simp⟩, fun b v e n => by
    have ne : b ≠ a := fun z => n (z ▸ ha)
    rw [upd_ne ne]; exact e, fun b v e => by
    by_cases z : b = a
    · subst z; exact ⟨o, upd_same⟩
    · exact ⟨v, by rw [upd_ne z]; exact e⟩, fun b ob v e => by
    have ne : b ≠ a := fun z => by
      rw [z, h] at e
      exact nf ob v (Option.some.inj e)
    rw [upd_ne ne]; exact e⟩
theorem RH.refSet (rh : RH P ρ W hp H) {n : Nat} {a : Addr} {o u : HO} {x : O} (hn : ρ[n]? = some a) (h : H a = some u) (ro : RO P ρ W (upd H a o) a x) : RH P ρ W (hp.set n x) (upd H a o) := by
  have ha := List.mem_of_getElem? hn
  have th : ∀ b, (∃ v, H b = some v) → ∃ v, (upd H a o) b = some v := fun b ⟨v, e⟩ => by
    by_cases z : b = a
    · subst z; exact ⟨o, upd_same⟩
    · exact ⟨v, by rw [upd_ne z]; exact e⟩
  refine ⟨rh.len, rh.nd, rh.own, fun b hb => th b (rh.there b hb), fun b hb => th b (rh.wt b hb), fun i y e => ?_⟩
  have e' : (if i = n then some x else hp.m i) = some y := (ifEq_eq _ _ _ _).symm.trans e
  split at e'
  · rename_i hi
    subst hi
    cases e'
    exact ⟨a, hn, ro⟩
  · rename_i hi
    obtain ⟨b, h1, r⟩ := rh.obj i y e'
    refine ⟨b, h1, r.stayAt (stay_at (.inl ha)) fun v e => ?_⟩
    have ne : b ≠ a := fun z => hi (by
      rw [z] at h1
      exact (List.getElem?_inj (List.getElem?_eq_some_iff.mp h1).1 rh.nd).mp (h1.trans hn.symm))
    rw [upd_ne ne]; exact e
theorem RSl.refSet {σ' : SS} {σ : L2.St} (rs : RSl P ρ W0 W H σ' σ) (rh : RH P ρ W hp H) {a : Addr} {o : HO} (ha : a ∈ ρ) (h : ∃ u, H a = some u ∧ ∀ ob v, u ≠ .frz ob v) : RSl P ρ W0 W (upd H a o) σ' σ := by
  obtain ⟨u, h, nf⟩ := h
  exact rs.ext rh (Ext.refSet h ha nf)
theorem insRef (rh : RH P ρ W hp H) {n : Nat} {v : V} {C : Nat} {ns : List Nat} {us : List U} (r : RU P ρ W H (.ref n) v) (e : hp.m n = some (.ins C ns us)) :
    ∃ a dx fs, v = .ref a ∧ ρ[n]? = some a ∧ H a = some (.ins (P.cA C) dx fs) ∧ fs.map (·.1) = ns.map P.nm ∧ RUs P ρ W H us (fs.map (·.2)) := by
  cases r with
  | @ref _ a h =>
    obtain ⟨b, hb, ro⟩ := rh.obj _ _ e
    rw [h] at hb
    cases hb
    cases ro with
    | ins hl hn rl => exact ⟨_, _, _, rfl, h, hl, hn, rl⟩
/-- o.f = e, o an instance in the logical heap -/
def sFldH (f : Nat) (Cs : List Nat) (mo m : ME) : MS := fun σ h => (m σ h).bindS fun u h1 => (mo σ h1).bindS fun w h2 => match w with
  | .ref n => match h2.m n with
    | some (.ins C ns us) => match memN C Cs with
      | true => match Nat.blt ns.length 1000 with
        | true => .nx σ (h2.set n (.ins C (putU ns us f u).1 (putU ns us f u).2))
        | false => .bad
      | false => .bad
    | _ => .bad
  | _ => .bad
theorem tS_fldH {o e : Expr} {f : Nat} {x : Str} {Cs : List Nat} {mo m : ME} {pos' : Pos} (nmi : ∀ i j, P.nm i = P.nm j → i = j) (hK : X.K = P.K) (hF : FldF P f Cs) (hx : P.nm f = x) (ho : PE X o (tM P E mo)) (he : PE X e (tM P E m))
    (hs : swapsWith e (some (.Attribute o x pos')) pos.line X.env = pure false) : PS X (.Assign [.Attribute o x pos'] e pos) (tS P E (sFldH f Cs mo m)) := ⟨fun pins s σ H D I q => by
  obtain ⟨ρ, W0, W, σ', hp, rs, rh, po⟩ := q
  refine (ps_fld ho he hs).run pins s σ H D I (tM_thenS rs rh po fun ρ1 H1 u v hp1 rs1 rh1 ru1 x1 po1 => tM_thenS rs1 rh1 po1 fun ρ2 H2 w y hp2 rs2 rh2 ru2 x2 po2 => ?_)
  split at po2
  · rename_i n
    split at po2
    · rename_i C ns us ei
      split at po2
      · rename_i hm
        split at po2
        · rename_i hl
          obtain ⟨a, dx, fs, rfl, hn, h1, h2, h3⟩ := insRef rh2 ru2 ei
          obtain ⟨c1, c2⟩ := hF C (memN_mem hm)
          obtain ⟨p1, p2⟩ := putU_ok nmi (f := f) (ru1.ext x2) h2 h3
          rw [hx] at c2 p1 p2
          have hl' : fs.length < 1000 := by rw [len_fs h2]; exact Nat.le_of_ble_eq_true hl
          refine ⟨a, _, dx, fs, rfl, h1, by rw [hK]; exact c1, by rw [hK]; exact c2, hl', ?_⟩
          have ha := List.mem_of_getElem? hn
          exact po2 ρ2 W _ σ (Ext.refSet h1 ha).toS (rs2.refSet rh2 ha ⟨_, h1, by intro _ _ z; cases z⟩) (rh2.refSet hn h1 (.ins upd_same p1 (RUs.stay (stay_at (.inl ha)) p2)))
        · exact po2.elim
      · exact po2.elim
    · exact po2.elim
  · exact po2.elim⟩

/-! ### making an instance -/
inductive RI where
  | ok (ns : List Nat) (us : List U) (h : HP) | exc (x : Ex) (h : HP) | bad
abbrev FI := List U → HP → RI
def startI (n C : Nat) (us : List U) : SS := .own (.ins C [] []) :: (us.map .val ++ List.replicate (n - (us.length + 1)) .no)
def endI (C : Nat) : RS → RI
  | .nx (.own (.ins C' ns fs) :: _) h => match Nat.beq C' C with
    | true => .ok ns fs h
    | false => .bad
  | .exc x h => .exc x h
  | _ => .bad
/-- an __init__ run: N slots, k parameters but self -/
def initF (n k C : Nat) (body : MS) : FI := fun us h => match Nat.beq us.length k with
  | true => endI C (body (startI n C us) h)
  | false => .bad
def WI (W : WS) (a : Addr) : WS := fun b => W b ∨ b = a
def PostI (P : Par) (E : XK) (C : Nat) (ρ : List Addr) (W : WS) (H : Hp) (a : Addr) (Q : VK) : RI → Prop
  | .ok ns us hp => ∀ ρ' W' H', ExtS ρ ⟨W, some a⟩ (WI W a) H ρ' W' H' → (∀ b, W b → W' b) → W' a → RH P ρ' W' hp H' → RO P ρ' W' H' a (.ins C ns us) → Q .non H'
  | .exc x hp => ∀ ρ' W' H' cls d, ExtS ρ ⟨W, some a⟩ (WI W a) H ρ' W' H' → (∀ b, W b → W' b) → RH P ρ' W' hp H' → RX P ρ' W' H' x cls d → E cls d H'
  | .bad => False
def spI (P : Par) (C k : Nat) (f : FI) : Sp := fun vs H Q E => ∃ a dx vs', vs = .ref a :: vs' ∧ vs'.length = k ∧ H a = some (.ins (P.cA C) dx []) ∧ ∃ ρ W us hp, a ∉ ρ ∧ ¬ W a ∧ RUs P ρ (WI W a) H us vs' ∧ RH P ρ (WI W a) hp H ∧ PostI P E C ρ W H a Q (f us hp)
theorem startI_ok {us : List U} {vs : List V} {C : Nat} {a dx : Addr} (hna : ¬ W a) (ha : H a = some (.ins (P.cA C) dx [])) (r : RUs P ρ (WI W a) H us vs) (N : List Str) : RSl P ρ ⟨W, some a⟩ (WI W a) H (startI N.length C us) (L2.start N (.ref a :: vs)) := by
  have hl := r.length
  have base := start_ok (W := WI W a) r (N.drop 1)
  have tl : L2.start N (.ref a :: vs) = some (.ref a) :: (vs.map some ++ List.replicate (N.length - (vs.length + 1)) none) := by
    unfold L2.start
    rw [List.length_cons, List.map_cons]
    rfl
  have e1 : L2.start (N.drop 1) vs = vs.map some ++ List.replicate (N.length - (vs.length + 1)) none := by
    unfold L2.start
    rw [List.length_drop, show N.length - 1 - vs.length = N.length - (vs.length + 1) by omega]
  have e2 : startU (N.drop 1).length us = us.map .val ++ List.replicate (N.length - (us.length + 1)) .no := by
    unfold startU
    rw [List.length_drop, show N.length - 1 - us.length = N.length - (us.length + 1) by omega]
  rw [tl]
  unfold startI
  rw [← e1, ← e2]
  have nown : ∀ (i : Nat) (o : O), (startU (N.drop 1).length us)[i]? = some (Sl.own o) → False := fun i o h => by
    obtain ⟨b, _, q1, q2, _⟩ := base.own i o h
    exact q2 q1
  refine ⟨by rw [List.length_cons, List.length_cons, base.len], fun b h => .inl h, fun i u h => ?_, fun i o h => ?_, fun i j o o' b h1 h2 h3 h4 => ?_⟩
  · cases i with
    | zero => simp at h
    | succ i => exact base.val i u (by simpa using h)
  · cases i with
    | zero =>
      have h : (Sl.own (.ins C [] [])) = Sl.own o := by simpa using h
      cases h
      exact ⟨a, by simp, .inr rfl, hna, .ins ha rfl .nil, fun _ => rfl⟩
    | succ i => exact (nown i o (by simpa using h)).elim
  · cases i with
    | zero =>
      cases j with
      | zero => rfl
      | succ j => exact (nown j _ (by simpa using h2)).elim
    | succ i => exact (nown i _ (by simpa using h1)).elim
theorem initM {P' : Program} {w : World} {K : PySem.W.Frag} {mg : Str → Option Value} {base : Heap} {x qual : Str} {st : Stmt} {f : Addr} {fd : FuncData} {N ps : List Str} {k C : Nat} {body : MS} (F : Fun K x qual st f fd) (S : FnScope N ps (defScope st))
    (hb : ∀ (cdv : Value) (A : Around) (outer : List Env) (s : Shared) (H : Hp) (E : XK), Room k (A.deeper (envOfC qual (defScope st) s.heap.objs.size f cdv)) →
      PSs (cxOf (L2.CX P' w) P' w K mg base N qual (defScope st) f cdv A outer s H E) (defBody st) (tS P E body)) (hps : ps.length = (ps.length - 1) + 1) : FnOk P' w K mg base (L2.CX P' w) (k + 1) f fd ps (spI P C (ps.length - 1) (initF N.length (ps.length - 1) C body)) := by
  refine F.okX S (fun vs H Q E h => ?_) (fun cdv A outer s H vs Q E hr h => ⟨tS P E body, hb cdv A outer s H E hr, ?_⟩)
  · obtain ⟨a, dx, vs', rfl, h1, _⟩ := h
    rw [List.length_cons, h1]
    exact hps.symm
  obtain ⟨a, dx, vs', rfl, hl, ha, ρ, W, us, hp, np, nw, ru, rh, po⟩ := h
  refine ⟨ρ, ⟨W, some a⟩, WI W a, startI N.length C us, hp, startI_ok nw ha ru N, rh, ?_⟩
  unfold initF at po
  split at po
  · cases e : body (startI N.length C us) hp with
    | nx σ1 h1 =>
      rw [e] at po
      intro ρ' W' H' σ x rs rh'
      unfold endI at po
      split at po
      · rename_i C' ns fs tl h2 e2
        cases e2
        split at po
        · rename_i hc
          have hc := Nat.eq_of_beq_eq_true hc
          subst hc
          obtain ⟨b, q1, q2, q3, q4, q5⟩ := rs.own 0 _ rfl
          have h0 := q5 rfl
          cases h0
          exact po ρ' W' H' x rs.sub q2 rh' q4
        · exact po.elim
      · rename_i e2; cases e2
      · exact po.elim
    | exc u h1 =>
      rw [e] at po
      exact fun ρ' W' H' c d x w rh' rx => po ρ' W' H' c d x w rh' rx
    | ct σ1 h1 => rw [e] at po; exact po.elim
    | bk σ1 h1 => rw [e] at po; exact po.elim
    | bad => rw [e] at po; exact po.elim
    | rt u h1 => rw [e] at po; exact po.elim
  · exact po.elim

/-! ### the class called -/
theorem makes_ext {a dx : Addr} {C : Nat} (hx : H a = none) (hd : H dx = none) (hne : dx ≠ a) : Ext ρ H ρ (upd (upd H dx (.own a)) a (.ins (P.cA C) dx [])) :=
  (Ext.fresh hd).trans (Ext.fresh (by rw [upd_ne hne.symm]; exact hx))
theorem makes_rh {a dx : Addr} {C : Nat} (rh : RH P ρ W hp H) (hx : H a = none) (hd : H dx = none) (hne : dx ≠ a) : RH P ρ (WI W a) hp (upd (upd H dx (.own a)) a (.ins (P.cA C) dx [])) := by
  have h1 : RH P ρ W hp (upd H dx (.own a)) := rh.fresh hd
  exact h1.own1 (by rw [upd_ne hne.symm]; exact hx)
theorem makes_stay {a dx : Addr} {C : Nat} (hx : H a = none) (hd : H dx = none) (hne : dx ≠ a) : Stay ρ W H ρ (WI W a) (upd (upd H dx (.own a)) a (.ins (P.cA C) dx [])) :=
  ⟨fun b o h n w => by
    have n1 := ne_of_none h hx
    have n2 := ne_of_none h hd
    exact ⟨by rw [upd_ne n1, upd_ne n2]; exact h, n, fun z => z.elim w n1⟩, fun _ _ h => h⟩
/-- behind the making -/
theorem made_ext {a dx : Addr} {C : Nat} (hx : H a = none) (hd : H dx = none) (hne : dx ≠ a) (x : ExtS ρ ⟨W, some a⟩ (WI W a) (upd (upd H dx (.own a)) a (.ins (P.cA C) dx [])) ρ' W' H') : Ext ρ H ρ' H' := by
  have x0 : Ext ρ H ρ (upd (upd H dx (.own a)) a (.ins (P.cA C) dx [])) := makes_ext hx hd hne
  obtain ⟨t, e, ht⟩ := x.pre
  refine ⟨⟨t, e, fun b hb => ?_⟩, fun b o h n => ?_, fun b o h => ?_, fun b ob u h => x.frz b ob u (x0.frz b ob u h)⟩
  · cases z : H b with
    | none => rfl
    | some o =>
      obtain ⟨o', q⟩ := x0.there b o z
      rw [ht b hb] at q; cases q
  · refine x.keep b o (x0.keep b o h n) n ?_
    by_cases w : W b
    · exact .inr w
    · exact .inl fun z => z.elim w (ne_of_none h hx)
  · obtain ⟨o', q⟩ := x0.there b o h
    exact x.there b o' q
def RI.obj (C : Nat) : RI → R
  | .ok ns us h => .ok (.obj C ns us) h
  | .exc x h => .exc x h
  | .bad => .bad
def RI.heap (C : Nat) : RI → R
  | .ok ns us h => .ok (.ref h.n) (h.new (.ins C ns us))
  | .exc x h => .exc x h
  | .bad => .bad
theorem post_obj {C k : Nat} {fi : FI} {us : List U} {vs : List V} (hl : us.length = k) (rh : RH P ρ W hp H) (ru : RUs P ρ W H us vs) (po : PostE P E ρ W H Q ((fi us hp).obj C)) :
    ∀ a dx, H a = none → H dx = none → dx ≠ a → spI P C k fi (.ref a :: vs) (upd (upd H dx (.own a)) a (.ins (P.cA C) dx [])) (fun v H2 => v = .non ∧ Q (.ref a) H2) E := fun a dx hx hd hne => by
  refine ⟨a, dx, vs, rfl, by rw [← ru.length]; exact hl, upd_same, ρ, W, us, hp, rh.notin hx, rh.notW hx, RUs.stay (makes_stay hx hd hne) ru, makes_rh rh hx hd hne, ?_⟩
  cases e : fi us hp with
  | bad => rw [e] at po; exact po
  | exc x h1 =>
    rw [e] at po
    exact fun ρ' W' H' c d x1 w rh' rx => po ρ' H' c d (made_ext hx hd hne x1) (rh'.weak w) (rx.weak w)
  | ok ns fs h1 =>
    rw [e] at po
    refine fun ρ' W' H' x1 w wa rh' ro => ⟨rfl, ?_⟩
    have x2 := made_ext hx hd hne x1
    cases ro with
    | ins h hn r =>
      refine po ρ' H' (.ref a) x2 (rh'.weak w) (.obj ⟨h, fun z => rh'.own a z wa, rh.notW hx⟩ hn (RUs.stay ⟨fun b o e n z => ⟨e, n, fun q => z (w b q)⟩, fun _ _ e => e⟩ r))
theorem RH.newAt (rh : RH P ρ W' hp H) (w : ∀ b, W b → W' b) {a : Addr} {u : O} (wa : W' a) (nw : ¬ W a) (ha : ∃ o, H a = some o) (ro : RO P (ρ ++ [a]) W H a u) : RH P (ρ ++ [a]) W (hp.new u) H := by
  have np : a ∉ ρ := fun z => rh.own a z wa
  have st : Stay ρ W' H (ρ ++ [a]) W H := ⟨fun b o e n z => ⟨e, fun q => by
    rcases List.mem_append.mp q with q | q
    · exact n q
    · have : b = a := by simpa using q
      exact z (this ▸ wa), fun q => z (w b q)⟩, fun n b e => by rw [List.getElem?_append_left (List.getElem?_eq_some_iff.mp e).1]; exact e⟩
  refine ⟨?_, ?_, fun b hb => ?_, fun b hb => ?_, fun b hb => rh.wt b (w b hb), fun i u' e => ?_⟩
  · show hp.n + 1 = _
    rw [rh.len, List.length_append]
    rfl
  · rw [List.nodup_append]
    exact ⟨rh.nd, by simp, fun x hx b hb z => np (by have : b = a := by simpa using hb
                                                     rw [← this, ← z]; exact hx)⟩
  · rcases List.mem_append.mp hb with q | q
    · exact fun z => rh.own b q (w b z)
    · have : b = a := by simpa using q
      rw [this]; exact nw
  · rcases List.mem_append.mp hb with q | q
    · exact rh.there b q
    · have : b = a := by simpa using q
      rw [this]; exact ha
  · have e' : (if i = hp.n then some u else hp.m i) = some u' := (ifEq_eq _ _ _ _).symm.trans e
    split at e'
    · rename_i hi
      cases e'
      refine ⟨a, ?_, ro⟩
      rw [hi, rh.len]
      simp
    · obtain ⟨b, h1, r⟩ := rh.obj i u' e'
      exact ⟨b, st.2 _ _ h1, r.stayAt st fun _ h => h⟩
theorem post_heap {C k : Nat} {fi : FI} {us : List U} {vs : List V} (hl : us.length = k) (rh : RH P ρ W hp H) (ru : RUs P ρ W H us vs) (po : PostE P E ρ W H Q ((fi us hp).heap C)) :
    ∀ a dx, H a = none → H dx = none → dx ≠ a → spI P C k fi (.ref a :: vs) (upd (upd H dx (.own a)) a (.ins (P.cA C) dx [])) (fun v H2 => v = .non ∧ Q (.ref a) H2) E := fun a dx hx hd hne => by
  refine ⟨a, dx, vs, rfl, by rw [← ru.length]; exact hl, upd_same, ρ, W, us, hp, rh.notin hx, rh.notW hx, RUs.stay (makes_stay hx hd hne) ru, makes_rh rh hx hd hne, ?_⟩
  cases e : fi us hp with
  | bad => rw [e] at po; exact po
  | exc x h1 =>
    rw [e] at po
    exact fun ρ' W' H' c d x1 w rh' rx => po ρ' H' c d (made_ext hx hd hne x1) (rh'.weak w) (rx.weak w)
  | ok ns fs h1 =>
    rw [e] at po
    refine fun ρ' W' H' x1 w wa rh' ro => ⟨rfl, ?_⟩
    have x2 := made_ext hx hd hne x1
    have np : a ∉ ρ' := fun z => rh'.own a z wa
    have st : Stay ρ' W' H' (ρ' ++ [a]) W H' := ⟨fun b o e n z => ⟨e, fun q => by
      rcases List.mem_append.mp q with q | q
      · exact n q
      · have : b = a := by simpa using q
        exact z (this ▸ wa), fun q => z (w b q)⟩, fun n b e => by rw [List.getElem?_append_left (List.getElem?_eq_some_iff.mp e).1]; exact e⟩
    have x3 : Ext ρ H (ρ' ++ [a]) H' := by
      obtain ⟨t, e, ht⟩ := x2.pre
      refine ⟨⟨t ++ [a], by rw [e, List.append_assoc], fun b hb => ?_⟩, x2.keep, x2.there, x2.frz⟩
      rcases List.mem_append.mp hb with q | q
      · exact ht b q
      · have : b = a := by simpa using q
        rw [this]; exact hx
    have ro' : RO P (ρ' ++ [a]) W H' a (.ins C ns fs) := ro.stayAt st fun _ h => h
    have ha : ∃ o, H' a = some o := by
      cases ro with
      | ins h hn r => exact ⟨_, h⟩
    exact po _ H' (.ref a) x3 (rh'.newAt w wa (rh.notW hx) ha ro') (.ref rh'.lastIx)

section
variable {CX : CXT} {lv k C : Nat} {f : Addr} {fd : FuncData} {ps : List Str} {fi : FI} {dus : List U} {dvs : List V} {ds : List Value} {x : Str} {p apos : Pos} {e : Expr} {es : List Expr} {ma : MA}
/-- a class called: g says whether the instance is a value or an object of the logical heap -/
def eMake (k : Nat) (g : RI → R) (f : FI) (dus : List U) (ma : MA) : ME := fun σ h => (ma σ h).bind fun us h1 => match Nat.beq (us ++ dus).length k with
  | true => g (f (us ++ dus) h1)
  | false => .bad
def IsMk (C : Nat) (g : RI → R) : Prop := g = RI.obj C ∨ g = RI.heap C
theorem post_make {g : RI → R} (hg : IsMk C g) {us : List U} {vs : List V} (hl : us.length = k) (rh : RH P ρ W hp H) (ru : RUs P ρ W H us vs) (po : PostE P E ρ W H Q (g (fi us hp))) :
    ∀ a dx, H a = none → H dx = none → dx ≠ a → spI P C k fi (.ref a :: vs) (upd (upd H dx (.own a)) a (.ins (P.cA C) dx [])) (fun v H2 => v = .non ∧ Q (.ref a) H2) E := by
  rcases hg with rfl | rfl
  · exact post_obj hl rh ru po
  · exact post_heap hl rh ru po
theorem tM_make {g : RI → R} (hig : IsMk C g) (M : Mk X.K (P.cA C) f) (F : FnOk X.prog X.w X.K X.mg X.base CX lv f fd ps (spI P C k fi)) (hr : Room (lv + 1) X.A) (hg : Gl X x) (hm : X.mg x = some (.ref (P.cA C))) (hb : Binds X.K fd ps ds) (hd : Vals dvs ds) (hD : Defs P dus dvs) (hx : Passes CX X E)
    (ha : PA X (e :: es) (tMA P E ma)) (hdb : (x == ("__debug__" : Str)) = false) (he : starEach (e :: es) X.env = (false, eval e X.env) :: starEach es X.env) (hpl : (backTo pos (starEach es X.env)).any (·.1) = false) :
    PE X (.Call (.Name x p) (e :: es) [] pos) (tM P E (eMake k g fi dus ma)) :=
  ⟨fun pins s σ H Q I q => (pe_make M F hr hg hm hb hd hx ha hdb he hpl).run pins s σ H Q I (by
    obtain ⟨ρ, W0, W, σ', hp, rs, rh, po⟩ := q
    refine tMA_then rs rh po fun ρ1 H1 us vs hp1 rs1 rh1 ru1 x1 po1 => ?_
    split at po1
    · rename_i hl
      exact post_make hig (Nat.eq_of_beq_eq_true hl) rh1 (ru1.append (hD ρ1 W H1)) po1
    · exact po1.elim)⟩
theorem tM_make0 {g : RI → R} (hig : IsMk C g) (M : Mk X.K (P.cA C) f) (F : FnOk X.prog X.w X.K X.mg X.base CX lv f fd ps (spI P C k fi)) (hr : Room (lv + 1) X.A) (hg : Gl X x) (hm : X.mg x = some (.ref (P.cA C))) (hb : Binds X.K fd ps ds) (hd : Vals dvs ds) (hD : Defs P dus dvs) (hx : Passes CX X E)
    (hdb : (x == ("__debug__" : Str)) = false) : PE X (.Call (.Name x p) [] [] pos) (tM P E (eMake k g fi dus aNil)) :=
  ⟨fun pins s σ H Q I q => (pe_make0 M F hr hg hm hb hd hx hdb).run pins s σ H Q I (by
    obtain ⟨ρ, W0, W, σ', hp, rs, rh, po⟩ := q
    have po1 : PostE P E ρ W H Q (match Nat.beq ([] ++ dus).length k with | true => g (fi ([] ++ dus) hp) | false => .bad) := po
    split at po1
    · rename_i hl
      exact post_make hig (Nat.eq_of_beq_eq_true hl) rh (hD ρ W H) po1
    · exact po1.elim)⟩
end
end
end M7
end

noncomputable section
namespace M7
open PySem PySem.Spec PyProof.Rows L2

section
variable {P : Par} {ρ ρ' ρ'' : List Addr} {W W' W'' : WS} {W0 : FW} {H H' H'' : Hp} {hp hp' : HP} {E : XK} {Q : VK} {X : Cx} {pos : Pos} {D : Ends}
theorem Stay.refl : Stay ρ W H ρ W H := ⟨fun _ _ h n w => ⟨h, n, w⟩, fun _ _ h => h⟩
theorem Stay.trans (x : Stay ρ W H ρ' W' H') (y : Stay ρ' W' H' ρ'' W'' H'') : Stay ρ W H ρ'' W'' H'' :=
  ⟨fun a o h n w => let ⟨h1, n1, w1⟩ := x.1 a o h n w; y.1 a o h1 n1 w1, fun i a h => y.2 i a (x.2 i a h)⟩
theorem ExtS.stay' (x : ExtS ρ W0 W H ρ' W' H') : Stay ρ W H ρ' W' H' := by
  obtain ⟨t, e, ht⟩ := x.pre
  refine ⟨fun a o h n w => ⟨x.keep a o h n (.inl w), fun z => ?_, fun z => ?_⟩, fun i a h => ?_⟩
  · rw [e] at z
    rcases List.mem_append.mp z with q | q
    · exact n q
    · rw [ht a q] at h; cases h
  · rcases x.wn a z with q | q
    · exact w q
    · rw [q] at h; cases h
  · rw [e, List.getElem?_append_left (List.getElem?_eq_some_iff.mp h).1]
    exact h

/-! ### targets -/
abbrev GT := SS → HP → U → Option SS
/-- only the slots is are stored to -/
def SameBut (is : List Nat) (σ σ2 : L2.St) : Prop := σ2.length = σ.length ∧ ∀ j, j ∉ is → σ2[j]? = σ[j]?
theorem SameBut.refl {is : List Nat} {σ : L2.St} : SameBut is σ σ := ⟨rfl, fun _ _ => rfl⟩
theorem SameBut.trans {a b : List Nat} {σ σ1 σ2 : L2.St} (h : SameBut a σ σ1) (k : SameBut b σ1 σ2) : SameBut (a ++ b) σ σ2 :=
  ⟨k.1.trans h.1, fun j n => (k.2 j fun z => n (List.mem_append_right _ z)).trans (h.2 j fun z => n (List.mem_append_left _ z))⟩
def tG (P : Par) (is : List Nat) (g   : GT) : TG := fun v σ H Q => ∃ ρ W0 W σ' hp u, RSl P ρ W0 W H σ' σ ∧ RH P ρ W hp H ∧ RU P ρ W H u v ∧ ∃ σ2, g σ' hp u = some σ2 ∧ ∀ σ3, RSl P ρ W0 W H σ2 σ3 → SameBut is σ σ3 → Q σ3 H
def tGs (P : Par) (is : List Nat) (g : SS → HP → List U → Option SS) : TGs := fun vs σ H Q => ∃ ρ W0 W σ' hp us, RSl P ρ W0 W H σ' σ ∧ RH P ρ W hp H ∧ RUs P ρ W H us vs ∧ ∃ σ2, g σ' hp us = some σ2 ∧ ∀ σ3, RSl P ρ W0 W H σ2 σ3 → SameBut is σ σ3 → Q σ3 H
def gmName (i : Nat)   : GT := fun σ _ u => some (setF σ i (.val u))
theorem tG_name {i : Nat} {x : Str} (hN : X.N.Nodup) (hi : X.N[i]? = some x) (hx : Loc X.env.scope x) (hf : X.fn x = true ∨ X.env.scope.names.lookup x = some .local) : PG X (.Name x pos) (tG P [i] (gmName i)) := ⟨fun pins s σ H v u Q I r h => by
  obtain ⟨ρ, W0, W, σ', hp, w, rs, rh, ru, σ2, e, k⟩ := h
  refine (pg_name hN hi hx hf).run pins s σ H v u Q I r ?_
  cases e
  refine k _ ((setF_eq _ _ _).symm ▸ rs.setVal ru) ⟨by simp, fun j n => ?_⟩
  rw [List.getElem?_set_ne]
  exact fun z => n (by simp [z])⟩
def gsNil : SS → HP → List U → Option SS := fun σ _ us => match us with
  | [] => some σ
  | _ => none
def gsCons (g   : GT) (k : SS → HP → List U → Option SS) : SS → HP → List U → Option SS := fun σ h us => match us with
  | u :: r => match g σ h u with
    | some σ1 => k σ1 h r
    | none => none
  | [] => none
theorem tGs_nil : PGs X [] (tGs P [] gsNil) := ⟨fun pins s σ H vs us Q I r h => by
  obtain ⟨ρ, W0, W, σ', hp, ws, rs, rh, ru, σ2, e, k⟩ := h
  refine pgs_nil.run pins s σ H vs us Q I r ?_
  cases ru with
  | nil =>
    cases e
    exact ⟨rfl, k _ rs SameBut.refl⟩
  | cons a b => cases e⟩
theorem tGs_cons {e : Expr} {es : List Expr} {is js : List Nat} {g   : GT} {k : SS → HP → List U → Option SS} (h1 : PG X e (tG P is g)) (h2 : PGs X es (tGs P js k)) (hs : (assignEach (e :: es) X.env).map (·.2) = assign e X.env :: (assignEach es X.env).map (·.2)) :
    PGs X (e :: es) (tGs P (is ++ js) (gsCons g k)) := ⟨fun pins s σ H vs us Q I r h => by
  obtain ⟨ρ, W0, W, σ', hp, ws, rs, rh, ru, σ2, eq, kk⟩ := h
  refine (pgs_cons h1 h2 hs).run pins s σ H vs us Q I r ?_
  cases ru with
  | nil => cases eq
  | cons a b =>
    unfold gsCons at eq
    dsimp only at eq
    split at eq
    · rename_i σ1 e1
      exact ⟨_, _, rfl, ρ, W0, W, σ', hp, _, rs, rh, a, σ1, e1, fun σ3 rs3 sb3 => ⟨ρ, W0, W, σ1, hp, _, rs3, rh, b, σ2, eq, fun σ4 rs4 sb4 => kk σ4 rs4 (sb3.trans sb4)⟩⟩
    · cases eq⟩
def gmTup (n : Nat) (k : SS → HP → List U → Option SS)   : GT := fun σ h u => match u with
  | .tup us => match Nat.beq us.length n with
    | true => k σ h us
    | false => none
  | _ => none
theorem tupU {us : List U} {v : V} (hK : X.K = P.K) (r : RU P ρ W H (.tup us) v) : ∃ a vs, v = .ref a ∧ SqT X.K H a vs ∧ RUs P ρ W H us vs := by
  cases r with
  | tup h r =>
    refine ⟨_, _, rfl, ?_, r⟩
    rcases h with h | ⟨o, h⟩ | h
    · exact SqT.of h.1
    · exact .inl (.inr ⟨o, h.1⟩)
    · rw [hK]; exact .inr h
theorem tG_tup {es : List Expr} {is : List Nat} {k : SS → HP → List U → Option SS} {kk n : Nat} (hK : X.K = P.K) (hc : X.calm = true) (h : PGs X es (tGs P is k)) (hn : (assignEach es X.env).length = n) (hst : (assignEach es X.env).findIdx? (·.1) = none) :
    PG X (.Tuple es kk pos) (tG P is (gmTup n k)) := ⟨fun pins s σ H v u Q I r hw => by
  obtain ⟨ρ, W0, W, σ', hp, w, rs, rh, ru, σ2, e, q⟩ := hw
  refine (pg_tup hc h hn hst).run pins s σ H v u Q I r ?_
  unfold gmTup at e
  split at e
  · rename_i us
    split at e
    · rename_i hl
      obtain ⟨a, vs, rfl, h1, h2⟩ := tupU hK ru
      exact ⟨a, vs, rfl, h1, by rw [← h2.length]; exact Nat.eq_of_beq_eq_true hl, ρ, W0, W, σ', hp, us, rs, rh, h2, σ2, e, q⟩
    · cases e
  · cases e⟩

/-! ### what is walked -/
/-- what comes at a turn: bad, the end, an item -/
abbrev Src := HP → Nat → Option (Option U)
inductive RJ where
  | ok (s : Src) (n : Nat) (h : HP) | exc (x : Ex) (h : HP) | bad
abbrev MJ := SS → HP → RJ
/-- locked things stay -/
def FK (H H' : Hp) : Prop := ∀ a ob u, H a = some (.frz ob u) → H' a = some (.frz ob u)
theorem FK.trans (f : FK H H') (g : FK H' H'') : FK H H'' := fun a ob u e => g a ob u (f a ob u e)
def JOk (P : Par) (ρ : List Addr) (W : WS) (H : Hp) (J : It) (s : Src) : Prop := ∀ ρ' W' H' hp' (i : Nat), Stay ρ W H ρ' W' H' → FK H H' → RH P ρ' W' hp' H' →
  (s hp' i = some none → J.stop i H') ∧ ∀ u, s hp' i = some (some u) → J.go i H' ∧ ∀ x H'', J.yld i H' x H'' → Ext ρ' H' ρ' H'' ∧ RH P ρ' W' hp' H'' ∧ RU P ρ' W' H'' u x
theorem JOk.stay {J : It} {s : Src} (h : JOk P ρ W H J s) (x : Stay ρ W H ρ' W' H') (f : FK H H') : JOk P ρ' W' H' J s := fun ρ2 W2 H2 hp2 i y g rh => h ρ2 W2 H2 hp2 i (x.trans y) (f.trans g) rh
def PostJ (P : Par) (E : XK) (ρ : List Addr) (W : WS) (H : Hp) (R' : It → Hp → Prop) : RJ → Prop
  | .ok s _ hp => ∀ ρ' H' J, Ext ρ H ρ' H' → RH P ρ' W hp H' → JOk P ρ' W H' J s → R' J H'
  | .exc x hp => ∀ ρ' H' cls d, Ext ρ H ρ' H' → RH P ρ' W hp H' → RX P ρ' W H' x cls d → E cls d H'
  | .bad => False
def tI (P : Par) (E : XK) (m : MJ) : TI := fun σ H R' => ∃ ρ W0 W σ' hp, RSl P ρ W0 W H σ' σ ∧ RH P ρ W hp H ∧ PostJ P E ρ W H R' (m σ' hp)
def srcL (us : List U) : Src := fun _ i => some (nthF us i)
def srcR (lo : Int) (n : Nat) : Src := fun _ i => if i < n then some (some (.int (lo + i))) else some none
/-- a list of the logical heap as it stands at each turn -/
def srcH (n : Nat) : Src := fun h i => match h.m n with
  | some (.lst us) => some (nthF us i)
  | _ => none
def R.bindJ (r : R) (f : U → HP → RJ) : RJ := R.rec (motive := fun _ => RJ) (fun u h => f u h) (fun x h => .exc x h) .bad r
theorem PostJ.from {R' : It → Hp → Prop} (x : Ext ρ H ρ' H') : ∀ {r : RJ}, PostJ P E ρ W H R' r → PostJ P E ρ' W H' R' r
  | .ok _ _ _, h => fun ρ2 H2 J y rh j => h ρ2 H2 J (x.trans y) rh j
  | .exc _ _, h => fun ρ2 H2 c d y rh rx => h ρ2 H2 c d (x.trans y) rh rx
  | .bad, h => h
theorem tM_thenJ {m : ME} {f : U → HP → RJ} {σ : L2.St} {σ' : SS} {R' : It → Hp → Prop} (rs : RSl P ρ W0 W H σ' σ) (rh : RH P ρ W hp H) (po : PostJ P E ρ W H R' ((m σ' hp).bindJ f)) {R2 : VK}
    (k : ∀ ρ1 H1 u v hp1, RSl P ρ1 W0 W H1 σ' σ → RH P ρ1 W hp1 H1 → RU P ρ1 W H1 u v → Ext ρ H ρ1 H1 → PostJ P E ρ1 W H1 R' (f u hp1) → R2 v H1) : tM P E m σ H R2 := by
  refine ⟨ρ, W0, W, σ', hp, rs, rh, ?_⟩
  cases e : m σ' hp with
  | ok u hp1 =>
    rw [e] at po
    exact fun ρ1 H1 v x rh1 ru => k ρ1 H1 u v hp1 (rs.ext rh x) rh1 ru x (PostJ.from x po)
  | exc x hp1 =>
    rw [e] at po
    exact po
  | bad =>
    rw [e] at po
    exact po
def RA.bindJ (r : RA) (f : List U → HP → RJ) : RJ := RA.rec (motive := fun _ => RJ) (fun u h => f u h) (fun x h => .exc x h) .bad r
theorem tMA_thenJ {m : MA} {f : List U → HP → RJ} {σ : L2.St} {σ' : SS} {R' : It → Hp → Prop} (rs : RSl P ρ W0 W H σ' σ) (rh : RH P ρ W hp H) (po : PostJ P E ρ W H R' ((m σ' hp).bindJ f)) {R2 : List V → Hp → Prop}
    (k : ∀ ρ1 H1 us vs hp1, RSl P ρ1 W0 W H1 σ' σ → RH P ρ1 W hp1 H1 → RUs P ρ1 W H1 us vs → Ext ρ H ρ1 H1 → PostJ P E ρ1 W H1 R' (f us hp1) → R2 vs H1) : tMA P E m σ H R2 := by
  refine ⟨ρ, W0, W, σ', hp, rs, rh, ?_⟩
  cases e : m σ' hp with
  | ok u hp1 =>
    rw [e] at po
    exact fun ρ1 H1 v x rh1 ru => k ρ1 H1 u v hp1 (rs.ext rh x) rh1 ru x (PostJ.from x po)
  | exc x hp1 =>
    rw [e] at po
    exact po
  | bad =>
    rw [e] at po
    exact po
theorem RUs.get : ∀ {us : List U} {vs : List V} {i : Nat} {u : U}, RUs P ρ W H us vs → us[i]? = some u → ∃ v, vs[i]? = some v ∧ RU P ρ W H u v
  | _, _, i, u, .nil, h => by simp at h
  | _, _, 0, u, .cons r t, h => by
    simp at h
    subst h
    exact ⟨_, rfl, r⟩
  | _, _, i + 1, u, .cons r t, h => by
    obtain ⟨v, e, k⟩ := RUs.get t (i := i) (by simpa using h)
    exact ⟨v, by simpa using e, k⟩
/-- a list or a tuple as a thing to walk -/
def srcOf (h : HP) : U → Option (Src × Nat)
  | .lst us => some (srcL us, us.length)
  | .lsx us => some (srcL us, us.length)
  | .ref n => match h.m n with
    | some (.lst us) => some (srcH n, us.length)
    | _ => none
  | _ => none
def jList (m : ME) : MJ := fun σ h => (m σ h).bindJ fun u h1 => match srcOf h1 u with
  | some (s, n) => .ok s n h1
  | none => .bad
theorem listJ_fz {J : It} {us : List U} {vs : List V} (hs : ∀ ρ' W' H', Stay ρ W H ρ' W' H' → (∀ i, vs.length ≤ i → J.stop i H') ∧ ∀ i v, vs[i]? = some v → J.go i H' ∧ ∀ x H'', J.yld i H' x H'' → H'' = H' ∧ x = v) (r : RUs P ρ W H us vs) : JOk P ρ W H J (srcL us) := by
  intro ρ' W' H' hp' i st fk rh'
  obtain ⟨h1, h2⟩ := hs ρ' W' H' st
  have r' := RUs.stay st r
  have hl := r'.length
  refine ⟨fun e => h1 i ?_, fun u e => ?_⟩
  · have e : us[i]? = none := (nthF_eq us i).symm.trans (Option.some.inj e)
    have := List.getElem?_eq_none_iff.mp e
    omega
  · have e : us[i]? = some u := (nthF_eq us i).symm.trans (Option.some.inj e)
    obtain ⟨w, hw, rw'⟩ := RUs.get r' e
    obtain ⟨g, y⟩ := h2 i w hw
    refine ⟨g, fun x H'' z => ?_⟩
    obtain ⟨rfl, rfl⟩ := y x H'' z
    exact ⟨Ext.refl, rh', rw'⟩
theorem itl_at {K : PySem.W.Frag} {a : Addr} {vs : List V} (h : SqL K H a vs) : (∀ i, vs.length ≤ i → (Itl K a).stop i H) ∧ ∀ i v, vs[i]? = some v → (Itl K a).go i H ∧ ∀ x H'', (Itl K a).yld i H x H'' → H'' = H ∧ x = v :=
  ⟨fun i l => ⟨vs, h, l⟩, fun i v e => ⟨⟨vs, v, h, e⟩, fun x H'' y => ⟨y.1, by have := y.2 vs h; rw [e] at this; exact (Option.some.inj this).symm⟩⟩⟩
theorem itt_at {K : PySem.W.Frag} {a : Addr} {vs : List V} (h : SqT K H a vs) : (∀ i, vs.length ≤ i → (Itt K a).stop i H) ∧ ∀ i v, vs[i]? = some v → (Itt K a).go i H ∧ ∀ x H'', (Itt K a).yld i H x H'' → H'' = H ∧ x = v :=
  ⟨fun i l => ⟨vs, h, l⟩, fun i v e => ⟨⟨vs, v, h, e⟩, fun x H'' y => ⟨y.1, by have := y.2 vs h; rw [e] at this; exact (Option.some.inj this).symm⟩⟩⟩
theorem lat_sq (hK : X.K = P.K) {a : Addr} {vs : List V} (h : LAt P ρ W H a vs) : SqL X.K H a vs := by
  rcases h with ⟨o, h⟩ | h
  · exact .inl (.inr ⟨o, h.1⟩)
  · rw [hK]; exact .inr h
theorem tat_sq (hK : X.K = P.K) {a : Addr} {vs : List V} (h : TAt P ρ W H a vs) : SqT X.K H a vs := by
  rcases h with h | ⟨o, h⟩ | h
  · exact SqT.of h.1
  · exact .inl (.inr ⟨o, h.1⟩)
  · rw [hK]; exact .inr h
theorem heapJ {J : It} {n : Nat} {a : Addr} (h : ρ[n]? = some a) (hs : ∀ H' vs, H' a = some (.lst vs) → (∀ i, vs.length ≤ i → J.stop i H') ∧ ∀ i v, vs[i]? = some v → J.go i H' ∧ ∀ x H'', J.yld i H' x H'' → H'' = H' ∧ x = v) : JOk P ρ W H J (srcH n) := by
  intro ρ' W' H' hp' i st fk rh'
  unfold srcH
  simp only [nthF_eq]
  split
  · rename_i us' q'
    obtain ⟨b, hb, ro⟩ := rh'.obj _ _ q'
    rw [st.2 _ _ h] at hb
    cases hb
    cases ro with
    | @lst _ vs' hl' rl' =>
      obtain ⟨h1, h2⟩ := hs H' vs' hl'
      have hlen := rl'.length
      refine ⟨fun e => h1 i ?_, fun u e => ?_⟩
      · have e : us'[i]? = none := Option.some.inj e
        have := List.getElem?_eq_none_iff.mp e
        omega
      · have e : us'[i]? = some u := Option.some.inj e
        obtain ⟨w, hw, rw'⟩ := RUs.get rl' e
        obtain ⟨g, y⟩ := h2 i w hw
        refine ⟨g, fun x H'' z => ?_⟩
        obtain ⟨rfl, rfl⟩ := y x H'' z
        exact ⟨Ext.refl, rh', rw'⟩
  · refine ⟨?_, ?_⟩
    · intro e; cases e
    · intro u e; cases e
theorem listJ (hK : X.K = P.K) (rh : RH P ρ W hp H) {u : U} {v : V} {s : Src} {n : Nat} (r : RU P ρ W H u v) (e : srcOf hp u = some (s, n)) : ∃ a, v = .ref a ∧ (∃ xs, SqL X.K H a xs) ∧ JOk P ρ W H (Itl X.K a) s := by
  cases r with
  | @lst xs a vs h r =>
    cases e
    exact ⟨a, rfl, ⟨vs, SqL.of h.1⟩, listJ_fz (fun ρ' W' H' st => itl_at (SqL.of (st.fz h).1)) r⟩
  | @lsx xs a vs h r =>
    cases e
    exact ⟨a, rfl, ⟨vs, lat_sq hK h⟩, listJ_fz (fun ρ' W' H' st => itl_at (lat_sq hK (st.lat h))) r⟩
  | @ref n a h =>
    have e' : (match hp.m n with
      | some (.lst us) => some (srcH n, us.length)
      | _ => none) = some (s, _) := e
    split at e'
    · rename_i us q
      cases e'
      obtain ⟨b, hb, ro⟩ := rh.obj _ _ q
      rw [h] at hb
      cases hb
      cases ro with
      | @lst _ vs hl rl => exact ⟨a, rfl, ⟨vs, SqL.of hl⟩, heapJ h fun H' vs' h' => itl_at (SqL.of h')⟩
    · cases e'
  | _ => cases e
/-- for .. in a list -/
theorem tI_list {tg e : Expr} {m : ME} (hK : X.K = P.K) (h : PE X e (tM P E m)) : PI X tg e (tI P E (jList m)) := ⟨fun pins s σ H R' I q => by
  obtain ⟨ρ, W0, W, σ', hp, rs, rh, po⟩ := q
  refine (pi_list h).run pins s σ H R' I (tM_thenJ rs rh po fun ρ1 H1 u v hp1 rs1 rh1 ru1 x1 po1 => ?_)
  split at po1
  · rename_i s n es
    obtain ⟨a, rfl, h1, h2⟩ := listJ hK rh1 ru1 es
    exact ⟨a, rfl, h1, po1 ρ1 H1 _ Ext.refl rh1 h2⟩
  · exact po1.elim⟩
/-- for .. in a tuple -/
def jTup (m : ME) : MJ := fun σ h => (m σ h).bindJ fun u h1 => match u with
  | .tup us => .ok (srcL us) us.length h1
  | _ => .bad
theorem tI_tup {tg e : Expr} {m : ME} (hK : X.K = P.K) (h : PE X e (tM P E m)) : PI X tg e (tI P E (jTup m)) := ⟨fun pins s σ H R' I q => by
  obtain ⟨ρ, W0, W, σ', hp, rs, rh, po⟩ := q
  refine (pi_tup h).run pins s σ H R' I (tM_thenJ rs rh po fun ρ1 H1 u v hp1 rs1 rh1 ru1 x1 po1 => ?_)
  split at po1
  · rename_i us
    cases ru1 with
    | tup ht r =>
      exact ⟨_, rfl, ⟨_, tat_sq hK ht⟩, po1 ρ1 H1 _ Ext.refl rh1 (listJ_fz (fun ρ' W' H' st => itt_at (tat_sq hK (st.tat ht))) r)⟩
  · exact po1.elim⟩
/-- for .. in a list or a tuple -/
def jSeq (m : ME) : MJ := fun σ h => (m σ h).bindJ fun u h1 => match u with
  | .tup us => .ok (srcL us) us.length h1
  | u => match srcOf h1 u with
    | some (s, n) => .ok s n h1
    | none => .bad
theorem pi_either {tg e : Expr} {te : TE} (h : PE X e te) : PI X tg e (fun σ H R' => te σ H fun x H1 => (∃ a, x = .ref a ∧ (∃ xs, SqL X.K H1 a xs) ∧ R' (Itl X.K a) H1) ∨ ∃ a, x = .ref a ∧ (∃ xs, SqT X.K H1 a xs) ∧ R' (Itt X.K a) H1) := by
  refine ⟨fun pins s σ H R' I q => ?_⟩
  refine thn (h.run pins s σ H _ I q) fun v s1 ⟨x, H1, I1, r1, q1⟩ => ?_
  rcases q1 with ⟨a, e, ⟨xs, hq⟩, q⟩ | ⟨a, e, ⟨xs, hq⟩, q⟩
  · subst e
    cases r1
    obtain ⟨its, rv, p, hz⟩ := I1.list hq
    refine wpAny_pyIter_list p.isList ?_
    refine ⟨s1.heap.objs.size, [s1.heap.objs.size], _, _, H1, rfl, I1.kept (t' := s1.toks) fun b o e => Heap.get?_push_of_some _ e, turn_list a _, ⟨_, Heap.get?_push_size _ rfl, rfl, rfl⟩, fun b hb => ?_, q⟩
    have e : b = s1.heap.objs.size := by simpa using hb
    subst e
    exact I1.fpOk (Nat.le_refl _) (I1.hok.fresh (Nat.le_refl _))
  · subst e
    cases r1
    obtain ⟨its, rv, p, hz⟩ := I1.tuple hq
    refine wpAny_pyIter_tuple (show s1.heap.IsTuple a its.toArray from p) ?_
    refine ⟨s1.heap.objs.size, [s1.heap.objs.size], _, _, H1, rfl, I1.kept (t' := s1.toks) fun b o e => Heap.get?_push_of_some _ e, turn_tuple a _, ⟨_, Heap.get?_push_size _ rfl, rfl, rfl⟩, fun b hb => ?_, q⟩
    have e : b = s1.heap.objs.size := by simpa using hb
    subst e
    exact I1.fpOk (Nat.le_refl _) (I1.hok.fresh (Nat.le_refl _))
theorem tI_seq {tg e : Expr} {m : ME} (hK : X.K = P.K) (h : PE X e (tM P E m)) : PI X tg e (tI P E (jSeq m)) := ⟨fun pins s σ H R' I q => by
  obtain ⟨ρ, W0, W, σ', hp, rs, rh, po⟩ := q
  refine (pi_either h).run pins s σ H R' I (tM_thenJ rs rh po fun ρ1 H1 u v hp1 rs1 rh1 ru1 x1 po1 => ?_)
  split at po1
  · cases ru1 with
    | tup ht r =>
      exact .inr ⟨_, rfl, ⟨_, tat_sq hK ht⟩, po1 ρ1 H1 _ Ext.refl rh1 (listJ_fz (fun ρ' W' H' st => itt_at (tat_sq hK (st.tat ht))) r)⟩
  · split at po1
    · rename_i s n es
      obtain ⟨a, rfl, h1, h2⟩ := listJ hK rh1 ru1 es
      exact .inl ⟨a, rfl, h1, po1 ρ1 H1 _ Ext.refl rh1 h2⟩
    · exact po1.elim⟩
end
end M7
end

noncomputable section
namespace M7
open PySem PySem.Spec PyProof.Rows L2

/-! ### enumerate over a tuple -/
def Itet (K : PySem.W.Frag) (a : Addr) : It :=
  ⟨fun i H => ∃ (xs : List V) (x : V), SqT K H a xs ∧ xs[i]? = some x, fun i H v H' => ∃ T x, v = .ref T ∧ H T = none ∧ H' = upd H T (.tup [.int (i : Nat), x]) ∧ ∀ xs, SqT K H a xs → xs[i]? = some x, fun i H => ∃ xs : List V, SqT K H a xs ∧ xs.length ≤ i⟩
theorem tup_apart {h : Heap} {a b : Addr} {its : Array Value} {o : Obj} {n : String} (ht : h.IsTuple a its) (e : h.get? b = some o) (hc : o.cls = .type n) (hn : n ≠ "tuple") : a ≠ b := fun z => by
  obtain ⟨o', e', c', _⟩ := ht
  rw [z, e] at e'
  cases e'
  rw [hc] at c'
  cases c'
  exact hn rfl
theorem turn_enumT {P : Program} {w : World} {K : PySem.W.Frag} {elts : List Expr} {kk : Nat} {tpos : Pos} (a e it : Addr) :
    Turn P w K (.Tuple elts kk tpos) (Itet K a) [e, it] e (fun i h => (∃ old, IsEnum h e it ((i : Nat) : Int) old) ∧ h.IsTupleIter it a i ∧ e ≠ it) where
  mem := by simp
  obj := fun i h st b hb => by
    obtain ⟨⟨old, he⟩, ⟨o, ho, hc, hd⟩, _⟩ := st
    have e' : b = e ∨ b = it := by simpa using hb
    rcases e' with z | z
    · rw [z]; exact ⟨_, he, fun v q => nomatch q⟩
    · rw [z]; exact ⟨o, ho, fun v q => by rw [hd] at q; cases q⟩
  keep := fun i h h' st k => let ⟨⟨old, he⟩, hi, hne⟩ := st; ⟨⟨old, k e (by simp) _ he⟩, hi.at fun o q => k it (by simp) o q, hne⟩
  item := by
    intro X hP hw hK hc i pins s σ H E I hf st hg
    subst hP hw hK
    obtain ⟨⟨old, he⟩, hit, hne⟩ := st
    obtain ⟨xs, x, hq, hx⟩ := hg
    obtain ⟨its, rv, p, hz⟩ := I.tuple hq
    have p : s.heap.IsTuple a its.toArray := p
    obtain ⟨u, hu, ru⟩ := rv.get hx
    have hel : e < s.heap.objs.size := Heap.lt_size he
    have hil : it < s.heap.objs.size := by obtain ⟨_, q, _⟩ := hit; exact Heap.lt_size q
    have na : a ≠ it := by
      obtain ⟨o, q, c, _⟩ := hit
      exact tup_apart p q c (by decide)
    have nae : a ≠ e := tup_apart p he rfl (by decide)
    have hlt : i < its.toArray.size := by
      have := (List.getElem?_eq_some_iff.mp hu).1
      simpa using this
    refine wpAny_pyNext_enum_itemD (Draws.tuple (A := X.A.in1) (show X.A.in1.handled = none from I.ok.hd hc) it a na its.toArray) he ⟨hit, p⟩ hlt hne (by simp [hne, Ne.symm nae]) fun x' h' tk hPx ho hst' hT hsz hk => ?_
    have hxu : x' = u := by
      have h1 : its.toArray[i]? = some x' := hPx
      have h2 : its.toArray[i]? = some u := by simpa using hu
      rw [h1] at h2
      exact Option.some.inj h2
    subst hxu
    refine ⟨_, rfl, wpAny_letOwnedTupleGo_enum (s := { s with heap := h', toks := tk + 1 }) ho fun h'' he' sb => ?_⟩
    have hT2 : h''.get? s.heap.objs.size = some { cls := .type "tuple", data := .seq #[.int i tk, x'] } := (sb.2 _ (Nat.ne_of_gt hel)).trans hT
    have new : ObjOk X.prog X.w (upd H s.heap.objs.size (.tup [.int (i : Nat), x])) h'' s.heap.objs.size (.tup [.int (i : Nat), x]) :=
      ⟨by show 2 ≤ sizeLine; decide, [.int i tk, x'], .cons ⟨_, rfl⟩ (.cons ru .nil), ⟨_, hT2, rfl, _, rfl⟩⟩
    have I1 : Inv X pins σ (upd H s.heap.objs.size (.tup [.int (i : Nat), x])) { s with heap := h'', toks := tk + 1 } :=
      I.turnedNew (ch := [e, it]) (fun b ob hb q => (sb.2 b (fun z => hb (by simp [z]))).trans (hk b ob (fun z => hb (by simp [z])) (fun z => hb (by simp [z])) q)) hf (Nat.le_refl _) new
    refine ⟨.ref s.heap.objs.size, _, I1, rfl, ⟨_, x, rfl, I.hok.fresh (Nat.le_refl _), rfl, fun ys hy => by rw [I.tuple_inj hy hq]; exact hx⟩, ⟨⟨x', ?_⟩, hst'.1.at fun o q => (sb.2 it (Ne.symm hne)).trans q, hne⟩, fun b hb => ?_⟩
    · have e1 : ((i + 1 : Nat) : Int) = (i : Int) + 1 := by omega
      rw [e1]; exact he'
    · have hb' : b < s.heap.objs.size := by
        have e' : b = e ∨ b = it := by simpa using hb
        rcases e' with z | z
        · rw [z]; exact hel
        · rw [z]; exact hil
      rw [upd_ne (Nat.ne_of_lt hb')]
      exact (hf b hb).1
  done := by
    intro X hP hw hK hc i pins s σ H E I hf st hg
    subst hP hw hK
    obtain ⟨⟨old, he⟩, hit, hne⟩ := st
    obtain ⟨xs, hq, hx⟩ := hg
    obtain ⟨its, rv, p, hz⟩ := I.tuple hq
    have p : s.heap.IsTuple a its.toArray := p
    obtain ⟨f0, f1, f2, f3, f4, f5⟩ := hf it (by simp)
    have hl := rv.length
    have hT : s.TypeIs (.ref e) "enumerate" := ⟨_, he, rfl⟩
    unfold pyNext
    refine wpAny_bind (wpAny_attempt (wpAny_callSpecial?_slot (name := Str.ofString "__next__") hT F.slot_enumerate_next
      (wpAny_call_entry F.slot_enumerate_next hT F.entry_enumerate_next ?_ (F.args_enumerate_next_1 _))))
    show wpAny _ _ (field (.ref e) 2 >>= _) _ _ _
    refine wpAny_bind (wpAny_field he rfl (x := .ref it) rfl ?_)
    refine wpAny_bind (wpAny_nextOf_tuple_end (I.ok.hd hc) hit p (by simp; omega) fun h' x he' hx' => ?_)
    obtain ⟨o, ho, hcc⟩ := hx'
    refine wpAny_bind (wpAny_isInstance (T := "StopIteration") (b := true) ⟨o, ho, hcc⟩ isSubtype_stop ?_)
    exact wpAny_pure ⟨rfl, I.turned (t' := s.toks) (fun b o hb q => he' b o hb q) f0 f1 f3 f4 f5⟩
  self := fun A i s Q E st h => let ⟨⟨_, he⟩, _⟩ := st; wpAny_pyIter_enum he h

theorem meets_enum1 {v : Value} {o : Obj} {H : Heap → Prop} (B : Begins v o H) :
    Meets (Builtin.«enumerate.__new__» ⟨[.type "enumerate", v], []⟩) (fun _ R s => H s.heap ∧
      R (.ok (.ret (.ref (s.heap.push o).objs.size))) { s with heap := (s.heap.push o).push { cls := .type "enumerate", data := .fields #[.none, .bool false, .ref s.heap.objs.size, rawInt 0, .none, .none] } }) :=
  .of_wp fun prog w A R s h => by
    obtain ⟨hp, g, d, tk, os⟩ := s
    obtain ⟨h1, h⟩ := h
    have hsub := sub_enumerate
    have q1 : ∀ {A' : Around} {E : Value → Shared → Prop} {Q : Value → Shared → Prop}, Q (.ref hp.objs.size) ⟨hp.push o, g, d, tk, os⟩ → wpAny (model prog w) A' (pyIter v) Q E ⟨hp, g, d, tk, os⟩ :=
      fun q => B.iter prog w _ _ ⟨hp, g, d, tk, os⟩ _ h1 q
    wp_walk using q1
    refine wpAny_stack_any fun st => wpAny_pure ?_
    split
    · rename_i c _ _ _ _ _
      cases (c == Value.type "enumerate")
      · wp_walk using q1
        exact ⟨_, rfl, h⟩
      · wp_walk using q1
        exact ⟨_, rfl, h⟩
    · wp_walk using q1
      exact ⟨_, rfl, h⟩
section
variable {prog : Program} {w : World} {A : Around} {E : Value → Shared → Prop} {s : Shared}
theorem call_enumerate_tup {t : Addr} {items : Array Value} {Q : Value → Shared → Prop} (ht : s.heap.IsTuple t items)
    (h : ∀ h', IsEnum h' (s.heap.objs.size + 1) s.heap.objs.size 0 .none → h'.IsTupleIter s.heap.objs.size t 0 → (∀ b o, s.heap.get? b = some o → h'.get? b = some o) → Q (.ref (s.heap.objs.size + 1)) { s with heap := h' }) :
    wpAny (model prog w) A (call (.type "enumerate") [.ref t]) Q E s := by
  refine callType_new F.called_enumerate (by decide) (F.typeCall_enumerate_1 _) (F.newCall_enumerate_1 _) (fun obj => F.args_object_init_2 obj _) F.entry_enumerate_new
    (meets_enum1 (begins_tuple t items)) ⟨ht, ?_⟩
  have hz : (s.heap.push { cls := .type "tuple_iterator", data := .fields #[.ref t, .int 0 0] }).objs.size = s.heap.objs.size + 1 := Heap.size_push ..
  show _ ∧ _
  rw [hz]
  have he : IsEnum ((s.heap.push { cls := .type "tuple_iterator", data := .fields #[.ref t, .int 0 0] }).push
      { cls := .type "enumerate", data := .fields #[.none, .bool false, .ref s.heap.objs.size, rawInt 0, .none, .none] }) (s.heap.objs.size + 1) s.heap.objs.size 0 .none := by
    have := Heap.get?_push_size (s.heap.push { cls := .type "tuple_iterator", data := .fields #[.ref t, .int 0 0] })
      (o := { cls := .type "enumerate", data := .fields #[.none, .bool false, .ref s.heap.objs.size, rawInt 0, .none, .none] }) rfl
    rw [hz] at this; exact this
  exact ⟨⟨_, he, rfl⟩, h _ he ⟨_, Heap.get?_push_of_some _ (Heap.get?_push_size _ rfl), rfl, rfl⟩ fun b o x => Heap.get?_push_of_some _ (Heap.get?_push_of_some _ x)⟩
end
def iEnumE (K : PySem.W.Frag) (ta : TA) : TI := fun σ H R => ta σ H fun vs H1 => (∃ a xs, vs = [.ref a] ∧ SqL K H1 a xs ∧ R (Ite K a) H1) ∨ ∃ a xs, vs = [.ref a] ∧ SqT K H1 a xs ∧ R (Itet K a) H1
theorem pi_enumE {X : Cx} {e : Expr} {ta : TA} {p pos tpos : Pos} {elts : List Expr} {kk : Nat} (hg : Gl X "enumerate") (hm : X.mg "enumerate" = none) (ha : PA X [e] ta) (hs : starEach [e] X.env = [(false, eval e X.env)]) :
    PI X (.Tuple elts kk tpos) (.Call (.Name "enumerate" p) [e] [] pos) (iEnumE X.K ta) := by
  refine ⟨fun pins s σ H R I h => ?_⟩
  refine Call_ (ld_blt I hg hm boot_enumerate (PyProof.Rows.callWith_type1 (thn (ha.run pos pins s σ H _ I h) fun us s1 ⟨vs, H1, I1, r1, q1⟩ => ?_) hs rfl))
  have fp : ∀ b ∈ [s1.heap.objs.size + 1, s1.heap.objs.size], FpOk X pins H1 b := fun b hb => by
    have e' : b = s1.heap.objs.size + 1 ∨ b = s1.heap.objs.size := by simpa using hb
    have hle : s1.heap.objs.size ≤ b := by
      rcases e' with z | z
      · rw [z]; exact Nat.le_add_right _ _
      · rw [z]; exact Nat.le_refl _
    exact I1.fpOk hle (I1.hok.fresh hle)
  rcases q1 with ⟨a, xs, ex, hq, q⟩ | ⟨a, xs, ex, hq, q⟩
  · subst ex
    cases r1 with
    | cons r rr =>
      cases rr
      cases r
      obtain ⟨its, rv, p', hz⟩ := I1.list hq
      refine call_enumerate_list p'.isList fun h' he hit hsz hk => wpAny_pyIter_enum he ?_
      have I2 : Inv X pins σ H1 { s1 with heap := h' } := I1.kept (t' := s1.toks) hk
      exact ⟨s1.heap.objs.size + 1, [s1.heap.objs.size + 1, s1.heap.objs.size], _, _, H1, rfl, I2, turn_enum a (s1.heap.objs.size + 1) s1.heap.objs.size, ⟨⟨.none, he⟩, hit, Nat.succ_ne_self _⟩, fp, q⟩
  · subst ex
    cases r1 with
    | cons r rr =>
      cases rr
      cases r
      obtain ⟨its, rv, p', hz⟩ := I1.tuple hq
      refine call_enumerate_tup (show s1.heap.IsTuple a its.toArray from p') fun h' he hit hk => wpAny_pyIter_enum he ?_
      have I2 : Inv X pins σ H1 { s1 with heap := h' } := I1.kept (t' := s1.toks) hk
      exact ⟨s1.heap.objs.size + 1, [s1.heap.objs.size + 1, s1.heap.objs.size], _, _, H1, rfl, I2, turn_enumT a (s1.heap.objs.size + 1) s1.heap.objs.size, ⟨⟨.none, he⟩, hit, Nat.succ_ne_self _⟩, fp, q⟩

section
variable {P : Par} {ρ ρ' ρ'' : List Addr} {W W' W'' : WS} {W0 : FW} {H H' H'' : Hp} {hp hp' : HP} {E : XK} {Q : VK} {X : Cx} {pos : Pos} {D : Ends}
/-- pairs of the number and the item -/
def pairI (i : Nat) (u : U) : U := .tup [.int (i : Nat), u]
def srcE (s : Src) : Src := fun h i => match s h i with
  | some (some u) => some (some (pairI i u))
  | x => x
theorem JOk.pairs {J J' : It} {s : Src} (h : JOk P ρ W H J s) (hs : ∀ i H', J.stop i H' → J'.stop i H')
    (hg : ∀ i H', J.go i H' → J'.go i H') (hy : ∀ i H' v H'', J.go i H' → J'.yld i H' v H'' → ∃ T x, v = .ref T ∧ H' T = none ∧ H'' = upd H' T (.tup [.int (i : Nat), x]) ∧ J.yld i H' x H') : JOk P ρ W H J' (srcE s) := by
  intro ρ' W' H' hp' i st fk rh'
  obtain ⟨h1, h2⟩ := h ρ' W' H' hp' i st fk rh'
  unfold srcE
  refine ⟨fun e => ?_, fun u e => ?_⟩
  · split at e
    · cases e
    · exact hs i H' (h1 e)
  · split at e
    · rename_i u' e'
      obtain ⟨g, y⟩ := h2 u' e'
      cases e
      refine ⟨hg i H' g, fun v H'' z => ?_⟩
      obtain ⟨T, x, rfl, hn, rfl, hyy⟩ := hy i H' v H'' g z
      obtain ⟨_, _, ru⟩ := y x H' hyy
      exact ⟨Ext.fresh hn, rh'.fresh hn, RU.newTup rh' hn (.cons (.int i) (.cons ru .nil))⟩
    · rename_i hx
      exact (hx u e).elim
def jEnum (m : ME) : MJ := fun σ h => (m σ h).bindJ fun u h1 => match u with
  | .tup us => .ok (srcE (srcL us)) us.length h1
  | u => match srcOf h1 u with
    | some (s, n) => .ok (srcE s) n h1
    | none => .bad
theorem tI_enum {e : Expr} {m : ME} {p tpos : Pos} {elts : List Expr} {kk : Nat} (hK : X.K = P.K) (hg : Gl X "enumerate") (hm : X.mg "enumerate" = none) (h : PE X e (tM P E m)) (hs : starEach [e] X.env = [(false, eval e X.env)]) :
    PI X (.Tuple elts kk tpos) (.Call (.Name "enumerate" p) [e] [] pos) (tI P E (jEnum m)) := ⟨fun pins s σ H R' I q => by
  obtain ⟨ρ, W0, W, σ', hp, rs, rh, po⟩ := q
  refine (pi_enumE hg hm (pa_cons h pa_nil (by rw [hs]; rfl)) hs).run pins s σ H R' I (tM_thenJ rs rh po fun ρ1 H1 u v hp1 rs1 rh1 ru1 x1 po1 => ?_)
  split at po1
  · cases ru1 with
    | @tup us a vs ht r =>
      refine .inr ⟨_, vs, rfl, tat_sq hK ht, po1 ρ1 H1 _ Ext.refl rh1 ((listJ_fz (J := Itt X.K a) (fun ρ' W' H' st => itt_at (tat_sq hK (st.tat ht))) r).pairs (fun i H' h => h) (fun i H' h => h) fun i H' v H'' g z => ?_)⟩
      obtain ⟨T, x, e1, e2, e3, e4⟩ := z
      exact ⟨T, x, e1, e2, e3, rfl, e4⟩
  · split at po1
    · rename_i s n es
      obtain ⟨a, rfl, ⟨vs, h1⟩, h2⟩ := listJ hK rh1 ru1 es
      refine .inl ⟨a, vs, rfl, h1, po1 ρ1 H1 _ Ext.refl rh1 (h2.pairs (fun i H' h => h) (fun i H' h => h) fun i H' v H'' g z => ?_)⟩
      obtain ⟨T, x, e1, e2, e3, e4⟩ := z
      exact ⟨T, x, e1, e2, e3, rfl, e4⟩
    · exact po1.elim⟩
end
end M7
end

noncomputable section
namespace M7
open PySem PySem.Spec PyProof.Rows L2

section
variable {P : Par} {ρ ρ' ρ'' : List Addr} {W W' W'' : WS} {W0 : FW} {H H' H'' : Hp} {hp hp' : HP} {E : XK} {Q : VK} {X : Cx} {pos : Pos} {D : Ends}
/-! ### range, texts, zip -/
def smallI (j : Int) : Bool := decide (-(2 ^ 62) ≤ j) && decide (j < 2 ^ 62)
theorem smallI_ok {j : Int} (h : smallI j = true) : -(2 ^ 62) ≤ j ∧ j < 2 ^ 62 := by
  unfold smallI at h
  simpa using h
theorem JOk.range {lo : Int} {n : Nat} : JOk P ρ W H (Itr lo n) (srcR lo n) := by
  intro ρ' W' H' hp' i st fk rh'
  unfold srcR
  refine ⟨fun e => ?_, fun u e => ?_⟩
  · split at e
    · cases e
    · exact Nat.le_of_not_lt ‹_›
  · split at e
    · rename_i hl
      cases e
      refine ⟨hl, fun x H'' y => ?_⟩
      obtain ⟨rfl, rfl⟩ := y
      exact ⟨Ext.refl, rh', .int _⟩
    · cases e
def jRng1 (m : ME) : MJ := fun σ h => (m σ h).bindJ fun u h1 => match u with
  | .int j => match smallI j with
    | true => .ok (srcR 0 j.toNat) j.toNat h1
    | false => .bad
  | _ => .bad
theorem tI_rng1 {tg a : Expr} {p : Pos} {m : ME} (hg : Gl X "range") (hm : X.mg "range" = none) (h : PE X a (tM P E m)) (hs : starEach [a] X.env = [(false, eval a X.env)]) : PI X tg (.Call (.Name "range" p) [a] [] pos) (tI P E (jRng1 m)) := ⟨fun pins s σ H R' I q => by
  obtain ⟨ρ, W0, W, σ', hp, rs, rh, po⟩ := q
  refine (pi_range1 hg hm (pa_cons h pa_nil (by rw [hs]; rfl)) hs).run pins s σ H R' I (tM_thenJ rs rh po fun ρ1 H1 u v hp1 rs1 rh1 ru1 x1 po1 => ?_)
  split at po1
  · split at po1
    · rename_i hz
      obtain ⟨h1, h2⟩ := smallI_ok hz
      cases ru1
      exact ⟨_, rfl, h1, h2, po1 ρ1 H1 _ Ext.refl rh1 .range⟩
    · exact po1.elim
  · exact po1.elim⟩
def jRng2 (ma : MA) : MJ := fun σ h => (ma σ h).bindJ fun us h1 => match us with
  | [.int i, .int j] => match smallI i && smallI j with
    | true => .ok (srcR i (j - i).toNat) (j - i).toNat h1
    | false => .bad
  | _ => .bad
theorem tI_rng2 {tg a b : Expr} {p : Pos} {ma : MA} (hg : Gl X "range") (hm : X.mg "range" = none) (h : PA X [a, b] (tMA P E ma)) (hs : starEach [a, b] X.env = [(false, eval a X.env), (false, eval b X.env)]) (hs2 : starEach [b] X.env = [(false, eval b X.env)]) :
    PI X tg (.Call (.Name "range" p) [a, b] [] pos) (tI P E (jRng2 ma)) := ⟨fun pins s σ H R' I q => by
  obtain ⟨ρ, W0, W, σ', hp, rs, rh, po⟩ := q
  refine (pi_range2 hg hm h hs hs2).run pins s σ H R' I (tMA_thenJ rs rh po fun ρ1 H1 us vs hp1 rs1 rh1 ru1 x1 po1 => ?_)
  split at po1
  · split at po1
    · rename_i hz
      rw [Bool.and_eq_true] at hz
      obtain ⟨h1, h2⟩ := smallI_ok hz.1
      obtain ⟨h3, h4⟩ := smallI_ok hz.2
      cases ru1 with
      | cons r1 t =>
        cases t with
        | cons r2 t =>
          cases t
          cases r1
          cases r2
          exact ⟨_, _, rfl, ⟨h1, h2, h3, h4⟩, po1 ρ1 H1 _ Ext.refl rh1 .range⟩
    · exact po1.elim
  · exact po1.elim⟩
def srcS (x : List Nat) : Src := fun _ i => match nthF x i with
  | some c => some (some (.str [c]))
  | none => some none
def jStr (m : ME) : MJ := fun σ h => (m σ h).bindJ fun u h1 => match u with
  | .str x => .ok (srcS x) x.length h1
  | _ => .bad
theorem tI_str {tg e : Expr} {m : ME} (h : PE X e (tM P E m)) : PI X tg e (tI P E (jStr m)) := ⟨fun pins s σ H R' I q => by
  obtain ⟨ρ, W0, W, σ', hp, rs, rh, po⟩ := q
  refine (pi_str h).run pins s σ H R' I (tM_thenJ rs rh po fun ρ1 H1 u v hp1 rs1 rh1 ru1 x1 po1 => ?_)
  split at po1
  · rename_i x
    cases ru1
    refine ⟨_, rfl, po1 ρ1 H1 _ Ext.refl rh1 ?_⟩
    intro ρ' W' H' hp' i st fk rh'
    unfold srcS
    rw [nthF_eq]
    refine ⟨fun e => ?_, fun u e => ?_⟩
    · split at e
      · cases e
      · rename_i hn
        have := List.getElem?_eq_none_iff.mp hn
        show (⟨x.toArray⟩ : Str).cps.size ≤ i
        simpa using this
    · split at e
      · rename_i c hc
        cases e
        have hl := (List.getElem?_eq_some_iff.mp hc).1
        refine ⟨by show i < (⟨x.toArray⟩ : Str).cps.size; simpa using hl, fun v H'' y => ?_⟩
        obtain ⟨rfl, c', hc', rfl⟩ := y
        have hc' : x.toArray[i]? = some c' := hc'
        rw [List.getElem?_toArray, hc] at hc'
        cases hc'
        exact ⟨Ext.refl, rh', .str [c]⟩
      · cases e
  · exact po1.elim⟩
/-- two at once, as far as both go -/
def srcZ (s t : Src) : Src := fun h i => match s h i, t h i with
  | some (some u), some (some w) => some (some (.tup [u, w]))
  | some none, some _ => some none
  | some _, some none => some none
  | _, _ => none

/-! ### for -/
def forR (g : GT) (b : MS) (s : Src) (n : Nat) : Nat → SS → HP → RS := Nat.rec (motive := fun _ => Nat → SS → HP → RS)
  (fun i σ h => Option.rec .bad (fun q => Option.rec (.nx σ h) (fun _ => .bad) q) (s h i))
  (fun _ ih i σ h => Option.rec .bad (fun q => Option.rec (.nx σ h) (fun u => Option.rec .bad (fun σ1 => RS.rec (fun σ2 h2 => ih (i + 1) σ2 h2) (fun u h2 => .rt u h2) (fun σ2 h2 => ih (i + 1) σ2 h2) (fun σ2 h2 => .nx σ2 h2) (fun x h2 => .exc x h2) .bad (b σ1 h)) (g σ h u)) q) (s h i)) n
theorem forR_eq (g : GT) (b : MS) (s : Src) (n i : Nat) (σ : SS) (h : HP) : forR g b s n i σ h = (match s h i with
    | some none => .nx σ h
    | some (some u) => match n with
      | 0 => .bad
      | n + 1 => match g σ h u with
        | some σ1 => match b σ1 h with
          | .nx σ2 h2 => forR g b s n (i + 1) σ2 h2
          | .ct σ2 h2 => forR g b s n (i + 1) σ2 h2
          | .bk σ2 h2 => .nx σ2 h2
          | r => r
        | none => .bad
    | none => .bad) := by
  cases n with
  | zero =>
    show Option.rec (motive := fun _ => RS) _ _ (s h i) = _
    cases s h i with
    | none => rfl
    | some q => cases q <;> rfl
  | succ n =>
    show Option.rec (motive := fun _ => RS) _ _ (s h i) = _
    cases s h i with
    | none => rfl
    | some q =>
      cases q with
      | none => rfl
      | some u =>
        dsimp only
        show Option.rec (motive := fun _ => RS) _ _ (g σ h u) = _
        cases g σ h u with
        | none => rfl
        | some σ1 =>
          dsimp only
          cases b σ1 h <;> rfl
def sFor (j : MJ) (g : GT) (b : MS) : MS := fun σ h => match j σ h with
  | .ok s n h1 => forR g b s n 0 σ h1
  | .exc x h1 => .exc x h1
  | .bad => .bad
theorem tS_for {tg iter : Expr} {body : List Stmt} {j : MJ} {is : List Nat} {g : GT} {b : MS} (hp : PassesOwn (model X.prog X.w) X.A X.env X.xe) (hc : X.calm = true) (hi : PI X tg iter (tI P E j)) (hg : PG X tg (tG P is g)) (hb : PSs X body (tS P E b)) (hs : ∀ x, foldedSetIterable iter X.env x = pure x) :
    PS X (.For tg iter body [] pos) (tS P E (sFor j g b)) := ⟨fun pins s σ H D I q => by
  obtain ⟨ρ, W0, W, σ', hp, rs, rh, po⟩ := q
  refine (ps_for ‹_› hc hi hg hb hs).run pins s σ H D I ⟨ρ, W0, W, σ', hp, rs, rh, ?_⟩
  unfold sFor at po
  cases ej : j σ' hp with
  | bad => rw [ej] at po; exact po
  | exc x h1 => rw [ej] at po; exact fun ρ1 H1 c d x1 rh1 rx => po ρ1 W H1 c d x1.toS rs.sub rh1 rx
  | ok src n h1 =>
    rw [ej] at po
    dsimp only at po
    intro ρ1 H1 J x1 rh1 jok
    refine ⟨fun i m σ H => ∃ ρ2 W2 σ2' hp2, RSl P ρ2 W0 W2 H σ2' σ ∧ RH P ρ2 W2 hp2 H ∧ Stay ρ1 W H1 ρ2 W2 H ∧ FK H1 H ∧ PostS P E ρ2 W0 W2 H D (forR g b src m i σ2' hp2), ⟨n, ρ1, W, σ', h1, rs.ext rh x1, rh1, Stay.refl, fun _ _ _ h => h, PostS.from x1.toS po⟩, ?_⟩
    rintro i m σ2 H2 ⟨ρ2, W2, σ2', hp2, rs2, rh2, st2, fk2, po2⟩
    obtain ⟨j1, j2⟩ := jok ρ2 W2 H2 hp2 i st2 fk2 rh2
    rw [forR_eq] at po2
    split at po2
    · rename_i es
      exact .inl ⟨j1 es, po2 ρ2 W2 H2 σ2 ExtS.refl rs2 rh2⟩
    · rename_i u es
      obtain ⟨go, y⟩ := j2 u es
      split at po2
      · exact po2.elim
      · rename_i m'
        split at po2
        · rename_i σ3' eg
          refine .inr ⟨go, fun σ' H' => ∃ m'', m'' < m' + 1 ∧ ∃ ρ2 W2 σ2' hp2, RSl P ρ2 W0 W2 H' σ2' σ' ∧ RH P ρ2 W2 hp2 H' ∧ Stay ρ1 W H1 ρ2 W2 H' ∧ FK H1 H' ∧ PostS P E ρ2 W0 W2 H' D (forR g b src m'' (i + 1) σ2' hp2), fun σ' H' h => h, fun x H3 yy => ?_⟩
          obtain ⟨x3, rh3, ru3⟩ := y x H3 yy
          have st3 : Stay ρ1 W H1 ρ2 W2 H3 := st2.trans x3.stay
          have fk3 : FK H1 H3 := fk2.trans x3.frz
          refine ⟨ρ2, W0, W2, σ2', hp2, u, rs2.ext rh2 x3, rh3, ru3, σ3', eg, fun σ4 rs4 _ => ⟨ρ2, W0, W2, σ3', hp2, rs4, rh3, ?_⟩⟩
          have po3 := PostS.from (W0 := W0) (W := W2) x3.toS po2
          cases eb : b σ3' hp2 with
          | nx σ5 h5 =>
            rw [eb] at po3
            exact fun ρ6 W6 H6 σ6 x6 rs6 rh6 => ⟨m', Nat.lt_succ_self _, ρ6, W6, σ5, h5, rs6, rh6, st3.trans x6.stay', fk3.trans x6.frz, PostS.from x6 po3⟩
          | ct σ5 h5 =>
            rw [eb] at po3
            exact fun ρ6 W6 H6 σ6 x6 rs6 rh6 => ⟨m', Nat.lt_succ_self _, ρ6, W6, σ5, h5, rs6, rh6, st3.trans x6.stay', fk3.trans x6.frz, PostS.from x6 po3⟩
          | bk σ5 h5 => rw [eb] at po3; exact po3
          | rt u5 h5 => rw [eb] at po3; exact po3
          | exc x5 h5 => rw [eb] at po3; exact po3
          | bad => rw [eb] at po3; exact po3
        · exact po2.elim
    · exact po2.elim⟩

/-! ### while -/
def whileR (t : MT) (b : MS) : Nat → SS → HP → RS
  | n, σ, h => match t σ h with
    | .ok true h1 => match n with
      | 0 => .bad
      | n + 1 => match b σ h1 with
        | .nx σ2 h2 => whileR t b n σ2 h2
        | .ct σ2 h2 => whileR t b n σ2 h2
        | .bk σ2 h2 => .nx σ2 h2
        | r => r
    | .ok false h1 => .nx σ h1
    | .exc x h1 => .exc x h1
    | .bad => .bad
/-- n: as many turns as are let -/
def sWhile (n : Nat) (t : MT) (b : MS) : MS := whileR t b n
theorem tS_while {c : Expr} {body : List Stmt} {t : MT} {b : MS} (n : Nat) (hp : PassesOwn (model X.prog X.w) X.A X.env X.xe) (hc : PT X c (tMT P E t)) (hb : PSs X body (tS P E b)) : PS X (.While c body [] pos) (tS P E (sWhile n t b)) := ⟨fun pins s σ H D I q => by
  obtain ⟨ρ, W0, W, σ', hp, rs, rh, po⟩ := q
  refine (ps_while ‹_› hc hb).run pins s σ H D I ⟨fun m σ H => ∃ ρ2 W2 σ2' hp2, RSl P ρ2 W0 W2 H σ2' σ ∧ RH P ρ2 W2 hp2 H ∧ PostS P E ρ2 W0 W2 H D (whileR t b m σ2' hp2), ⟨n, ρ, W, σ', hp, rs, rh, po⟩, ?_⟩
  rintro m σ2 H2 ⟨ρ2, W2, σ2', hp2, rs2, rh2, po2⟩
  unfold whileR at po2
  refine ⟨ρ2, W0, W2, σ2', hp2, rs2, rh2, ?_⟩
  cases et : t σ2' hp2 with
  | bad => rw [et] at po2; exact po2
  | exc x h1 => rw [et] at po2; exact fun ρ3 H3 c d x3 rh3 rx => po2 ρ3 W2 H3 c d x3.toS rs2.sub rh3 rx
  | ok bb h1 =>
    cases bb with
    | false =>
      rw [et] at po2
      exact fun ρ3 H3 x3 rh3 => po2 ρ3 W2 H3 σ2 x3.toS (rs2.ext rh2 x3) rh3
    | true =>
      rw [et] at po2
      dsimp only at po2
      intro ρ3 H3 x3 rh3
      split at po2
      · exact po2.elim
      · rename_i m'
        refine ⟨fun σ' H' => ∃ m'', m'' < m' + 1 ∧ ∃ ρ2 W2 σ2' hp2, RSl P ρ2 W0 W2 H' σ2' σ' ∧ RH P ρ2 W2 hp2 H' ∧ PostS P E ρ2 W0 W2 H' D (whileR t b m'' σ2' hp2), fun σ' H' h => h, ρ3, W0, W2, σ2', h1, rs2.ext rh2 x3, rh3, ?_⟩
        have po3 := PostS.from (W0 := W0) (W := W2) x3.toS po2
        cases eb : b σ2' h1 with
        | nx σ5 h5 =>
          rw [eb] at po3
          exact fun ρ6 W6 H6 σ6 x6 rs6 rh6 => ⟨m', Nat.lt_succ_self _, ρ6, W6, σ5, h5, rs6, rh6, PostS.from x6 po3⟩
        | ct σ5 h5 =>
          rw [eb] at po3
          exact fun ρ6 W6 H6 σ6 x6 rs6 rh6 => ⟨m', Nat.lt_succ_self _, ρ6, W6, σ5, h5, rs6, rh6, PostS.from x6 po3⟩
        | bk σ5 h5 => rw [eb] at po3; exact po3
        | rt u5 h5 => rw [eb] at po3; exact po3
        | exc x5 h5 => rw [eb] at po3; exact po3
        | bad => rw [eb] at po3; exact po3⟩
end
end M7
end

noncomputable section
namespace M7
open PySem PySem.Spec PyProof.Rows L2

section
variable {P : Par} {ρ ρ1 ρ' ρ'' : List Addr} {W W' W'' : WS} {W0 : FW} {H H1 H' H'' : Hp} {hp hp' : HP} {E : XK} {Q : VK} {X : Cx} {pos : Pos} {D : Ends} {σ' : SS} {σ : L2.St}
/-! ### keys -/
def eqK (a b : KU) : Bool := match a with
  | .i n => match b with
    | .i m => eqZ n m
    | _ => false
  | .s x => match b with
    | .s y => scalU.listEq x y
    | _ => false
theorem KU.key_inj {a b : KU} (h : a.key = b.key) : a = b := by
  cases a <;> cases b <;> simp only [KU.key] at h
  · cases h; rfl
  · cases h
  · cases h
  · injection h with h
    injection h with h
    have : (_ : List Nat) = _ := congrArg Array.toList h
    simp at this
    rw [this]
theorem eqK_iff {a b : KU} : eqK a b = true ↔ a = b := by
  cases a <;> cases b <;> simp [eqK, listEq_iff, eqZ_eq]
def keyU : U → Option KU
  | .int i => some (.i i)
  | .str x => some (.s x)
  | _ => none
theorem keyU_ok {u : U} {v : V} {k : KU} (r : RU P ρ W H u v) (e : keyU u = some k) : v = kV k.key := by
  cases r <;> cases e <;> rfl
def uOfK : KU → U
  | .i n => .int n
  | .s x => .str x
theorem uOfK_ok {k : KU} : RU P ρ W H (uOfK k) (kV k.key) := by
  cases k with
  | i n => exact .int n
  | s x => exact .str x
def lookK : List KU → List U → KU → Option U
  | k :: ks, u :: us, x => match eqK k x with
    | true => some u
    | false => lookK ks us x
  | _, _, _ => none
/-- what stands in a dict -/
def RKV (P : Par) (ρ : List Addr) (W : WS) (H : Hp) (ks : List KU) (us : List U) (kvs : List (Key × V)) : Prop := kvs.map (·.1) = ks.map KU.key ∧ RUs P ρ W H us (kvs.map (·.2))
theorem RKV.nil : RKV P ρ W H [] [] [] := ⟨rfl, .nil⟩
theorem RKV.shape {ks : List KU} {us : List U} {kvs : List (Key × V)} (h : RKV P ρ W H ks us kvs) : (ks = [] ∧ us = [] ∧ kvs = []) ∨ ∃ k ks' u us' v kvs', ks = k :: ks' ∧ us = u :: us' ∧ kvs = (k.key, v) :: kvs' ∧ RU P ρ W H u v ∧ RKV P ρ W H ks' us' kvs' := by
  obtain ⟨h1, h2⟩ := h
  cases kvs with
  | nil =>
    cases ks with
    | nil => cases h2; exact .inl ⟨rfl, rfl, rfl⟩
    | cons a b => cases h1
  | cons p r =>
    cases ks with
    | nil => cases h1
    | cons k ks =>
      rw [List.map_cons, List.map_cons] at h1
      injection h1 with e1 e2
      rw [List.map_cons] at h2
      cases h2 with
      | cons ru t =>
        obtain ⟨p1, p2⟩ := p
        have e1 : p1 = k.key := e1
        subst e1
        exact .inr ⟨k, ks, _, _, p2, r, rfl, rfl, rfl, ru, e2, t⟩
theorem lookK_ok {x : KU} : ∀ {ks : List KU} {us : List U} {kvs : List (Key × V)}, RKV P ρ W H ks us kvs → (lookK ks us x = none → valV kvs x.key = none) ∧ ∀ u, lookK ks us x = some u → ∃ v, valV kvs x.key = some v ∧ RU P ρ W H u v := by
  intro ks
  induction ks with
  | nil =>
    intro us kvs h
    rcases h.shape with ⟨_, rfl, rfl⟩ | ⟨k, ks', u, us', v, kvs', e, _⟩
    · exact ⟨fun _ => rfl, fun u e => by cases e⟩
    · cases e
  | cons k ks ih =>
    intro us kvs h
    rcases h.shape with ⟨e, _⟩ | ⟨k', ks', u, us', v, kvs', e, rfl, rfl, ru, t⟩
    · cases e
    · cases e
      unfold lookK
      cases q : eqK k x with
      | true =>
        have := eqK_iff.mp q
        subst this
        exact ⟨fun e => (by cases e), fun w e => (by cases e; exact ⟨v, valV_pos rfl, ru⟩)⟩
      | false =>
        have ne : ¬ k.key = x.key := fun z => by
          rw [eqK_iff.mpr (KU.key_inj z)] at q
          cases q
        rw [valV_neg (p := (k.key, v)) ne]
        exact ih t
theorem RKV.len {ks : List KU} {us : List U} {kvs : List (Key × V)} (h : RKV P ρ W H ks us kvs) : kvs.length = ks.length := by
  have := congrArg List.length h.1
  simpa using this
def memK (k : KU) : List KU → Bool
  | [] => false
  | j :: ks => match eqK j k with
    | true => true
    | false => memK k ks
def replU (x : KU) (w : U) : List KU → List U → List U
  | k :: ks, u :: us => match eqK k x with
    | true => w :: replU x w ks us
    | false => u :: replU x w ks us
  | _, us => us
def putKU (ks : List KU) (us : List U) (x : KU) (w : U) : List KU × List U := match memK x ks with
  | true => (ks, replU x w ks us)
  | false => (ks ++ [x], us ++ [w])
theorem eqK_key {k x : KU} : (k.key = x.key) ↔ eqK k x = true := ⟨fun h => eqK_iff.mpr (KU.key_inj h), fun h => by rw [eqK_iff.mp h]⟩
theorem memK_ok {x : KU} : ∀ {ks : List KU} {us : List U} {kvs : List (Key × V)}, RKV P ρ W H ks us kvs → (kvs.any fun kv => decide (kv.1 = x.key)) = memK x ks := by
  intro ks
  induction ks with
  | nil =>
    intro us kvs h
    rcases h.shape with ⟨_, rfl, rfl⟩ | ⟨k, ks', u, us', v, kvs', e, _⟩
    · rfl
    · cases e
  | cons k ks ih =>
    intro us kvs h
    rcases h.shape with ⟨e, _⟩ | ⟨k', ks', u, us', v, kvs', e, rfl, rfl, ru, t⟩
    · cases e
    · cases e
      rw [List.any_cons, ih t, show memK x (k :: ks) = (match eqK k x with | true => true | false => memK x ks) from rfl]
      cases q : eqK k x with
      | true => rw [show decide (k.key = x.key) = true from decide_eq_true (eqK_key.mpr q)]; rfl
      | false => rw [show decide (k.key = x.key) = false from decide_eq_false fun z => by rw [eqK_key.mp z] at q; cases q]; rfl
theorem replU_ok {x : KU} {u : U} {v : V} (ru : RU P ρ W H u v) : ∀ {ks : List KU} {us : List U} {kvs : List (Key × V)}, RKV P ρ W H ks us kvs → RKV P ρ W H ks (replU x u ks us) (kvs.map fun kv => if kv.1 = x.key then (kv.1, v) else kv) := by
  intro ks
  induction ks with
  | nil =>
    intro us kvs h
    rcases h.shape with ⟨_, rfl, rfl⟩ | ⟨k, ks', u, us', v, kvs', e, _⟩
    · exact .nil
    · cases e
  | cons k ks ih =>
    intro us kvs h
    rcases h.shape with ⟨e, _⟩ | ⟨k', ks', w, us', y, kvs', e, rfl, rfl, rw', t⟩
    · cases e
    · cases e
      have i := ih t
      unfold replU
      rw [List.map_cons]
      cases q : eqK k x with
      | true =>
        rw [if_pos (eqK_key.mpr q)]
        exact ⟨(by rw [List.map_cons, List.map_cons, i.1]), .cons ru i.2⟩
      | false =>
        rw [if_neg fun z => by rw [eqK_key.mp z] at q; cases q]
        exact ⟨(by rw [List.map_cons, List.map_cons, i.1]), .cons rw' i.2⟩
theorem putKU_ok {x : KU} {u : U} {v : V} (ru : RU P ρ W H u v) {ks : List KU} {us : List U} {kvs : List (Key × V)} (h : RKV P ρ W H ks us kvs) : RKV P ρ W H (putKU ks us x u).1 (putKU ks us x u).2 (putK kvs x.key v) := by
  unfold putKU putK
  rw [memK_ok h]
  cases memK x ks with
  | true =>
    rw [if_pos rfl]
    exact replU_ok ru h
  | false =>
    rw [if_neg (by decide)]
    exact ⟨(by rw [List.map_append, List.map_append, h.1]; rfl), by rw [List.map_append]; exact h.2.append (.cons ru .nil)⟩
end
end M7
end

noncomputable section
namespace M7
open PySem PySem.Spec PyProof.Rows L2

def noE : XK := fun _ _ _ => False
theorem passNo {P' : Program} {w : World} {X : Cx} : Passes (L2.CX P' w) X noE := fun _ _ _ _ _ _ _ h => by
  obtain ⟨_, _, _, _, _, _, _, _, _, _, _, _, h⟩ := h
  exact h.elim

section
variable {P : Par} {ρ ρ1 ρ' ρ'' : List Addr} {W W' W'' : WS} {W0 : FW} {H H1 H' H'' : Hp} {hp hp' : HP} {E : XK} {Q : VK} {X : Cx} {pos : Pos} {D : Addr} {σ' : SS} {σ : L2.St}
def WA (W : WS) (D : Addr) : WS := fun a => W a ∨ a = D
/-- the new list or dict stands at D; all else is as told -/
structure LcI (P : Par) (ρ1 : List Addr) (W : WS) (H1 : Hp) (D : Addr) (ρ : List Addr) (hp : HP) (acc : O) (H : Hp) : Prop where
  at' : RO P ρ (WA W D) H D acc
  rh : RH P ρ W hp (del H D)
  ext : Ext ρ1 H1 ρ (del H D)
theorem RO.there {o : O} (r : RO P ρ W H D o) : ∃ ho, H D = some ho := by
  cases r with
  | lst h _ => exact ⟨_, h⟩
  | dK h _ _ => exact ⟨_, h⟩
  | ins h _ _ => exact ⟨_, h⟩
  | dV h _ _ _ => exact ⟨_, h⟩
  | dN h _ _ _ _ => exact ⟨_, h⟩
theorem upd_del {o : HO} (h : H D = some o) : upd (del H D) D o = H := by
  funext b
  by_cases hb : b = D
  · subst hb; rw [upd_same, h]
  · rw [upd_ne hb, del_ne hb]
theorem stay_in {o : HO} (h : H D = some o) : Stay ρ W (del H D) ρ (WA W D) H := by
  have := stay_own (ρ := ρ) (W := W) (H := del H D) (p := D) (o := o) del_same
  rw [upd_del h] at this
  exact this
theorem rh_in {o : HO} (h : H D = some o) (rh : RH P ρ W hp (del H D)) : RH P ρ (WA W D) hp H := by
  have := rh.own1 (p := D) (o := o) del_same
  rw [upd_del h] at this
  exact this
def FW.more (W0 : FW) (D : Addr) : FW := ⟨WA W0.p D, W0.sf⟩
theorem rsl_in {o : HO} (h : H D = some o) (rh : RH P ρ W hp (del H D)) (rs : RSl P ρ W0 W (del H D) σ' σ) : RSl P ρ (W0.more D) (WA W D) H σ' σ := by
  have st : Stay ρ W (del H D) ρ (WA W D) H := stay_in h
  refine ⟨rs.len, fun a q => q.imp (rs.sub a) fun z => z, fun i u e => let ⟨v, h1, h2⟩ := rs.val i u e; ⟨v, h1, h2.stay st⟩, fun i o' e => ?_, rs.one⟩
  obtain ⟨a, h1, h2, h3, h4, h5⟩ := rs.own i o' e
  have na : a ≠ D := fun z => rh.notW del_same (z ▸ h2)
  exact ⟨a, h1, .inl h2, fun z => z.elim h3 na, h4.stayAt st fun u q => by rw [del_ne na] at q; exact q, h5⟩
theorem rsl_out {hs : SS} {σ1 : L2.St} (base : RSl P ρ W0 W (del H D) σ' σ) (rs : RSl P ρ (W0.more D) (WA W D) H hs σ1) : RSl P ρ W0 W (del H D) hs σ1 := by
  have st : Stay ρ (WA W D) H ρ W (del H D) := ⟨fun a o h n w => ⟨by rw [del_ne fun z => w (.inr z)]; exact h, n, fun z => w (.inl z)⟩, fun _ _ h => h⟩
  refine ⟨rs.len, base.sub, fun i u e => let ⟨v, q1, q2⟩ := rs.val i u e; ⟨v, q1, q2.stay st⟩, fun i o e => ?_, rs.one⟩
  obtain ⟨a, q1, q2, q3, q4, q5⟩ := rs.own i o e
  have na : a ≠ D := fun z => q3 (.inr z)
  exact ⟨a, q1, q2.elim (fun z => z) fun z => (na z).elim, fun z => q3 (.inl z), q4.stayAt st fun u h => by rw [del_ne na]; exact h, q5⟩
theorem stay_out : Stay ρ (WA W D) H ρ W (del H D) := ⟨fun a o h n w => ⟨by rw [del_ne fun z => w (.inr z)]; exact h, n, fun z => w (.inl z)⟩, fun _ _ h => h⟩
theorem rh_out (hW : ¬ W D) (rh : RH P ρ (WA W D) hp H) : RH P ρ W hp (del H D) := by
  have th : ∀ a, a ≠ D → (∃ o, H a = some o) → ∃ o, del H D a = some o := fun a n ⟨o, h⟩ => ⟨o, by rw [del_ne n]; exact h⟩
  have nD : ∀ a ∈ ρ, a ≠ D := fun a ha z => rh.own a ha (.inr z)
  refine ⟨rh.len, rh.nd, fun a ha z => rh.own a ha (.inl z), fun a ha => th a (nD a ha) (rh.there a ha), fun a ha => th a (fun z => hW (z ▸ ha)) (rh.wt a (.inl ha)), fun i o e => ?_⟩
  obtain ⟨a, h1, r⟩ := rh.obj i o e
  exact ⟨a, h1, r.stayAt stay_out fun u h => by rw [del_ne (nD a (List.mem_of_getElem? h1))]; exact h⟩
theorem ext_out (hD : D ∉ ρ) (x : Ext ρ H ρ' H') : Ext ρ (del H D) ρ' (del H' D) := by
  obtain ⟨t, e, ht⟩ := x.pre
  refine ⟨⟨t, e, fun a ha => ?_⟩, fun a o h n => ?_, fun a o h => ?_, fun a ob u h => ?_⟩
  · by_cases z : a = D
    · rw [z]; exact del_same
    · rw [del_ne z]; exact ht a ha
  · have na : a ≠ D := fun z => by rw [z, del_same] at h; cases h
    rw [del_ne na] at h ⊢
    exact x.keep a o h n
  · have na : a ≠ D := fun z => by rw [z, del_same] at h; cases h
    rw [del_ne na] at h ⊢
    exact x.there a o h
  · have na : a ≠ D := fun z => by rw [z, del_same] at h; cases h
    rw [del_ne na] at h ⊢
    exact x.frz a ob u h
theorem rsl_del (rs : RSl P ρ1 W0 W H1 σ' σ) (rh1 : RH P ρ1 W hp H1) (x : Ext ρ1 H1 ρ (del H D)) : RSl P ρ W0 W (del H D) σ' σ := rs.ext rh1 x
theorem LcI.notW (l : LcI P ρ1 W H1 D ρ hp acc H) : ¬ W D := l.rh.notW del_same
theorem LcI.notin (l : LcI P ρ1 W H1 D ρ hp acc H) : D ∉ ρ := l.rh.notin del_same
/-- behind an expression -/
theorem LcI.step {acc : O} (l : LcI P ρ1 W H1 D ρ hp acc H) (x : Ext ρ H ρ' H') (rh : RH P ρ' (WA W D) hp' H') : LcI P ρ1 W H1 D ρ' hp' acc H' := by
  have x' : Ext ρ (del H D) ρ' (del H' D) := ext_out l.notin x
  exact ⟨l.at'.keepOwn x l.notin, rh_out l.notW rh, l.ext.trans x'⟩
theorem LcI.stay {acc : O} (l : LcI P ρ1 W H1 D ρ hp acc H) (hn : H1 D = none) : Stay ρ1 W H1 ρ (WA W D) H := by
  obtain ⟨o, h1⟩ := l.at'.there
  exact l.ext.stay.trans (stay_in h1)
theorem RO.notFrz {o : O} (r : RO P ρ W H D o) : ∀ ob u, H D ≠ some (.frz ob u) := fun ob u e => by
  cases r with
  | lst h _ => rw [h] at e; cases e
  | dK h _ _ => rw [h] at e; cases e
  | ins h _ _ => rw [h] at e; cases e
  | dV h _ _ _ => rw [h] at e; cases e
  | dN h _ _ _ _ => rw [h] at e; cases e
theorem LcI.fk {acc : O} (l : LcI P ρ1 W H1 D ρ hp acc H) : FK H1 H := fun a ob u e => by
  have := l.ext.frz a ob u e
  by_cases h : a = D
  · rw [h, del_same] at this; cases this
  · rw [del_ne h] at this; exact this
theorem del_upd {o : HO} : del (upd H D o) D = del H D := by
  funext b
  by_cases hb : b = D
  · subst hb; rw [del_same, del_same]
  · rw [del_ne hb, del_ne hb, upd_ne hb]
/-- what stands at D is another -/
theorem LcI.put {acc acc2 : O} {o : HO} (l : LcI P ρ1 W H1 D ρ hp acc H) (r : RO P ρ (WA W D) (upd H D o) D acc2) : LcI P ρ1 W H1 D ρ hp acc2 (upd H D o) := by
  refine ⟨r, ?_, ?_⟩
  · rw [del_upd]; exact l.rh
  · rw [del_upd]; exact l.ext
theorem stay_put {o : HO} : Stay ρ (WA W D) H ρ (WA W D) (upd H D o) := stay_at (.inr (.inr rfl))
/-- an item appended -/
theorem LcI.more {us : List U} {u : U} {v : V} (l : LcI P ρ1 W H1 D ρ hp (.lst us) H) (r : RU P ρ (WA W D) H u v) : ∃ vs, H D = some (.lst vs) ∧ vs.length = us.length ∧ LcI P ρ1 W H1 D ρ hp (.lst (us ++ [u])) (upd H D (.lst (vs ++ [v]))) := by
  cases l.at' with
  | @lst _ vs h rr => exact ⟨vs, h, rr.length.symm, l.put (.lst upd_same (RUs.stay stay_put (rr.append (.cons r .nil))))⟩

def wipeU (σ : SS) : List Nat → SS
  | [] => σ
  | v :: vs => setF (wipeU σ vs) v .no
theorem RSl.setNo (rs : RSl P ρ W0 W H σ' σ) {i : Nat} : RSl P ρ W0 W H (σ'.set i .no) (σ.set i none) := by
  have gs : ∀ (j : Nat) (x : Sl), (σ'.set i .no)[j]? = some x → x = .no ∨ (j ≠ i ∧ σ'[j]? = some x) := fun j x h => by
    by_cases hj : j = i
    · subst hj
      by_cases hl : j < σ'.length
      · rw [List.getElem?_set_self hl] at h
        exact .inl (Option.some.inj h).symm
      · rw [List.getElem?_eq_none (by simpa using hl)] at h; cases h
    · rw [List.getElem?_set_ne (Ne.symm hj)] at h
      exact .inr ⟨hj, h⟩
  refine ⟨by simpa using rs.len, rs.sub, fun j u e => ?_, fun j o e => ?_, fun j k o o' a e1 e2 h1 h2 => ?_⟩
  · rcases gs j _ e with z | ⟨hj, z⟩
    · cases z
    · obtain ⟨v, h1, h2⟩ := rs.val j u z
      exact ⟨v, by rw [List.getElem?_set_ne (Ne.symm hj)]; exact h1, h2⟩
  · rcases gs j _ e with z | ⟨hj, z⟩
    · cases z
    · obtain ⟨a, h1, h2⟩ := rs.own j o z
      exact ⟨a, by rw [List.getElem?_set_ne (Ne.symm hj)]; exact h1, h2⟩
  · rcases gs j _ e1 with z | ⟨hj, z⟩
    · cases z
    · rcases gs k _ e2 with z' | ⟨hk, z'⟩
      · cases z'
      · rw [List.getElem?_set_ne (Ne.symm hj)] at h1
        rw [List.getElem?_set_ne (Ne.symm hk)] at h2
        exact rs.one j k o o' a z z' h1 h2
theorem RSl.wipe (rs : RSl P ρ W0 W H σ' σ) : ∀ vs : List Nat, RSl P ρ W0 W H (wipeU σ' vs) (L2.wipe σ vs)
  | [] => rs
  | v :: vs => by
    show RSl P ρ W0 W H (setF (wipeU σ' vs) v .no) _
    rw [setF_eq]
    exact (RSl.wipe rs vs).setNo
theorem wipe_at {j : Nat} : ∀ {vs : List Nat}, j ∈ vs → j < σ.length → (L2.wipe σ vs)[j]? = some none
  | [], h, _ => by cases h
  | v :: vs, h, hl => by
    unfold L2.wipe
    by_cases hv : v = j
    · subst hv
      rw [List.getElem?_set_self (by rw [wipe_length]; exact hl)]
    · rw [List.getElem?_set_ne hv]
      exact wipe_at (List.mem_of_ne_of_mem (Ne.symm hv) h) hl
theorem wipe_eq {σ2 : L2.St} {is vs : List Nat} (h : SameBut is (L2.wipe σ vs) σ2) (hi : ∀ j ∈ is, j ∈ vs) : L2.wipe σ2 vs = L2.wipe σ vs := by
  have hl : σ2.length = σ.length := by rw [h.1, wipe_length]
  apply List.ext_getElem?
  intro j
  by_cases hj : j ∈ vs
  · by_cases hlt : j < σ.length
    · rw [wipe_at hj hlt, wipe_at hj (by rw [hl]; exact hlt)]
    · rw [List.getElem?_eq_none (by rw [wipe_length, hl]; omega), List.getElem?_eq_none (by rw [wipe_length]; omega)]
  · rw [wipe_out hj, h.2 j fun z => hj (hi j z)]

/-! ### a clause's loop -/
inductive RL where
  | ok (o : O) (h : HP) | bad
abbrev BodyL := O → SS → HP → RL
def lcG (g : GT) (tt : MT) (b : BodyL) (vs : List Nat) (s : Src) (n : Nat) : Nat → O → SS → HP → RL := Nat.rec (motive := fun _ => Nat → O → SS → HP → RL)
  (fun i acc _ h => Option.rec .bad (fun q => Option.rec (.ok acc h) (fun _ => .bad) q) (s h i))
  (fun _ ih i acc σ h => Option.rec .bad (fun q => Option.rec (.ok acc h) (fun u => Option.rec .bad (fun σ1 => RT.rec (fun t h1 => Bool.rec (ih (i + 1) acc σ h1) (RL.rec (fun acc2 h2 => ih (i + 1) acc2 σ h2) .bad (b acc σ1 h1)) t) (fun _ _ => .bad) .bad (tt σ1 h)) (g (wipeU σ vs) h u)) q) (s h i)) n
theorem lcG_eq (g : GT) (tt : MT) (b : BodyL) (vs : List Nat) (s : Src) (n i : Nat) (acc : O) (σ : SS) (h : HP) : lcG g tt b vs s n i acc σ h = (match s h i with
    | some none => .ok acc h
    | some (some u) => match n with
      | 0 => .bad
      | n + 1 => match g (wipeU σ vs) h u with
        | some σ1 => match tt σ1 h with
          | .ok true h1 => match b acc σ1 h1 with
            | .ok acc2 h2 => lcG g tt b vs s n (i + 1) acc2 σ h2
            | _ => .bad
          | .ok false h1 => lcG g tt b vs s n (i + 1) acc σ h1
          | _ => .bad
        | none => .bad
    | none => .bad) := by
  cases n with
  | zero =>
    show Option.rec (motive := fun _ => RL) _ _ (s h i) = _
    cases s h i with
    | none => rfl
    | some q => cases q <;> rfl
  | succ n =>
    show Option.rec (motive := fun _ => RL) _ _ (s h i) = _
    cases s h i with
    | none => rfl
    | some q =>
      cases q with
      | none => rfl
      | some u =>
        dsimp only
        show Option.rec (motive := fun _ => RL) _ _ (g (wipeU σ vs) h u) = _
        cases g (wipeU σ vs) h u with
        | none => rfl
        | some σ1 =>
          dsimp only
          cases tt σ1 h with
          | bad => rfl
          | exc x h1 => rfl
          | ok t h1 =>
            cases t with
            | false => rfl
            | true =>
              dsimp only
              cases b acc σ1 h1 <;> rfl
def PostL (P : Par) (ρ1 : List Addr) (W : WS) (H1 : Hp) (D : Addr) (F : Hp → Prop) : RL → Prop
  | .ok acc hp => ∀ ρ H, LcI P ρ1 W H1 D ρ hp acc H → F H
  | .bad => False
def tTyes : MT := fun _ h => .ok true h
theorem pts_yes : PTs X [] (tMT P noE tTyes) := ⟨fun pins s σ H Q I q => by
  obtain ⟨ρ, W0, W, σ', hp, rs, rh, po⟩ := q
  exact pts_nil.run pins s σ H Q I (po ρ H Ext.refl rh)⟩
theorem pts_if {c : Expr} {t : MT} (h : PT X c (tMT P noE t)) : PTs X [c] (tMT P noE t) := pts_one h
/-- what HandS wants of a clause's loop; tb: what is wanted behind the tests -/
theorem lc_loop {hp1 : HP} {J : It} {src : Src} {is vs : List Nat} {g : GT} {tt : MT} {b : BodyL} {tb : L2.St → Hp → (Hp → Prop) → Prop} {F : Hp → Prop} (rs : RSl P ρ1 W0 W H1 σ' σ) (rh1 : RH P ρ1 W hp1 H1) (hD : H1 D = none) (jok : JOk P ρ1 W H1 J src) (hi : ∀ j ∈ is, j ∈ vs)
    (hb : ∀ ρ2 hp2 acc H2 σ1' σ1 (Nx : Hp → Prop), LcI P ρ1 W H1 D ρ2 hp2 acc H2 → RSl P ρ2 W0 W (del H2 D) σ1' σ1 → L2.wipe σ1 vs = L2.wipe σ vs → PostL P ρ1 W H1 D Nx (b acc σ1' hp2) → tb σ1 H2 Nx) {ρ2 : List Addr} {hp2 : HP} {acc : O} {H2 : Hp} (l : LcI P ρ1 W H1 D ρ2 hp2 acc H2) {n : Nat}
    (po : PostL P ρ1 W H1 D F (lcG g tt b vs src n 0 acc σ' hp2)) :
    ∃ W' : Nat → Nat → Hp → Prop, (∃ m, W' 0 m H2) ∧ ∀ i m H, W' i m H → (J.stop i H ∧ F H) ∨ (J.go i H ∧ ∃ Nx : Hp → Prop, (∀ H', Nx H' → ∃ m', m' < m ∧ W' (i + 1) m' H') ∧ ∀ x H', J.yld i H x H' → tG P is g x (L2.wipe σ vs) H' fun σ2 H2 => L2.wipe σ2 vs = L2.wipe σ vs ∧ tMT P noE tt σ2 H2 fun bb H3 =>
      if bb = true then tb σ2 H3 Nx else Nx H3) := by
  refine ⟨fun i m H => ∃ ρ2 hp2 acc, LcI P ρ1 W H1 D ρ2 hp2 acc H ∧ PostL P ρ1 W H1 D F (lcG g tt b vs src m i acc σ' hp2), ⟨n, ρ2, hp2, acc, l, po⟩, ?_⟩
  rintro i m H ⟨ρ2, hp2, acc, l, po⟩
  have st := l.stay hD
  have fk := l.fk
  obtain ⟨o0, hD0⟩ := l.at'.there
  have rhI : RH P ρ2 (WA W D) hp2 H := rh_in hD0 l.rh
  obtain ⟨j1, j2⟩ := jok ρ2 (WA W D) H hp2 i st fk rhI
  rw [lcG_eq] at po
  split at po
  · rename_i es
    exact .inl ⟨j1 es, po ρ2 H l⟩
  · rename_i u es
    obtain ⟨go, y⟩ := j2 u es
    split at po
    · exact po.elim
    · rename_i m'
      split at po
      · rename_i σ1' eg
        refine .inr ⟨go, fun H' => ∃ m'', m'' < m' + 1 ∧ ∃ ρ2 hp2 acc, LcI P ρ1 W H1 D ρ2 hp2 acc H' ∧ PostL P ρ1 W H1 D F (lcG g tt b vs src m'' (i + 1) acc σ' hp2), fun H' h => h, fun x H3 yy => ?_⟩
        obtain ⟨x3, rh3, ru3⟩ := y x H3 yy
        have l3 := l.step x3 rh3
        obtain ⟨o3, hD3⟩ := l3.at'.there
        have rs3 : RSl P ρ2 W0 W (del H3 D) σ' σ := rs.ext rh1 l3.ext
        have rs3' := (rsl_in hD3 l3.rh rs3).wipe vs
        refine ⟨ρ2, W0.more D, WA W D, wipeU σ' vs, hp2, u, rs3', rh3, ru3, σ1', eg, fun σ4 rs4 sb4 => ⟨wipe_eq sb4 hi, ρ2, W0.more D, WA W D, σ1', hp2, rs4, rh3, ?_⟩⟩
        have we := wipe_eq sb4 hi
        cases et : tt σ1' hp2 with
        | bad => rw [et] at po; exact po
        | exc x h1 => rw [et] at po; exact po.elim
        | ok bb h1 =>
          rw [et] at po
          intro ρ5 H5 x5 rh5
          have l5 := l3.step x5 rh5
          cases bb with
          | false =>
            rw [if_neg (by decide)]
            exact ⟨m', Nat.lt_succ_self _, ρ5, h1, acc, l5, po⟩
          | true =>
            rw [if_pos rfl]
            dsimp only at po
            have rs5 : RSl P ρ5 (W0.more D) (WA W D) H5 σ1' σ4 := rs4.ext rh3 x5
            have rs5' : RSl P ρ5 W0 W (del H5 D) σ1' σ4 := rsl_out (rs.ext rh1 l5.ext) rs5
            refine hb ρ5 h1 acc H5 σ1' σ4 _ l5 rs5' we ?_
            cases eb : b acc σ1' h1 with
            | bad => rw [eb] at po; exact po.elim
            | ok acc2 h2 =>
              rw [eb] at po
              exact fun ρ6 H6 l6 => ⟨m', Nat.lt_succ_self _, ρ6, h2, acc2, l6, po⟩
      · exact po.elim
  · exact po.elim

/-! ### the comprehension -/
/-- an element is appended -/
def bElt (e : ME) : BodyL := fun acc σ h => match e σ h with
  | .ok u h1 => match acc with
    | .lst us => if Nat.blt us.length 16777216 = true then .ok (.lst (us ++ [u])) h1 else .bad
    | _ => .bad
  | _ => .bad
theorem bElt_ok {e : ME} {F : Hp → Prop} {acc : O} (l : LcI P ρ1 W H1 D ρ hp acc H) (rs : RSl P ρ W0 W (del H D) σ' σ) (po : PostL P ρ1 W H1 D F (bElt e acc σ' hp)) :
    tM P noE e σ H fun y H4 => ∃ vs, H4 D = some (.lst vs) ∧ vs.length < sizeLine ∧ F (upd H4 D (.lst (vs ++ [y]))) := by
  obtain ⟨o, hD⟩ := l.at'.there
  refine ⟨ρ, W0.more D, WA W D, σ', hp, rsl_in hD l.rh rs, rh_in hD l.rh, ?_⟩
  unfold bElt at po
  cases ee : e σ' hp with
  | bad => rw [ee] at po; exact po.elim
  | exc x h1 => rw [ee] at po; exact po.elim
  | ok u h1 =>
    rw [ee] at po
    dsimp only at po
    intro ρ3 H3 v x3 rh3 ru3
    have l3 := l.step x3 rh3
    split at po
    · rename_i us
      split at po
      · rename_i hl
        obtain ⟨vs, h3, h4, h5⟩ := l3.more ru3
        exact ⟨vs, h3, by rw [h4, sizeLine_eq]; exact Nat.le_of_ble_eq_true hl, po _ _ h5⟩
      · exact po.elim
    · exact po.elim
/-- a pair is put in -/
def bPair (mk mv : ME) : BodyL := fun acc σ h => match mk σ h with
  | .ok k h1 => match mv σ h1 with
    | .ok u h2 => match acc, keyU k with
      | .dK ks us, some kk => if Nat.blt ks.length 16777216 = true then .ok (.dK (putKU ks us kk u).1 (putKU ks us kk u).2) h2 else .bad
      | _, _ => .bad
    | _ => .bad
  | _ => .bad
theorem bPair_ok {mk mv : ME} {F : Hp → Prop} {acc : O} (l : LcI P ρ1 W H1 D ρ hp acc H) (rs : RSl P ρ W0 W (del H D) σ' σ) (po : PostL P ρ1 W H1 D F (bPair mk mv acc σ' hp)) :
    tM P noE mk σ H fun y H4 => tM P noE mv σ H4 fun z H5 => ∃ kvs k, y = kV k ∧ H5 D = some (.dK kvs) ∧ kvs.length < sizeLine ∧ F (upd H5 D (.dK (putK kvs k z))) := by
  obtain ⟨o, hD⟩ := l.at'.there
  refine ⟨ρ, W0.more D, WA W D, σ', hp, rsl_in hD l.rh rs, rh_in hD l.rh, ?_⟩
  unfold bPair at po
  cases ek : mk σ' hp with
  | bad => rw [ek] at po; exact po.elim
  | exc x h1 => rw [ek] at po; exact po.elim
  | ok k h1 =>
    rw [ek] at po
    dsimp only at po
    intro ρ3 H3 v x3 rh3 ru3
    have l3 := l.step x3 rh3
    obtain ⟨o3, hD3⟩ := l3.at'.there
    refine ⟨ρ3, W0.more D, WA W D, σ', h1, (rsl_in hD l.rh rs).ext (rh_in hD l.rh) x3, rh3, ?_⟩
    cases ev : mv σ' h1 with
    | bad => rw [ev] at po; exact po.elim
    | exc x h2 => rw [ev] at po; exact po.elim
    | ok u h2 =>
      rw [ev] at po
      dsimp only at po
      intro ρ4 H4 z x4 rh4 ru4
      have l4 := l3.step x4 rh4
      split at po
      · rename_i _ _ ks us kk ekk
        split at po
        · rename_i hl
          have := keyU_ok (ru3.ext x4) ekk
          subst this
          cases l4.at' with
          | @dK _ _ kvs h hk r =>
            have q := putKU_ok (x := kk) ru4 ⟨hk, r⟩
            refine ⟨kvs, kk.key, rfl, h, ?_, po _ _ (l4.put (.dK upd_same q.1 (RUs.stay stay_put q.2)))⟩
            rw [RKV.len ⟨hk, r⟩, sizeLine_eq]
            exact Nat.le_of_ble_eq_true hl
        · exact po.elim
      · exact po.elim
def cLc (j : MJ) (g : GT) (tt : MT) (b : BodyL) (vs : List Nat) : MA := fun σ h => match j σ h with
  | .ok s n h1 => match lcG g tt b vs s n 0 (.lst []) σ h1 with
    | .ok (.lst us) h2 => .ok us h2
    | _ => .bad
  | .exc x h1 => .exc x h1
  | .bad => .bad
/-- {k: v for ..}, an object of the logical heap -/
def eDc (j : MJ) (g : GT) (tt : MT) (b : BodyL) (vs : List Nat) : ME := fun σ h => match j σ h with
  | .ok s n h1 => match lcG g tt b vs s n 0 (.dK [] []) σ h1 with
    | .ok (.dK ks us) h2 => .ok (.ref h2.n) (h2.new (.dK ks us))
    | _ => .bad
  | .exc x h1 => .exc x h1
  | .bad => .bad
theorem del_fresh {o : HO} (hD : H1 D = none) : del (upd H1 D o) D = H1 := by
  funext b
  by_cases hb : b = D
  · subst hb; rw [del_same, hD]
  · rw [del_ne hb, upd_ne hb]
theorem LcI.start {hp1 : HP} {acc : O} {o : HO} (rh1 : RH P ρ1 W hp1 H1) (hD : H1 D = none) (r : RO P ρ1 (WA W D) (upd H1 D o) D acc) : LcI P ρ1 W H1 D ρ1 hp1 acc (upd H1 D o) := by
  refine ⟨r, ?_, ?_⟩
  · rw [del_fresh hD]; exact rh1
  · rw [del_fresh hD]; exact Ext.refl
/-- the reading of a comprehension, from that of its loop -/
theorem lc_start {j : MJ} {g : GT} {tt : MT} {b : BodyL} {vs : List Nat} {H : Hp} {RR : It → Hp → Prop} (q : tMC P E (cLc j g tt b vs) σ H Q)
    (k : ∀ ρ1 W0 W σ' J src n hp1 H1, RSl P ρ1 W0 W H1 σ' σ → RH P ρ1 W hp1 H1 → JOk P ρ1 W H1 J src → (∀ D, H1 D = none → LcI P ρ1 W H1 D ρ1 hp1 (.lst []) (upd H1 D (.lst [])) ∧ PostL P ρ1 W H1 D (fun H => Q (.ref D) H) (lcG g tt b vs src n 0 (.lst []) σ' hp1)) → RR J H1) :
    tI P E j σ H RR := by
  obtain ⟨ρ, W0, W, σ', hp, rs, rh, po⟩ := q
  refine ⟨ρ, W0, W, σ', hp, rs, rh, ?_⟩
  unfold cLc at po
  cases ej : j σ' hp with
  | bad => rw [ej] at po; exact po
  | exc x h1 => rw [ej] at po; exact po
  | ok src n h1 =>
    rw [ej] at po
    dsimp only at po
    intro ρ1 H1 J x1 rh1 jok
    refine k ρ1 W0 W σ' J src n h1 H1 (rs.ext rh x1) rh1 jok fun D hD => ⟨LcI.start rh1 hD (.lst upd_same .nil), ?_⟩
    cases el : lcG g tt b vs src n 0 (.lst []) σ' h1 with
    | bad => rw [el] at po; exact po
    | ok o h2 =>
      rw [el] at po
      intro ρ2 H2 l2
      cases o with
      | dK ks us => exact po.elim
      | ins C ns us => exact po.elim
      | dN ks us => exact po.elim
      | lst us =>
        cases l2.at' with
        | @lst _ ws hD2 r2 =>
          have := po ρ2 (del H2 D) ws D (x1.trans l2.ext) l2.rh (RUs.stay stay_out r2) del_same
          rw [upd_del hD2] at this
          exact this
theorem tLc_of {j : MJ} {is vs : List Nat} {g : GT} {tt : MT} {e : ME} {H : Hp} (hi : ∀ i ∈ is, i ∈ vs) (q : tMC P E (cLc j g tt (bElt e) vs) σ H Q) : tLc (tI P E j) (tG P is g) (tMT P noE tt) (tM P noE e) vs σ H Q :=
  lc_start q fun ρ1 W0 W σ' J src n hp1 H1 rs1 rh1 jok k D hD => by
    obtain ⟨l, po⟩ := k D hD
    exact lc_loop (tb := fun σ1 H2 Nx => tM P noE e σ1 H2 fun y H4 => ∃ acc, H4 D = some (.lst acc) ∧ acc.length < sizeLine ∧ Nx (upd H4 D (.lst (acc ++ [y])))) rs1 rh1 hD jok hi
      (fun ρ2 hp2 acc H2 σ1' σ1 Nx l2 rs2 _ po2 => bElt_ok l2 rs2 po2) l po
theorem stay_ref {o : HO} (hD : H D = some o) (np : D ∉ ρ) : Stay ρ (WA W D) H (ρ ++ [D]) W H := ⟨fun b u e n z => ⟨e, fun q => by
    rcases List.mem_append.mp q with q | q
    · exact n q
    · have : b = D := by simpa using q
      exact z (.inr this), fun q => z (.inl q)⟩, fun n b e => by rw [List.getElem?_append_left (List.getElem?_eq_some_iff.mp e).1]; exact e⟩
theorem tDc_of {j : MJ} {is vs : List Nat} {g : GT} {tt : MT} {mk mv : ME} {H : Hp} (hi : ∀ i ∈ is, i ∈ vs) (q : tM P E (eDc j g tt (bPair mk mv) vs) σ H Q) : tDc (tI P E j) (tG P is g) (tMT P noE tt) (tM P noE mk) (tM P noE mv) vs σ H Q := by
  obtain ⟨ρ, W0, W, σ', hp, rs, rh, po⟩ := q
  refine ⟨ρ, W0, W, σ', hp, rs, rh, ?_⟩
  unfold eDc at po
  cases ej : j σ' hp with
  | bad => rw [ej] at po; exact po
  | exc x h1 => rw [ej] at po; exact po
  | ok src n h1 =>
    rw [ej] at po
    dsimp only at po
    intro ρ1 H1 J x1 rh1 jok D hD
    refine lc_loop (F := fun H => Q (.ref D) H) (tb := fun σ1 H2 Nx => tM P noE mk σ1 H2 fun y H4 => tM P noE mv σ1 H4 fun z H5 => ∃ kvs k, y = kV k ∧ H5 D = some (.dK kvs) ∧ kvs.length < sizeLine ∧ Nx (upd H5 D (.dK (putK kvs k z)))) (rs.ext rh x1) rh1 hD jok hi
      (fun ρ2 hp2 acc H2 σ1' σ1 Nx l2 rs2 _ po2 => bPair_ok l2 rs2 po2) (acc := .dK [] []) (LcI.start rh1 hD (.dK (ks := []) (us := []) upd_same rfl .nil)) (n := n) ?_
    cases el : lcG g tt (bPair mk mv) vs src n 0 (.dK [] []) σ' h1 with
    | bad => rw [el] at po; exact po
    | ok o h2 =>
      rw [el] at po
      intro ρ2 H2 l2
      cases o with
      | lst us => exact po.elim
      | ins C ns us => exact po.elim
      | dN ks us => exact po.elim
      | dK ks us =>
        obtain ⟨o, hD2⟩ := l2.at'.there
        have st : Stay ρ2 (WA W D) H2 (ρ2 ++ [D]) W H2 := stay_ref hD2 l2.notin
        have rr := rh_in hD2 l2.rh
        have x3 : Ext ρ1 H1 (ρ2 ++ [D]) H2 := by
          obtain ⟨t, e, ht⟩ := l2.ext.pre
          refine ⟨⟨t ++ [D], by rw [e, List.append_assoc], fun b hb => ?_⟩, fun b u q n => ?_, fun b u q => ?_, fun b ob u q => ?_⟩
          · rcases List.mem_append.mp hb with z | z
            · exact ht b z
            · have : b = D := by simpa using z
              rw [this]; exact hD
          · have nb : b ≠ D := ne_of_none q hD
            have := l2.ext.keep b u q n
            rw [del_ne nb] at this
            exact this
          · have nb : b ≠ D := ne_of_none q hD
            have := l2.ext.there b u q
            rw [del_ne nb] at this
            exact this
          · have nb : b ≠ D := ne_of_none q hD
            have := l2.ext.frz b ob u q
            rw [del_ne nb] at this
            exact this
        exact po _ H2 _ (x1.trans x3) (rr.newAt (fun b z => .inl z) (.inr rfl) l2.notW ⟨o, hD2⟩ (l2.at'.stayAt st fun _ h => h)) (.ref rr.lastIx)
section
variable {elt tg iter tg1 iter1 : Expr} {ifs ifs1 : List Expr} {scope : Scope} {own : List (Str × Nat)} {j j1 : MJ} {is is1 : List Nat} {g g1 : GT} {tt tt1 : MT} {e : ME}
theorem tC_lc (hc : X.calm = true) (hN : X.N.Nodup) (hi : PI X tg iter (tI P E j)) (ok : BlkOk X.N X.env.scope scope own) (his : ∀ i ∈ is, i ∈ own.map (·.2))
    (hg : ∀ (s : Shared) (H : Hp) (C : Addr) (cl : List (Str × Addr)) (fp : List Addr), PG (X.blk s H scope (compEnvC scope cl C X.env) fp) tg (tG P is g)) (ht : ∀ (s : Shared) (H : Hp) (C : Addr) (cl : List (Str × Addr)) (fp : List Addr), PTs (X.blk s H scope (compEnvC scope cl C X.env) fp) ifs (tMT P noE tt))
    (he : ∀ (s : Shared) (H : Hp) (C : Addr) (cl : List (Str × Addr)) (fp : List Addr), PE (X.blk s H scope (compEnvC scope cl C X.env) fp) elt (tM P noE e)) (hs : ∀ x, foldedSetIterable iter X.env x = pure x) :
    PE X (.ListComp elt [⟨tg, iter, ifs, 0⟩] scope pos) (tMC P E (cLc j g tt (bElt e) (own.map (·.2)))) := ⟨fun pins s σ H Q I q => (pe_lc hc hN hi ok hg ht he hs).run pins s σ H Q I (tLc_of his q)⟩
/-- {k: v for ..} -/
theorem tM_dc {kx vx : Expr} {mk mv : ME} (hc : X.calm = true) (hN : X.N.Nodup) (hi : PI X tg iter (tI P E j)) (ok : BlkOk X.N X.env.scope scope own) (his : ∀ i ∈ is, i ∈ own.map (·.2))
    (hg : ∀ (s : Shared) (H : Hp) (C : Addr) (cl : List (Str × Addr)) (fp : List Addr), PG (X.blk s H scope (compEnvC scope cl C X.env) fp) tg (tG P is g)) (ht : ∀ (s : Shared) (H : Hp) (C : Addr) (cl : List (Str × Addr)) (fp : List Addr), PTs (X.blk s H scope (compEnvC scope cl C X.env) fp) ifs (tMT P noE tt))
    (hk : ∀ (s : Shared) (H : Hp) (C : Addr) (cl : List (Str × Addr)) (fp : List Addr), PE (X.blk s H scope (compEnvC scope cl C X.env) fp) kx (tM P noE mk))
    (he : ∀ (s : Shared) (H : Hp) (C : Addr) (cl : List (Str × Addr)) (fp : List Addr), PE (X.blk s H scope (compEnvC scope cl C X.env) fp) vx (tM P noE mv)) (hs : ∀ x, foldedSetIterable iter X.env x = pure x) :
    PE X (.DictComp kx vx [⟨tg, iter, ifs, 0⟩] scope pos) (tM P E (eDc j g tt (bPair mk mv) (own.map (·.2)))) := ⟨fun pins s σ H Q I q => (pe_dc hc hN hi ok hg ht hk he hs).run pins s σ H Q I (tDc_of his q)⟩
/-- name = [..] on one line -/
theorem tA_lc {i : Nat} {y : Str} {py spos : Pos} (hc : X.calm = true) (hN : X.N.Nodup) (hy : X.N[i]? = some y) (hyl : X.env.scope.names.lookup y = some .local)
    (hsw : swapsWith (.ListComp elt [⟨tg, iter, ifs, 0⟩] scope pos) (some (.Name y py)) spos.line X.env = pure true) (hi : PI X tg iter (tI P E j)) (ok : BlkOk X.N X.env.scope scope own) (his : ∀ i ∈ is, i ∈ own.map (·.2))
    (hg : ∀ (s : Shared) (H : Hp) (C : Addr) (cl : List (Str × Addr)) (fp : List Addr), PG (X.blk s H scope (compEnvC scope cl C X.env) fp) tg (tG P is g)) (ht : ∀ (s : Shared) (H : Hp) (C : Addr) (cl : List (Str × Addr)) (fp : List Addr), PTs (X.blk s H scope (compEnvC scope cl C X.env) fp) ifs (tMT P noE tt))
    (he : ∀ (s : Shared) (H : Hp) (C : Addr) (cl : List (Str × Addr)) (fp : List Addr), PE (X.blk s H scope (compEnvC scope cl C X.env) fp) elt (tM P noE e)) (hs : ∀ x, foldedSetIterable iter X.env x = pure x) :
    PS X (.Assign [.Name y py] (.ListComp elt [⟨tg, iter, ifs, 0⟩] scope pos) spos) (tAsg (tMC P E (cLc j g tt (bElt e) (own.map (·.2)))) (gName i)) := ⟨fun pins s σ H D I q =>
  (ps_setLc hc hN hy hyl hsw hi ok hg ht he hs).run pins s σ H D I (tLc_of his q)⟩
/-- a second for -/
def bFor (j1 : MJ) (g1 : GT) (tt1 : MT) (b : BodyL) (vs1 : List Nat) : BodyL := fun acc σ h => match j1 σ h with
  | .ok s n h1 => lcG g1 tt1 b vs1 s n 0 acc σ h1
  | _ => .bad
/-- the invariant from a later start -/
theorem LcI.base {acc : O} {ρ2 : List Addr} {H2 : Hp} (x : Ext ρ1 H1 ρ2 H2) (l : LcI P ρ2 W H2 D ρ hp acc H) : LcI P ρ1 W H1 D ρ hp acc H := ⟨l.at', l.rh, x.trans l.ext⟩
theorem tLc2_of {vs vs1 : List Nat} {H : Hp} (hi : ∀ i ∈ is, i ∈ vs) (hi1 : ∀ i ∈ is1, i ∈ vs1) (q : tMC P E (cLc j g tt (bFor j1 g1 tt1 (bElt e) vs1) vs) σ H Q) :
    tLc2 (tI P E j) (tG P is g) (tMT P noE tt) (tI P noE j1) (tG P is1 g1) (tMT P noE tt1) (tM P noE e) vs vs1 σ H Q :=
  lc_start q fun ρ1 W0 W σ' J src n hp1 H1 rs1 rh1 jok k D hD => by
    obtain ⟨l, po⟩ := k D hD
    refine lc_loop (tb := fun σ2 H3 Nx => tI P noE j1 σ2 H3 fun J1 H4 => ∃ W1 : Nat → Nat → Hp → Prop, (∃ m, W1 0 m H4) ∧ ∀ j k H, W1 j k H →
      (J1.stop j H ∧ Nx H) ∨ (J1.go j H ∧ ∃ Nx1 : Hp → Prop, (∀ H', Nx1 H' → ∃ k', k' < k ∧ W1 (j + 1) k' H') ∧ ∀ x H', J1.yld j H x H' → tG P is1 g1 x (L2.wipe σ2 vs1) H' fun σ3 H5 => L2.wipe σ3 vs1 = L2.wipe σ2 vs1 ∧ tMT P noE tt1 σ3 H5 fun b H6 =>
        if b = true then tM P noE e σ3 H6 fun y H7 => ∃ acc, H7 D = some (.lst acc) ∧ acc.length < sizeLine ∧ Nx1 (upd H7 D (.lst (acc ++ [y]))) else Nx1 H6)) rs1 rh1 hD jok hi
      (fun ρ2 hp2 acc H2 σ1' σ1 Nx l2 rs2 _ po2 => ?_) l po
    obtain ⟨o2, hD2⟩ := l2.at'.there
    refine ⟨ρ2, W0.more D, WA W D, σ1', hp2, rsl_in hD2 l2.rh rs2, rh_in hD2 l2.rh, ?_⟩
    unfold bFor at po2
    cases ej : j1 σ1' hp2 with
    | bad => rw [ej] at po2; exact po2.elim
    | exc x h1 => rw [ej] at po2; exact po2.elim
    | ok s1 n1 h1 =>
      rw [ej] at po2
      dsimp only at po2
      intro ρ3 H3 J1 x3 rh3 jok3
      have l3 := l2.step x3 rh3
      have rs3 : RSl P ρ3 W0 W (del H3 D) σ1' σ1 := rs2.ext l2.rh (ext_out l2.notin x3)
      have l4 : LcI P ρ3 W (del H3 D) D ρ3 h1 acc H3 := ⟨l3.at', l3.rh, Ext.refl⟩
      have jok4 : JOk P ρ3 W (del H3 D) J1 s1 := jok3.stay stay_out fun a ob u e => by
        have ne : a ≠ D := fun z => l3.at'.notFrz ob u (z ▸ e)
        rw [del_ne ne]; exact e
      exact lc_loop (F := Nx) (tb := fun σ1 H2 Nx => tM P noE e σ1 H2 fun y H4 => ∃ acc, H4 D = some (.lst acc) ∧ acc.length < sizeLine ∧ Nx (upd H4 D (.lst (acc ++ [y])))) rs3 l3.rh del_same jok4 hi1
        (fun ρ5 hp5 acc5 H5 σ5' σ5 Nx5 l5 rs5 _ po5 => bElt_ok l5 rs5 po5) l4 (by
          cases el : lcG g1 tt1 (bElt e) vs1 s1 n1 0 acc σ1' h1 with
          | bad => rw [el] at po2; exact po2
          | ok us h2 =>
            rw [el] at po2
            exact fun ρ6 H6 l6 => po2 ρ6 H6 (l6.base l3.ext))
theorem tC_lc2 (hc : X.calm = true) (hN : X.N.Nodup) (hi : PI X tg iter (tI P E j)) (ok : BlkOk X.N X.env.scope scope own) {vs1 : List Nat} (hv : ∀ i ∈ vs1, i ∈ own.map (·.2)) (his : ∀ i ∈ is, i ∈ own.map (·.2)) (his1 : ∀ i ∈ is1, i ∈ vs1)
    (hg : ∀ (s : Shared) (H : Hp) (C : Addr) (cl : List (Str × Addr)) (fp : List Addr), PG (X.blk s H scope (compEnvC scope cl C X.env) fp) tg (tG P is g)) (ht : ∀ (s : Shared) (H : Hp) (C : Addr) (cl : List (Str × Addr)) (fp : List Addr), PTs (X.blk s H scope (compEnvC scope cl C X.env) fp) ifs (tMT P noE tt))
    (hi1 : ∀ (s : Shared) (H : Hp) (C : Addr) (cl : List (Str × Addr)) (fp : List Addr), PI (X.blk s H scope (compEnvC scope cl C X.env) fp) tg1 iter1 (tI P noE j1))
    (hg1 : ∀ (s : Shared) (H : Hp) (C : Addr) (cl : List (Str × Addr)) (fp : List Addr), PG (X.blk s H scope (compEnvC scope cl C X.env) fp) tg1 (tG P is1 g1)) (ht1 : ∀ (s : Shared) (H : Hp) (C : Addr) (cl : List (Str × Addr)) (fp : List Addr), PTs (X.blk s H scope (compEnvC scope cl C X.env) fp) ifs1 (tMT P noE tt1))
    (he : ∀ (s : Shared) (H : Hp) (C : Addr) (cl : List (Str × Addr)) (fp : List Addr), PE (X.blk s H scope (compEnvC scope cl C X.env) fp) elt (tM P noE e)) (hs : ∀ x, foldedSetIterable iter X.env x = pure x) (hs1 : ∀ env x, foldedSetIterable iter1 env x = pure x) :
    PE X (.ListComp elt [⟨tg, iter, ifs, 0⟩, ⟨tg1, iter1, ifs1, 0⟩] scope pos) (tMC P E (cLc j g tt (bFor j1 g1 tt1 (bElt e) vs1) (own.map (·.2)))) := ⟨fun pins s σ H Q I q => (pe_lc2 hc hN hi ok hv hg ht hi1 hg1 ht1 he hs hs1).run pins s σ H Q I (tLc2_of his his1 q)⟩
theorem tA_lc2 {i : Nat} {y : Str} {py spos : Pos} (hc : X.calm = true) (hN : X.N.Nodup) (hy : X.N[i]? = some y) (hyl : X.env.scope.names.lookup y = some .local)
    (hsw : swapsWith (.ListComp elt [⟨tg, iter, ifs, 0⟩, ⟨tg1, iter1, ifs1, 0⟩] scope pos) (some (.Name y py)) spos.line X.env = pure true) (hi : PI X tg iter (tI P E j)) (ok : BlkOk X.N X.env.scope scope own) {vs1 : List Nat} (hv : ∀ i ∈ vs1, i ∈ own.map (·.2)) (his : ∀ i ∈ is, i ∈ own.map (·.2)) (his1 : ∀ i ∈ is1, i ∈ vs1)
    (hg : ∀ (s : Shared) (H : Hp) (C : Addr) (cl : List (Str × Addr)) (fp : List Addr), PG (X.blk s H scope (compEnvC scope cl C X.env) fp) tg (tG P is g)) (ht : ∀ (s : Shared) (H : Hp) (C : Addr) (cl : List (Str × Addr)) (fp : List Addr), PTs (X.blk s H scope (compEnvC scope cl C X.env) fp) ifs (tMT P noE tt))
    (hi1 : ∀ (s : Shared) (H : Hp) (C : Addr) (cl : List (Str × Addr)) (fp : List Addr), PI (X.blk s H scope (compEnvC scope cl C X.env) fp) tg1 iter1 (tI P noE j1))
    (hg1 : ∀ (s : Shared) (H : Hp) (C : Addr) (cl : List (Str × Addr)) (fp : List Addr), PG (X.blk s H scope (compEnvC scope cl C X.env) fp) tg1 (tG P is1 g1)) (ht1 : ∀ (s : Shared) (H : Hp) (C : Addr) (cl : List (Str × Addr)) (fp : List Addr), PTs (X.blk s H scope (compEnvC scope cl C X.env) fp) ifs1 (tMT P noE tt1))
    (he : ∀ (s : Shared) (H : Hp) (C : Addr) (cl : List (Str × Addr)) (fp : List Addr), PE (X.blk s H scope (compEnvC scope cl C X.env) fp) elt (tM P noE e)) (hs : ∀ x, foldedSetIterable iter X.env x = pure x) (hs1 : ∀ env x, foldedSetIterable iter1 env x = pure x) :
    PS X (.Assign [.Name y py] (.ListComp elt [⟨tg, iter, ifs, 0⟩, ⟨tg1, iter1, ifs1, 0⟩] scope pos) spos) (tAsg (tMC P E (cLc j g tt (bFor j1 g1 tt1 (bElt e) vs1) (own.map (·.2)))) (gName i)) := ⟨fun pins s σ H D I q =>
  (ps_setLc2 hc hN hy hyl hsw hi ok hv hg ht hi1 hg1 ht1 he hs hs1).run pins s σ H D I (tLc2_of his his1 q)⟩
/-- name = [..]: as a value; owned -/
theorem tS_setA {i : Nat} {st : Stmt} {m : MA} (h : PS X st (tAsg (tMC P E m) (gName i))) : PS X st (tS P E (sSet i (eFz m))) := ⟨fun pins s σ H D I q => by
  obtain ⟨ρ, W0, W, σ', hp, rs, rh, po⟩ := q
  refine h.run pins s σ H D I ⟨ρ, W0, W, σ', hp, rs, rh, ?_⟩
  unfold sSet eFz at po
  cases e : m σ' hp with
  | bad => rw [e] at po; exact po
  | exc x h1 => rw [e] at po; exact fun ρ1 H1 c d x1 rh1 rx => po ρ1 W H1 c d x1.toS rs.sub rh1 rx
  | ok us h1 =>
    rw [e] at po
    intro ρ1 H1 vs p x1 rh1 ru1 hn
    have x2 : Ext ρ1 H1 ρ1 (upd H1 p (.lst vs)) := Ext.fresh hn
    exact po ρ1 W _ _ (x1.trans x2).toS (((rs.ext rh x1).ext rh1 x2).setValF (RU.newLst rh1 hn ru1)) (rh1.fresh hn)⟩
theorem tS_ownA {i : Nat} {st : Stmt} {m : MA} (h : PS X st (tAsg (tMC P E m) (gName i))) : PS X st (tS P E (sOwn i m)) := ⟨fun pins s σ H D I q => by
  obtain ⟨ρ, W0, W, σ', hp, rs, rh, po⟩ := q
  refine h.run pins s σ H D I ⟨ρ, W0, W, σ', hp, rs, rh, ?_⟩
  unfold sOwn at po
  cases e : m σ' hp with
  | bad => rw [e] at po; exact po
  | exc x h1 => rw [e] at po; exact fun ρ1 H1 c d x1 rh1 rx => po ρ1 W H1 c d x1.toS rs.sub rh1 rx
  | ok us h1 =>
    rw [e] at po
    intro ρ1 H1 vs p x1 rh1 ru1 hn
    exact po ρ1 _ _ _ (x1.toS.trans (ExtS.own1 hn)) ((rs.ext rh x1).setOwn rh1 hn (.lst upd_same (RUs.stay (stay_own hn) ru1))) (rh1.own1 hn)⟩
end
end
end M7
end

noncomputable section
namespace M7
open PySem PySem.Spec PyProof.Rows L2
section
variable {P : Par} {ρ ρ1 ρ' ρ'' : List Addr} {W W' W'' : WS} {W0 : FW} {H H1 H' H'' : Hp} {hp hp' : HP} {E : XK} {Q : VK} {X : Cx} {pos : Pos} {D : Ends} {σ' : SS} {σ : L2.St}
/-! ### keys of any depth as data -/
def intU : U → Option Int
  | .bl b => some (if b = true then 1 else 0)
  | .int i => some i
  | _ => none
def all2 {α : Type} (f : α → α → Bool) : List α → List α → Bool
  | [], [] => true
  | a :: as, b :: bs => match f a b with
    | true => all2 f as bs
    | false => false
  | _, _ => false
def eqN1 (f : U → U → Bool) (a b : U) : Bool := match a with
  | .non => match b with
    | .non => true
    | _ => false
  | .int i => match b with
    | .int j => eqZ i j
    | .bl d => eqZ i (if d = true then 1 else 0)
    | _ => false
  | .tup xs => match b with
    | .tup ys => all2 f xs ys
    | _ => false
  | .str x => match b with
    | .str y => scalU.listEq x y
    | _ => false
  | .bl c => match b with
    | .int j => eqZ (if c = true then 1 else 0) j
    | .bl d => c == d
    | _ => false
  | _ => false
def eqN : Nat → U → U → Bool
  | 0 => fun _ _ => false
  | n + 1 => eqN1 (eqN n)
theorem mapO_cons {α β : Type} {f : α → Option β} {u : α} {us : List α} {l : List β} (h : mapO f (u :: us) = some l) : ∃ a as, f u = some a ∧ mapO f us = some as ∧ l = a :: as := by
  unfold mapO at h
  split at h
  · rename_i a as e1 e2
    cases h
    exact ⟨a, as, e1, e2, rfl⟩
  · cases h
theorem eqN_all {n : Nat} (ih : ∀ u v a b, toNk n u = some a → toNk n v = some b → (eqN n u v = true ↔ a = b)) : ∀ (us vs : List U) (as bs : List NestedKey), mapO (toNk n) us = some as → mapO (toNk n) vs = some bs → (all2 (eqN n) us vs = true ↔ as = bs)
  | [], [], as, bs, h1, h2 => by cases h1; cases h2; simp [all2]
  | [], _ :: _, as, bs, h1, h2 => by
    obtain ⟨b, bs', _, _, rfl⟩ := mapO_cons h2
    cases h1
    simp [all2]
  | _ :: _, [], as, bs, h1, h2 => by
    obtain ⟨b, bs', _, _, rfl⟩ := mapO_cons h1
    cases h2
    simp [all2]
  | u :: us, v :: vs, as, bs, h1, h2 => by
    obtain ⟨a, as', e1, e2, rfl⟩ := mapO_cons h1
    obtain ⟨b, bs', e3, e4, rfl⟩ := mapO_cons h2
    have q1 := ih u v a b e1 e3
    have q2 := eqN_all ih us vs as' bs' e2 e4
    unfold all2
    cases z : eqN n u v with
    | true =>
      rw [z] at q1
      have := q1.mp rfl
      subst this
      simpa using q2
    | false =>
      rw [z] at q1
      refine ⟨fun h => (by cases h), fun h => ?_⟩
      injection h with h3 _
      exact absurd (q1.mpr h3) (by decide)
theorem eqN_iff : ∀ (n : Nat) (u v : U) (a b : NestedKey), toNk n u = some a → toNk n v = some b → (eqN n u v = true ↔ a = b)
  | 0, _, _, _, _, h, _ => by cases h
  | n + 1, u, v, a, b, h1, h2 => by
    have str (x y : List Nat) : ((⟨x.toArray⟩ : Str) = ⟨y.toArray⟩) ↔ x = y := by
      constructor
      · intro e
        injection e with e
        have := congrArg Array.toList e
        simpa using this
      · intro e; rw [e]
    have ih := eqN_iff n
    cases u with
    | tup xs =>
      obtain ⟨as, e1, rfl⟩ := Option.map_eq_some_iff.mp (show (mapO (toNk n) xs).map NestedKey.tup = some a from h1)
      cases v with
      | tup ys =>
        obtain ⟨bs, e2, rfl⟩ := Option.map_eq_some_iff.mp (show (mapO (toNk n) ys).map NestedKey.tup = some b from h2)
        show all2 (eqN n) xs ys = true ↔ _
        rw [eqN_all ih xs ys as bs e1 e2]
        constructor
        · intro e; rw [e]
        · intro e; injection e
      | lst _ => cases h2
      | lsx _ => cases h2
      | obj _ _ _ => cases h2
      | ref _ => cases h2
      | cls _ => cases h2
      | _ => cases h2; simp [eqN, eqN1, eqZ_eq]
    | lst _ => cases h1
    | lsx _ => cases h1
    | obj _ _ _ => cases h1
    | ref _ => cases h1
    | cls _ => cases h1
    | non =>
      cases h1
      cases v with
      | tup ys =>
        obtain ⟨bs, e2, rfl⟩ := Option.map_eq_some_iff.mp (show (mapO (toNk n) ys).map NestedKey.tup = some b from h2)
        simp [eqN, eqN1, eqZ_eq]
      | lst _ => cases h2
      | lsx _ => cases h2
      | obj _ _ _ => cases h2
      | ref _ => cases h2
      | cls _ => cases h2
      | _ => cases h2; simp [eqN, eqN1, eqZ_eq]
    | str x =>
      cases h1
      cases v with
      | tup ys =>
        obtain ⟨bs, e2, rfl⟩ := Option.map_eq_some_iff.mp (show (mapO (toNk n) ys).map NestedKey.tup = some b from h2)
        simp [eqN, eqN1, eqZ_eq]
      | str y => cases h2; simp only [eqN, eqN1, listEq_iff, NestedKey.text.injEq, decide_eq_true_eq]; exact (str x y).symm
      | lst _ => cases h2
      | lsx _ => cases h2
      | obj _ _ _ => cases h2
      | ref _ => cases h2
      | cls _ => cases h2
      | _ => cases h2; simp [eqN, eqN1, eqZ_eq]
    | bl c =>
      cases h1
      cases v with
      | tup ys =>
        obtain ⟨bs, e2, rfl⟩ := Option.map_eq_some_iff.mp (show (mapO (toNk n) ys).map NestedKey.tup = some b from h2)
        simp [eqN, eqN1, eqZ_eq]
      | lst _ => cases h2
      | lsx _ => cases h2
      | obj _ _ _ => cases h2
      | ref _ => cases h2
      | cls _ => cases h2
      | bl d => cases h2; cases c <;> cases d <;> simp [eqN, eqN1]
      | _ => cases h2; simp [eqN, eqN1, eqZ_eq]
    | int i =>
      cases h1
      cases v with
      | tup ys =>
        obtain ⟨bs, e2, rfl⟩ := Option.map_eq_some_iff.mp (show (mapO (toNk n) ys).map NestedKey.tup = some b from h2)
        simp [eqN, eqN1, eqZ_eq]
      | lst _ => cases h2
      | lsx _ => cases h2
      | obj _ _ _ => cases h2
      | ref _ => cases h2
      | cls _ => cases h2
      | _ => cases h2; simp [eqN, eqN1, eqZ_eq]
/-- looked up, stored -/
def lookN : List U → List U → U → Option U
  | k :: ks, u :: us, x => match eqN 8 k x with
    | true => some u
    | false => lookN ks us x
  | _, _, _ => none
def memQ (x : U) : List U → Bool
  | [] => false
  | k :: ks => match eqN 8 k x with
    | true => true
    | false => memQ x ks
def replN (x w : U) : List U → List U → List U
  | k :: ks, u :: us => match eqN 8 k x with
    | true => w :: replN x w ks us
    | false => u :: replN x w ks us
  | _, us => us
def putN (ks us : List U) (x w : U) : List U × List U := match memQ x ks with
  | true => (ks, replN x w ks us)
  | false => (ks ++ [x], us ++ [w])
def isTupU : U → Bool
  | .tup _ => true
  | _ => false
/-- of one sort: tuples all, or none -/
def sortN (ks : List U) (x : U) : Bool := match ks with
  | k :: _ => (isTupU k == isTupU x) && (toNk 8 x).isSome
  | [] => false
theorem eqN_dec {k x : U} {a b : NestedKey} (h1 : toNk 8 k = some a) (h2 : toNk 8 x = some b) : eqN 8 k x = decide (a = b) := by
  have := eqN_iff 8 k x a b h1 h2
  cases z : eqN 8 k x with
  | true => rw [z] at this; exact (decide_eq_true (this.mp rfl)).symm
  | false => rw [z] at this; exact (decide_eq_false fun e => absurd (this.mpr e) (by decide)).symm
abbrev NK (ks : List U) (kv : List (NestedKey × V)) : Prop := Paired (fun u (q : NestedKey × V) => toNk 8 u = some q.1) ks kv
theorem lookN_ok {x : U} {k : NestedKey} (ek : toNk 8 x = some k) : ∀ {ks us : List U} {kv : List (NestedKey × V)}, NK ks kv → RUs P ρ W H us (kv.map (·.2)) → (lookN ks us x = none → valV kv k = none) ∧ ∀ u, lookN ks us x = some u → ∃ v, valV kv k = some v ∧ RU P ρ W H u v
  | _, _, _, .nil, r => by
    cases r
    exact ⟨fun _ => rfl, fun u e => by cases e⟩
  | _, us, _, .cons (a := j) (b := p) (l₁ := ks) (l₂ := kv) h t, r => by
    obtain ⟨p1, p2⟩ := p
    rw [List.map_cons] at r
    cases r with
    | @cons u v us' vs' ru rs =>
      have d := eqN_dec h ek
      unfold lookN
      by_cases e : p1 = k
      · rw [show eqN 8 j x = true by rw [d]; exact decide_eq_true e]
        exact ⟨fun z => (by cases z), fun w z => (by cases z; exact ⟨p2, valV_pos e, ru⟩)⟩
      · rw [show eqN 8 j x = false by rw [d]; exact decide_eq_false e, valV_neg (p := (p1, p2)) e]
        exact lookN_ok ek t rs
theorem memQ_ok {x : U} {k : NestedKey} (ek : toNk 8 x = some k) : ∀ {ks : List U} {kv : List (NestedKey × V)}, NK ks kv → (kv.any fun q => decide (q.1 = k)) = memQ x ks
  | _, _, .nil => rfl
  | _, _, .cons (a := j) (b := p) h t => by
    have d := eqN_dec h ek
    unfold memQ
    rw [List.any_cons, memQ_ok ek t, ← d]
    cases eqN 8 j x <;> rfl
theorem replN_ok {x w : U} {k : NestedKey} {v : V} (ek : toNk 8 x = some k) (rw' : RU P ρ W H w v) : ∀ {ks us : List U} {kv : List (NestedKey × V)}, NK ks kv → RUs P ρ W H us (kv.map (·.2)) →
    NK ks (kv.map fun q => if q.1 = k then (q.1, v) else q) ∧ RUs P ρ W H (replN x w ks us) ((kv.map fun q => if q.1 = k then (q.1, v) else q).map (·.2))
  | _, _, _, .nil, r => by
    cases r
    exact ⟨.nil, .nil⟩
  | _, us, _, .cons (a := j) (b := p) (l₁ := ks) (l₂ := kv) h t, r => by
    obtain ⟨p1, p2⟩ := p
    rw [List.map_cons] at r
    cases r with
    | @cons u v' us' vs' ru rs =>
      have d := eqN_dec h ek
      obtain ⟨q1, q2⟩ := replN_ok ek rw' t rs
      unfold replN
      rw [List.map_cons]
      by_cases e : p1 = k
      · rw [show eqN 8 j x = true by rw [d]; exact decide_eq_true e, if_pos e]
        exact ⟨.cons h q1, .cons rw' q2⟩
      · rw [show eqN 8 j x = false by rw [d]; exact decide_eq_false e, if_neg e]
        exact ⟨.cons h q1, .cons ru q2⟩
theorem NK.append {ks : List U} {kv : List (NestedKey × V)} (h : NK ks kv) {x : U} {k : NestedKey} {v : V} (ek : toNk 8 x = some k) : NK (ks ++ [x]) (kv ++ [(k, v)]) := by
  induction h with
  | nil => exact .cons ek .nil
  | cons a b ih => exact .cons a ih
theorem putN_ok {x w : U} {k : NestedKey} {v : V} (ek : toNk 8 x = some k) (rw' : RU P ρ W H w v) {ks us : List U} {kv : List (NestedKey × V)} (h : NK ks kv) (r : RUs P ρ W H us (kv.map (·.2))) : NK (putN ks us x w).1 (putK kv k v) ∧ RUs P ρ W H (putN ks us x w).2 ((putK kv k v).map (·.2)) := by
  have m := memQ_ok ek h
  unfold putN putK
  cases z : memQ x ks with
  | true =>
    rw [z] at m
    rw [if_pos m]
    exact replN_ok ek rw' h r
  | false =>
    rw [z] at m
    rw [if_neg (by rw [m]; decide), List.map_append]
    exact ⟨h.append ek, r.append (.cons rw' .nil)⟩
end
end M7
end

noncomputable section
namespace M7
open PySem PySem.Spec PyProof.Rows L2
theorem toNk_depth : ∀ (n : Nat) (u : U) (k : NestedKey), toNk n u = some k → k.depth ≤ n
  | 0, _, _, h => by cases h
  | n + 1, u, k, h => by
    have all : ∀ (us : List U) (ks : List NestedKey), mapO (toNk n) us = some ks → NestedKey.depthAll ks ≤ n := by
      intro us
      induction us with
      | nil => intro ks e; cases e; exact Nat.zero_le _
      | cons u us ih =>
        intro ks e
        obtain ⟨a, as, e1, e2, rfl⟩ := mapO_cons e
        have h1 := toNk_depth n u a e1
        have h2 := ih as e2
        simp only [NestedKey.depthAll]
        omega
    cases u with
    | tup xs =>
      obtain ⟨as, e1, rfl⟩ := Option.map_eq_some_iff.mp (show (mapO (toNk n) xs).map NestedKey.tup = some k from h)
      have h2 := all xs as e1
      show NestedKey.depthAll as + 1 ≤ n + 1
      omega
    | lst _ => cases h
    | lsx _ => cases h
    | obj _ _ _ => cases h
    | ref _ => cases h
    | cls _ => cases h
    | _ => cases h; exact Nat.zero_le _
section
variable {P : Par} {ρ ρ1 ρ' ρ'' : List Addr} {W W' W'' : WS} {W0 : FW} {H H1 H' H'' : Hp} {hp hp' : HP} {E : XK} {Q : VK} {X : Cx} {pos : Pos} {D : Ends} {σ' : SS} {σ : L2.St} {pins : List (Addr × Obj)} {s : Shared}
/-! ### keys in the real heap -/
theorem nk_all {n : Nat} (ih : ∀ (u : U) (v : V) (k : NestedKey) (z : Value), toNk n u = some k → RU P ρ W H u v → RelV v z → NestedIs s.heap k z) : ∀ (us : List U) (vs : List V) (ks : List NestedKey) (zs : List Value), mapO (toNk n) us = some ks → RUs P ρ W H us vs → Vals vs zs → NestedAll s.heap ks zs
  | _, _, _, _, e, .nil, r => by cases e; cases r; exact .nil
  | _, _, _, _, e, .cons ra t, r => by
    obtain ⟨a, as, e1, e2, rfl⟩ := mapO_cons e
    cases r with
    | cons rb rt => exact .cons (ih _ _ _ _ e1 ra rb) (nk_all ih _ _ _ _ e2 t rt)
theorem nk_is (hK : X.K = P.K) (I : Inv X pins σ H s) : ∀ (n : Nat) (u : U) (v : V) (k : NestedKey) (z : Value), toNk n u = some k → RU P ρ W H u v → RelV v z → NestedIs s.heap k z
  | 0, _, _, _, _, h, _, _ => by cases h
  | n + 1, u, v, k, z, h, r, rz => by
    cases r with
    | non => cases h; cases (show z = .none from rz); exact .none
    | bl b => cases h; cases (show z = .bool b from rz); exact .bool rfl
    | int i => cases h; obtain ⟨t, rfl⟩ := rz; exact .int _ _
    | str x => cases h; obtain ⟨t, rfl⟩ := rz; exact .text _ _
    | @tup xs a vs ht r =>
      obtain ⟨as, e1, rfl⟩ := Option.map_eq_some_iff.mp (show (mapO (toNk n) xs).map NestedKey.tup = some k from h)
      cases (show z = .ref a from rz)
      obtain ⟨its, rv, ⟨o, h1, h2, m, h3⟩, _⟩ := I.tuple (tat_sq hK ht)
      exact .tup h1 h2 h3 (by rw [List.toList_toArray]; exact nk_all (nk_is hK I n) xs vs as its e1 r rv)
    | lst _ _ => cases h
    | lsx _ _ => cases h
    | obj _ _ _ => cases h
    | ref _ => cases h
    | cls _ => cases h
theorem nk_nv {h : Heap} {k : NestedKey} {z : Value} (x : NestedIs h k z) (d : k.depth = 0) : NvS k z := by
  cases x with
  | none => exact .non
  | bool e => rw [e]; exact .bl _
  | int i t => exact .int i t
  | text y t => exact .str y t
  | tup _ _ _ _ => exact absurd d (by simp [NestedKey.depth])
theorem nk_ref {u : U} {v : V} {k : NestedKey} (h : toNk 8 u = some k) (r : RU P ρ W H u v) (t : isTupU u = true) : ∃ a, v = .ref a := by
  cases r with
  | @tup xs a vs ht r => exact ⟨a, rfl⟩
  | _ => cases t
theorem nk_flat {u : U} {k : NestedKey} (h : toNk 8 u = some k) (t : isTupU u = false) : k.depth = 0 := by
  cases u with
  | tup xs => cases t
  | lst _ => cases h
  | lsx _ => cases h
  | obj _ _ _ => cases h
  | ref _ => cases h
  | cls _ => cases h
  | _ => cases h; rfl
theorem nk_tup {u : U} {k : NestedKey} (h : toNk 8 u = some k) (t : isTupU u = true) : k.depth ≠ 0 := by
  cases u with
  | tup xs =>
    obtain ⟨as, e1, rfl⟩ := Option.map_eq_some_iff.mp (show (mapO (toNk 7) xs).map NestedKey.tup = some k from h)
    simp [NestedKey.depth]
  | _ => cases t
/-! ### what a logical dict of other keys is -/
theorem dnRef (rh : RH P ρ W hp H) {n : Nat} {v : V} {ks us : List U} (r : RU P ρ W H (.ref n) v) (e : hp.m n = some (.dN ks us)) : ∃ a, v = .ref a ∧ ρ[n]? = some a ∧ RO P ρ W H a (.dN ks us) := by
  cases r with
  | @ref _ a h =>
    obtain ⟨b, hb, ro⟩ := rh.obj _ _ e
    rw [h] at hb
    cases hb
    exact ⟨_, rfl, h, ro⟩
theorem sortN_ok {ks : List U} {x : U} (h : sortN ks x = true) : ∃ k ks', ks = k :: ks' ∧ isTupU k = isTupU x ∧ ∃ q, toNk 8 x = some q := by
  cases ks with
  | nil => cases h
  | cons k ks =>
    unfold sortN at h
    rw [Bool.and_eq_true] at h
    exact ⟨k, ks, rfl, beq_iff_eq.mp h.1, Option.isSome_iff_exists.mp h.2⟩
theorem NK.ofV {ks : List U} {kv : List (NestedKey × V)} (h : Paired (fun u q => toNk 8 u = some q ∧ q.depth = 0) ks (kv.map (·.1))) : NK ks kv := by
  induction kv generalizing ks with
  | nil => cases h; exact .nil
  | cons p r ih =>
    rw [List.map_cons] at h
    cases h with
    | cons a t => exact .cons a.1 (ih t)
theorem NK.ofN {ks : List U} {kv : List (NestedKey × V)} {xs : List (NestedKey × Addr × Value)} {F : U → Addr → Prop} (h : Paired (fun (p : NestedKey × V) (q : NestedKey × Addr × Value) => p.1 = q.1 ∧ RelV p.2 q.2.2) kv xs) (hk : Paired (fun u (q : NestedKey × Addr × Value) => toNk 8 u = some q.1 ∧ F u q.2.1) ks xs) : NK ks kv := by
  induction h generalizing ks with
  | nil => cases hk; exact .nil
  | cons a t ih =>
    cases hk with
    | cons b t2 => exact .cons (by rw [a.1]; exact b.1) (ih t2)
theorem valN {kv : List (NestedKey × V)} {xs : List (NestedKey × Addr × Value)} (h : Paired (fun (p : NestedKey × V) (q : NestedKey × Addr × Value) => p.1 = q.1 ∧ RelV p.2 q.2.2) kv xs) (k : NestedKey) : (valV kv k = none → atKey xs k = none) ∧ ∀ v, valV kv k = some v → ∃ p, atKey xs k = some p ∧ RelV v p.2 := by
  induction h with
  | nil => exact ⟨fun _ => rfl, fun v e => by cases e⟩
  | @cons p q l1 l2 a t ih =>
    obtain ⟨a1, a2⟩ := a
    by_cases e : p.1 = k
    · rw [valV_pos e]
      have e2 : q.1 = k := a1 ▸ e
      exact ⟨fun z => (by cases z), fun v z => (by cases z; exact ⟨q.2, by simp [atKey, List.find?_cons, e2], a2⟩)⟩
    · have e2 : ¬ q.1 = k := a1 ▸ e
      rw [valV_neg e, show atKey (q :: l2) k = atKey l2 k by simp [atKey, List.find?_cons, e2]]
      exact ih
/-- the dict at a, by keys that are no tuples; by tuples -/
theorem RO.cut {a : Addr} {ks us : List U} (ro : RO P ρ W H a (.dN ks us)) {x : U} {q : NestedKey} (hs : sortN ks x = true) (hq : toNk 8 x = some q) :
    (isTupU x = false ∧ ∃ (kv : List (NestedKey × V)) (kvs : List (NestedKey × Value)), H a = some (.ext (rawV P.pg P.w a kvs)) ∧ KV kv kvs ∧ Paired (fun u q => toNk 8 u = some q ∧ q.depth = 0) ks (kv.map (·.1)) ∧ RUs P ρ W H us (kv.map (·.2))) ∨
    (isTupU x = true ∧ ∃ (kv : List (NestedKey × V)) (xs : List (NestedKey × Addr × Value)), H a = some (.ext (rawN P.w a xs)) ∧ Paired (fun (p : NestedKey × V) (q : NestedKey × Addr × Value) => p.1 = q.1 ∧ RelV p.2 q.2.2) kv xs ∧ Paired (fun u q => toNk 8 u = some q.1 ∧ RU P ρ W H u (.ref q.2.1)) ks xs ∧ (xs.map (·.1)).Nodup ∧ RUs P ρ W H us (kv.map (·.2))) := by
  obtain ⟨k, ks', rfl, hk, _⟩ := sortN_ok hs
  cases ro with
  | @dV _ _ kv kvs h hv hp r =>
    refine .inl ⟨?_, kv, kvs, h, hv, hp, r⟩
    cases kv with
    | nil => cases hp
    | cons p r =>
      rw [List.map_cons] at hp
      cases hp with
      | cons c t =>
        cases z : isTupU k with
        | false => rw [← hk, z]
        | true => exact absurd c.2 (nk_tup c.1 z)
  | @dN _ _ kv xs h hx hp nd r =>
    refine .inr ⟨?_, kv, xs, h, hx, hp, nd, r⟩
    cases hp with
    | cons c t =>
      cases z : isTupU k with
      | true => rw [← hk, z]
      | false =>
        obtain ⟨c1, c2⟩ := c
        cases k with
        | tup _ => cases z
        | lst _ => cases c1
        | lsx _ => cases c1
        | obj _ _ _ => cases c1
        | ref _ => cases c1
        | cls _ => cases c1
        | _ => cases c2
end
end M7
end

noncomputable section
namespace M7
open PySem PySem.Spec PyProof.Rows L2
section
variable {P : Par} {ρ ρ1 ρ' ρ'' : List Addr} {W W' W'' : WS} {W0 : FW} {H H1 H' H'' : Hp} {hp hp' : HP} {E : XK} {Q : VK} {X : Cx} {pos : Pos} {D : Ends} {σ' : SS} {σ : L2.St} {pins : List (Addr × Obj)} {s : Shared} {a : Addr}
theorem rawV_ok {pg pg2 : Program} {w w2 : World} {h : Heap} {kvs : List (NestedKey × Value)} (x : rawV pg2 w2 a kvs h) : ObjOk pg w H h a (.ext (rawV pg2 w2 a kvs)) := by
  refine ⟨x, ?_, fun h1 h2 y k => ⟨y.1, y.2.1, y.2.2.at k⟩⟩
  obtain ⟨_, _, o, es, ep, ho, _⟩ := x
  exact ⟨o, ho⟩
theorem rawN_ok {pg : Program} {w w2 : World} {h : Heap} {xs : List (NestedKey × Addr × Value)} (x : rawN w2 a xs h) : ObjOk pg w H h a (.ext (rawN w2 a xs)) := by
  refine ⟨x, ?_, fun h1 h2 y k => ?_⟩
  · obtain ⟨_, _, o, es, ep, ho, _⟩ := x
    exact ⟨o, ho⟩
  · obtain ⟨y1, y2, o, es, ep, ho, r⟩ := y
    exact ⟨y1, y2, o, es, ep, k o ho, r⟩
theorem nV_at (hW : X.w = P.w) (hP : X.prog = P.pg) (I : Inv X pins σ H s) {kvs : List (NestedKey × Value)} (h : H a = some (.ext (rawV P.pg P.w a kvs))) : (a == sysModules) = false ∧ kvs.length ≤ sizeLine ∧ s.heap.DictOf (nvKind X.prog X.w) a kvs := by
  have x : rawV P.pg P.w a kvs s.heap := (I.hok a _ h).1
  rw [hW, hP]
  exact x
theorem nN_at (hK : X.K = P.K) (hW : X.w = P.w) (I : Inv X pins σ H s) {ks : List U} {xs : List (NestedKey × Addr × Value)} (h : H a = some (.ext (rawN P.w a xs))) (hk : Paired (fun u (q : NestedKey × Addr × Value) => toNk 8 u = some q.1 ∧ RU P ρ W H u (.ref q.2.1)) ks xs) (nd : (xs.map (·.1)).Nodup) :
    (a == sysModules) = false ∧ xs.length ≤ sizeLine ∧ s.heap.DictOfH (nestedKind X.prog X.w) a xs := by
  obtain ⟨h1, h2, o, es, ep, ho, hc, hd, he⟩ := (show rawN P.w a xs s.heap from (I.hok a _ h).1)
  refine ⟨h1, h2, o, es, ep, ho, hc, hd, ?_, ?_, nd⟩
  · rw [he, ← hW]
    rfl
  · clear he h2 nd h
    induction hk with
    | nil => intro x hx; cases hx
    | @cons u q ks xs c t ih =>
      intro x hx
      rcases List.mem_cons.mp hx with e | e
      · subst e
        exact ⟨nk_is hK I 8 u _ _ _ c.1 c.2 rfl, toNk_depth 8 u _ c.1⟩
      · exact ih x e
/-! ### k in d -/
def gInN (neg : Bool) : G2 := fun h a b => match b with
  | .ref n => match h.m n with
    | some (.dN ks us) => match sortN ks a with
      | true => some (.bl (if neg then !(lookN ks us a).isSome else (lookN ks us a).isSome))
      | false => none
    | _ => none
  | _ => none
theorem room8 {A : Around} (hu : A.units + 64 < cLine) (pg : Program) (w : World) : (nestedKind pg w).room A.in1 := by
  show A.units + 1 + 8 < cLine
  omega
theorem look_isSome {ks us : List U} {kv : List (NestedKey × V)} {x : U} {k : NestedKey} (ek : toNk 8 x = some k) (h : NK ks kv) (r : RUs P ρ W H us (kv.map (·.2))) : (valV kv k).isSome = (lookN ks us x).isSome := by
  obtain ⟨h1, h2⟩ := lookN_ok ek h r
  cases e : lookN ks us x with
  | none => rw [h1 e]; rfl
  | some u => obtain ⟨v, e', _⟩ := h2 u e; rw [e']; rfl
theorem RelO.same {o : Option V} {p : Option Value} (h : RelO o p) : p.isSome = o.isSome := by
  cases o <;> cases p <;> first | rfl | exact h.elim
theorem om_inN {neg : Bool} {op : CmpOp} (hop : op = (if neg = true then .NotIn else .In)) (hK : X.K = P.K) (hW : X.w = P.w) (hP : X.prog = P.pg) (hu : X.A.units + 64 < cLine) : OpM P X (compareOp op) (gInN neg) := by
  subst hop
  intro pins s σ H x y v u Q ρ W hp a b r I rx ry rh ra rb e k
  unfold gInN at e
  split at e
  · split at e
    · rename_i n ks us eo
      split at e
      · rename_i hs
        cases e
        obtain ⟨d, rfl, hn, ro⟩ := dnRef rh rb eo
        cases (show u = .ref d from ry)
        obtain ⟨_, _, _, _, q, hq⟩ := sortN_ok hs
        rcases ro.cut hs hq with ⟨ht, kv, kvs, h, hv, hk, r⟩ | ⟨ht, kv, xs, h, hx, hk, nd, r⟩
        · obtain ⟨h1, h2, h3⟩ := nV_at hW hP I h
          have hi : NvS q v := nk_nv (nk_is hK I 8 a x q v hq ra rx) (nk_flat hq ht)
          have e1 : (valueAt kvs q).isSome = (lookN ks us a).isSome := by rw [RelO.same (hv.val q), look_isSome hq (NK.ofV hk) r]
          cases neg with
          | false => exact wpAny_in_of (knd := nvKind X.prog X.w) (nv_of hi) h1 h3.mapOf ⟨.bl _, H, I.tok _, by rw [e1]; rfl, k.now rh (.bl _)⟩
          | true => exact wpAny_notIn_of (knd := nvKind X.prog X.w) (nv_of hi) h1 h3.mapOf ⟨.bl _, H, I.tok _, by rw [e1]; rfl, k.now rh (.bl _)⟩
        · obtain ⟨h1, h2, h3⟩ := nN_at hK hW I h hk nd
          obtain ⟨b, rfl⟩ := nk_ref hq ra ht
          cases (show v = .ref b from rx)
          have hi : (nestedKind X.prog X.w).is s.heap q b := ⟨nk_is hK I 8 a _ q _ hq ra rfl, toNk_depth 8 a q hq⟩
          have e1 : (valueAt (pairsH xs) q).isSome = (lookN ks us a).isSome := by
            rw [valueAt_pairsH, Option.isSome_map, ← look_isSome hq (NK.ofN (F := fun u b => RU P ρ W H u (.ref b)) hx hk) r]
            obtain ⟨z1, z2⟩ := valN hx q
            cases ev : valV kv q with
            | none => rw [z1 ev]; rfl
            | some v => obtain ⟨p, e', _⟩ := z2 v ev; rw [e']; rfl
          cases neg with
          | false => exact in_keyed (room8 hu _ _) hi h1 ⟨xs, h3, rfl⟩ ⟨.bl _, H, I.tok _, by rw [e1]; rfl, k.now rh (.bl _)⟩
          | true => exact notIn_keyed (room8 hu _ _) hi h1 ⟨xs, h3, rfl⟩ ⟨.bl _, H, I.tok _, by rw [e1]; rfl, k.now rh (.bl _)⟩
      · cases e
    · cases e
  · cases e
/-! ### d[k] -/
def gIxN : G2 := fun h a b => match a with
  | .ref n => match h.m n with
    | some (.dN ks us) => match sortN ks b with
      | true => lookN ks us b
      | false => none
    | _ => none
  | _ => none
theorem ixN_ok (hK : X.K = P.K) (hW : X.w = P.w) (hP : X.prog = P.pg) (hu : X.A.units + 64 < cLine) : IxR X (rOf P gIxN) := by
  intro value slice pins s σ H x y v u Q I rx ry ⟨ρ, W, hp, a, b, r, rh, ra, rb, e, k⟩ hs0
  unfold gIxN at e
  split at e
  · split at e
    · rename_i n ks us eo
      split at e
      · rename_i hs
        obtain ⟨d, rfl, hn, ro⟩ := dnRef rh ra eo
        cases (show v = .ref d from rx)
        obtain ⟨_, _, _, _, q, hq⟩ := sortN_ok hs
        rcases ro.cut hs hq with ⟨ht, kv, kvs, h, hv, hk, r2⟩ | ⟨ht, kv, xs, h, hx, hk, nd, r2⟩
        · obtain ⟨h1, h2, h3⟩ := nV_at hW hP I h
          have hi : NvS q u := nk_nv (nk_is hK I 8 b y q u hq rb ry) (nk_flat hq ht)
          obtain ⟨w, ew, rw'⟩ := (lookN_ok hq (NK.ofV hk) r2).2 _ e
          obtain ⟨w', hw, rr⟩ := RelO.some_of (v := w) (o := valueAt kvs q) (by rw [← ew]; exact hv.val q)
          exact tail_any h3.typeIs slot_dict_getitem.lookup (wpAny_getItem_of (knd := nvKind X.prog X.w) (nv_of hi) h3.mapOf hw ⟨w, H, I.tok _, rr, k.now rh rw'⟩) hs0
        · obtain ⟨h1, h2, h3⟩ := nN_at hK hW I h hk nd
          obtain ⟨c, rfl⟩ := nk_ref hq rb ht
          cases (show u = .ref c from ry)
          have hi : (nestedKind X.prog X.w).is s.heap q c := ⟨nk_is hK I 8 b _ q _ hq rb rfl, toNk_depth 8 b q hq⟩
          obtain ⟨w, ew, rw'⟩ := (lookN_ok hq (NK.ofN (F := fun u b => RU P ρ W H u (.ref b)) hx hk) r2).2 _ e
          obtain ⟨p, ep, rp⟩ := (valN hx q).2 w ew
          exact tail_any h3.typeIs slot_dict_getitem.lookup (wpAny_getItem_heap (room8 hu _ _) hi h3 ep ⟨w, H, I.tok _, rp, k.now rh rw'⟩) hs0
      · cases e
    · cases e
  · cases e
/-! ### d[k] = v -/
theorem setV_sem (hW : X.w = P.w) (hP : X.prog = P.pg) {kv : List (NestedKey × V)} {kvs : List (NestedKey × Value)} (h : H a = some (.ext (rawV P.pg P.w a kvs))) (hv : KV kv kvs) (hz : kvs.length + 1 ≤ sizeLine) (I : Inv X pins σ H s) {q : NestedKey} {iv u : Value} {v : V} (hi : NvS q iv) (rv : RelV v u)
    {Q : Hp → Prop} (k : ∀ kvs', KV (putK kv q v) kvs' → Q (upd H a (.ext (rawV P.pg P.w a kvs')))) : wpAny (model X.prog X.w) X.A (setItem (.ref a) iv u) (fun _ s' => ∃ H', Inv X pins σ H' s' ∧ Q H') X.xe s := by
  obtain ⟨hd, hz0, dd⟩ := nV_at hW hP I h
  refine wpAny_setItem_pairs (hsz := hz0) (nv_of hi) dd fun h' dd' hs => ⟨_, d_write I (by rw [h]; exact True.intro) hs ?_ (ob := .ext (rawV P.pg P.w a (stored kvs q u))) ?_, k _ (hv.put q rv)⟩
  · obtain ⟨o, es, ep, ho, _⟩ := dd'
    exact ⟨o, ho⟩
  · refine rawV_ok ⟨hd, Nat.le_trans (stored_length_le kvs q u) hz, ?_⟩
    rw [← hP, ← hW]
    exact dd'
theorem storedN {kv : List (NestedKey × V)} {xs : List (NestedKey × Addr × Value)} (h : Paired (fun (p : NestedKey × V) (q : NestedKey × Addr × Value) => p.1 = q.1 ∧ RelV p.2 q.2.2) kv xs) (k : NestedKey) (b : Addr) {v : V} {u : Value} (rv : RelV v u) :
    Paired (fun (p : NestedKey × V) (q : NestedKey × Addr × Value) => p.1 = q.1 ∧ RelV p.2 q.2.2) (putK kv k v) (storedH xs k b u) := by
  have an : (kv.any fun q => decide (q.1 = k)) = (atKey xs k).isSome := by
    rw [valV_any]
    obtain ⟨z1, z2⟩ := valN h k
    cases ev : valV kv k with
    | none => rw [z1 ev]; rfl
    | some w => obtain ⟨p, e, _⟩ := z2 w ev; rw [e]; rfl
  unfold putK storedH
  rw [an]
  cases (atKey xs k).isSome with
  | true =>
    rw [if_pos rfl, if_pos rfl]
    clear an
    induction h with
    | nil => exact .nil
    | @cons p q l1 l2 c t ih =>
      rw [List.map_cons, List.map_cons]
      refine .cons ?_ ih
      unfold putAt
      by_cases e : p.1 = k
      · rw [if_pos e, if_pos (c.1 ▸ e)]
        exact ⟨c.1, rv⟩
      · rw [if_neg e, if_neg (c.1 ▸ e)]
        exact c
  | false =>
    rw [if_neg (by decide), if_neg (by decide)]
    clear an
    induction h with
    | nil => exact .cons ⟨rfl, rv⟩ .nil
    | cons c t ih => exact .cons c ih
theorem storedN_keys {xs : List (NestedKey × Addr × Value)} {ks : List U} {F : U → Addr → Prop} {x w : U} {k : NestedKey} (ek : toNk 8 x = some k) {us : List U} {b : Addr} (fb : F x b) (u : Value) {kv : List (NestedKey × V)} (hx : Paired (fun (p : NestedKey × V) (q : NestedKey × Addr × Value) => p.1 = q.1 ∧ RelV p.2 q.2.2) kv xs)
    (hk : Paired (fun u (q : NestedKey × Addr × Value) => toNk 8 u = some q.1 ∧ F u q.2.1) ks xs) : Paired (fun u (q : NestedKey × Addr × Value) => toNk 8 u = some q.1 ∧ F u q.2.1) (putN ks us x w).1 (storedH xs k b u) := by
  have an : (atKey xs k).isSome = memQ x ks := by
    rw [← memQ_ok ek (NK.ofN hx hk), valV_any]
    obtain ⟨z1, z2⟩ := valN hx k
    cases ev : valV kv k with
    | none => rw [z1 ev]; rfl
    | some w => obtain ⟨p, e, _⟩ := z2 w ev; rw [e]; rfl
  unfold putN storedH
  rw [an]
  cases memQ x ks with
  | true =>
    rw [if_pos rfl]
    clear an hx
    show Paired _ ks (xs.map (putAt k u))
    induction hk with
    | nil => exact .nil
    | @cons a q l1 l2 c t ih =>
      rw [List.map_cons]
      refine .cons ?_ ih
      unfold putAt
      split <;> exact c
  | false =>
    rw [if_neg (by decide)]
    clear an hx
    show Paired _ (ks ++ [x]) (xs ++ [(k, b, u)])
    induction hk with
    | nil => exact .cons ⟨ek, fb⟩ .nil
    | cons c t ih => exact .cons c ih
theorem storedH_len (xs : List (NestedKey × Addr × Value)) (k : NestedKey) (b : Addr) (u : Value) : (storedH xs k b u).length ≤ xs.length + 1 := by
  unfold storedH
  split
  · rw [List.length_map]; omega
  · rw [List.length_append]; simp
theorem setN_sem (hK : X.K = P.K) (hW : X.w = P.w) (hu : X.A.units + 64 < cLine) {ks : List U} {xs : List (NestedKey × Addr × Value)} (h : H a = some (.ext (rawN P.w a xs))) (hk : Paired (fun u (q : NestedKey × Addr × Value) => toNk 8 u = some q.1 ∧ RU P ρ W H u (.ref q.2.1)) ks xs) (nd : (xs.map (·.1)).Nodup) (hz : xs.length + 1 ≤ sizeLine) (I : Inv X pins σ H s)
    {i : U} {q : NestedKey} {b : Addr} {u : Value} (hq : toNk 8 i = some q) (ri : RU P ρ W H i (.ref b)) {Q : Hp → Prop} (k : ((storedH xs q b u).map (·.1)).Nodup → Q (upd H a (.ext (rawN P.w a (storedH xs q b u))))) :
    wpAny (model X.prog X.w) X.A (setItem (.ref a) (.ref b) u) (fun _ s' => ∃ H', Inv X pins σ H' s' ∧ Q H') X.xe s := by
  obtain ⟨hd, hz0, dd⟩ := nN_at hK hW I h hk nd
  have hi : (nestedKind X.prog X.w).is s.heap q b := ⟨nk_is hK I 8 i _ q _ hq ri rfl, toNk_depth 8 i q hq⟩
  refine wpAny_setItem_heap (hsz := hz0) (room8 hu _ _) hi dd fun h' dd' hs => ?_
  obtain ⟨o, es, ep, ho, hc, hdat, he, _, nd'⟩ := dd'
  refine ⟨_, d_write I (by rw [h]; exact True.intro) hs ⟨o, ho⟩ (ob := .ext (rawN P.w a (storedH xs q b u))) ?_, k nd'⟩
  refine rawN_ok ⟨hd, Nat.le_trans (storedH_len xs q b u) hz, o, es, ep, ho, hc, hdat, ?_⟩
  rw [he, ← hW]
  rfl
end
end M7
end

noncomputable section
namespace M7
open PySem PySem.Spec PyProof.Rows L2
/-- a key that is a number or a text -/
def nkOf : Key → NestedKey
  | .inl i => .num i
  | .inr x => .text x
theorem nkOf_inj {a b : Key} (h : nkOf a = nkOf b) : a = b := by
  cases a <;> cases b <;> simp only [nkOf] at h <;> first | (cases h; rfl) | cases h
theorem nkOf_is {k : Key} {v : Value} (h : keyIs k v = true) : NvS (nkOf k) v := by
  rcases keyIs_shape h with ⟨i, t, rfl, rfl⟩ | ⟨x, t, rfl, rfl⟩
  · exact .int i t
  · exact .str x t
theorem nkOf_hash (w : World) (k : Key) : (nkOf k).hash w = keyH w k := by
  cases k <;> rfl
section
variable {P : Par} {ρ ρ1 ρ' ρ'' : List Addr} {W W' W'' : WS} {W0 : FW} {H H1 H' H'' : Hp} {hp hp' : HP} {E : XK} {Q : VK} {X : Cx} {pos : Pos} {D : Ends} {σ' : SS} {σ : L2.St} {pins : List (Addr × Obj)} {s : Shared} {a : Addr}
theorem pairs_nk {pg : Program} {w : World} : ∀ {es : List DictEntry} {vs : List (Key × Value)}, Pairs (mixKind pg w) es vs → Pairs (nvKind pg w) es (vs.map fun q => (nkOf q.1, q.2))
  | _, _, .nil => .nil
  | _, _, .cons h e t => .cons (nv_of (nkOf_is h)) e (pairs_nk t)
theorem dictOf_nk {pg : Program} {w : World} {h : Heap} {vs : List (Key × Value)} (x : h.DictOf (mixKind pg w) a vs) : h.DictOf (nvKind pg w) a (vs.map fun q => (nkOf q.1, q.2)) := by
  obtain ⟨o, es, ep, ho, hc, hd, hk, hp, nd⟩ := x
  refine ⟨o, es, ep, ho, hc, hd, fun e he => ?_, pairs_nk hp, ?_⟩
  · obtain ⟨k, h1, h2⟩ := hk e he
    exact ⟨nkOf k, nv_of (nkOf_is h1), by rw [h2]; exact (nkOf_hash w k).symm⟩
  · rw [List.map_map]
    have e : (vs.map ((fun q : NestedKey × Value => q.1) ∘ fun q : Key × Value => (nkOf q.1, q.2))) = (vs.map (·.1)).map nkOf := by rw [List.map_map]; rfl
    rw [e]
    exact nd.map (f := nkOf) (fun x y z q => z (nkOf_inj q))
theorem kv_nk {kv : List (Key × V)} {vs : List (Key × Value)} (rel : KV kv vs) : KV (kv.map fun p => (nkOf p.1, p.2)) (vs.map fun q => (nkOf q.1, q.2)) := by
  induction rel with
  | nil => exact .nil
  | cons c t ih => exact .cons ⟨congrArg nkOf c.1, c.2⟩ ih
/-- None into a dict of numbers and texts -/
theorem setC_sem (hW : X.w = P.w) (hP : X.prog = P.pg) {kv : List (Key × V)} (h : H a = some (.dK kv)) (hz : kv.length + 1 ≤ sizeLine) (I : Inv X pins σ H s) {q : NestedKey} {iv u : Value} {v : V} (hi : NvS q iv) (rv : RelV v u)
    {Q : Hp → Prop} (k : ∀ kvs', KV (putK (kv.map fun p => (nkOf p.1, p.2)) q v) kvs' → Q (upd H a (.ext (rawV P.pg P.w a kvs')))) : wpAny (model X.prog X.w) X.A (setItem (.ref a) iv u) (fun _ s' => ∃ H', Inv X pins σ H' s' ∧ Q H') X.xe s := by
  obtain ⟨_, hd, vs, rel, dd0⟩ := (show kv.length ≤ sizeLine ∧ (a == sysModules) = false ∧ ∃ vs, KV kv vs ∧ s.heap.DictOf (mixKind X.prog X.w) a vs from I.hok a _ h)
  have dd := dictOf_nk dd0
  have hl : vs.length = kv.length := (KV.length rel).symm
  have rel2 := kv_nk rel
  refine wpAny_setItem_pairs (hsz := by rw [List.length_map]; omega) (nv_of hi) dd fun h' dd' hs => ⟨_, d_write I (by rw [h]; exact True.intro) hs ?_ (ob := .ext (rawV P.pg P.w a (stored (vs.map fun q => (nkOf q.1, q.2)) q u))) ?_, k _ (rel2.put q rv)⟩
  · obtain ⟨o, es, ep, ho, _⟩ := dd'
    exact ⟨o, ho⟩
  · refine rawV_ok ⟨hd, Nat.le_trans (stored_length_le _ q u) (by rw [List.length_map]; omega), ?_⟩
    rw [← hP, ← hW]
    exact dd'
/-- a first tuple into an empty dict -/
theorem setE_sem (hK : X.K = P.K) (hW : X.w = P.w) (hu : X.A.units + 64 < cLine) (h : H a = some (.dK [])) (I : Inv X pins σ H s) {i : U} {q : NestedKey} {b : Addr} {u : Value} (hq : toNk 8 i = some q) (ri : RU P ρ W H i (.ref b))
    {Q : Hp → Prop} (k : Q (upd H a (.ext (rawN P.w a [(q, b, u)])))) : wpAny (model X.prog X.w) X.A (setItem (.ref a) (.ref b) u) (fun _ s' => ∃ H', Inv X pins σ H' s' ∧ Q H') X.xe s := by
  obtain ⟨_, hd, vs, rel, o, es, ep, ho, hc, hdat, _, hp, _⟩ := (show ([] : List (Key × V)).length ≤ sizeLine ∧ (a == sysModules) = false ∧ ∃ vs, KV [] vs ∧ s.heap.DictOf (mixKind X.prog X.w) a vs from I.hok a _ h)
  cases rel
  have he : es.toList = [] := by
    generalize es.toList = l at hp
    cases hp
    rfl
  have dd : s.heap.DictOfH (nestedKind X.prog X.w) a [] := ⟨o, es, ep, ho, hc, hdat, he, (by intro x hx; cases hx), .nil⟩
  have hi : (nestedKind X.prog X.w).is s.heap q b := ⟨nk_is hK I 8 i _ q _ hq ri rfl, toNk_depth 8 i q hq⟩
  refine wpAny_setItem_heap (hsz := Nat.zero_le _) (room8 hu _ _) hi dd fun h' dd' hs => ?_
  obtain ⟨o, es, ep, ho, hc, hdat, he, _, nd'⟩ := dd'
  refine ⟨_, d_write I (by rw [h]; exact True.intro) hs ⟨o, ho⟩ (ob := .ext (rawN P.w a [(q, b, u)])) ?_, k⟩
  refine rawN_ok ⟨hd, (by rw [sizeLine_eq]; show 1 ≤ 16777216; decide), o, es, ep, ho, hc, hdat, ?_⟩
  rw [he, ← hW]
  rfl
/-! ### o[i] = v, as data -/
def putO2 (o : O) (i v : U) : Option O := match o with
  | .dK ks us => match Nat.blt ks.length 16777216 with
    | true => match i with
      | .non => some (.dN (putN (ks.map uOfK) us .non v).1 (putN (ks.map uOfK) us .non v).2)
      | .tup xs => match ks, us with
        | [], [] => match toNk 8 (.tup xs) with
          | some _ => some (.dN [.tup xs] [v])
          | none => none
        | _, _ => none
      | _ => none
    | false => none
  | .dN ks us => match sortN ks i with
    | true => match Nat.blt ks.length 16777216 with
      | true => some (.dN (putN ks us i v).1 (putN ks us i v).2)
      | false => none
    | false => none
  | _ => none
theorem uOfK_nk (k : KU) : toNk 8 (uOfK k) = some (nkOf k.key) := by cases k <;> rfl
theorem Paired.len {α β : Type} {F : α → β → Prop} {as : List α} {bs : List β} (h : Paired F as bs) : as.length = bs.length := Paired.length h
theorem NK.flat {ks : List U} {kv : List (NestedKey × V)} (h : NK ks kv) (f : ∀ u ∈ ks, isTupU u = false) : Paired (fun u q => toNk 8 u = some q ∧ q.depth = 0) ks (kv.map (·.1)) := by
  induction h with
  | nil => exact .nil
  | @cons u p l1 l2 c t ih => exact .cons ⟨c, nk_flat c (f u List.mem_cons_self)⟩ (ih fun x hx => f x (List.mem_cons_of_mem _ hx))
theorem putN_mem {ks us : List U} {x w u : U} (h : u ∈ (putN ks us x w).1) : u ∈ ks ∨ u = x := by
  unfold putN at h
  split at h
  · exact .inl h
  · rcases List.mem_append.mp h with z | z
    · exact .inl z
    · exact .inr (by simpa using z)
theorem flat_of {ks : List U} {qs : List NestedKey} (h : Paired (fun u q => toNk 8 u = some q ∧ q.depth = 0) ks qs) : ∀ u ∈ ks, isTupU u = false := by
  induction h with
  | nil => intro u hu; cases hu
  | @cons a q l1 l2 c t ih =>
    intro u hu
    rcases List.mem_cons.mp hu with e | e
    · subst e
      cases z : isTupU u with
      | false => rfl
      | true => exact absurd c.2 (nk_tup c.1 z)
    · exact ih u e
/-- the store as a step of the real heap -/
theorem set2_ok (hK : X.K = P.K) (hW : X.w = P.w) (hP : X.prog = P.pg) (hu : X.A.units + 64 < cLine) (rh : RH P ρ W hp H) {n : Nat} {o o' : O} {x y z : V} {i v : U} {Q' : Hp → Prop} (hn : RU P ρ W H (.ref n) x) (ri : RU P ρ W H i y) (rv : RU P ρ W H v z) (eo : hp.m n = some o) (e : putO2 o i v = some o')
    (k : ∀ H', Ext ρ H ρ H' → RH P ρ W (hp.set n o') H' → (∀ σ' σ W0, RSl P ρ W0 W H σ' σ → RSl P ρ W0 W H' σ' σ) → Q' H') {ov iv u : Value} (I : Inv X pins σ H s) (r1 : RelV x ov) (r2 : RelV y iv) (r3 : RelV z u) :
    wpAny (model X.prog X.w) X.A (setItem ov iv u) (fun _ s' => ∃ H', Inv X pins σ H' s' ∧ Q' H') X.xe s := by
  cases hn with
  | @ref _ a hn =>
    obtain ⟨b, hb, ro⟩ := rh.obj _ _ eo
    rw [hn] at hb
    cases hb
    have ha := List.mem_of_getElem? hn
    cases (show ov = .ref a from r1)
    unfold putO2 at e
    split at e
    · rename_i ks us
      split at e
      · rename_i hl
        cases ro with
        | @dK _ _ kvs h hk r =>
          have hlen : kvs.length = ks.length := by simpa using congrArg List.length hk
          have hz : kvs.length + 1 ≤ sizeLine := by rw [sizeLine_eq, hlen]; exact Nat.le_of_ble_eq_true hl
          split at e
          · cases e
            cases ri
            cases (show iv = .none from r2)
            refine setC_sem hW hP h hz I (q := .none) .non r3 fun kvs' hv' => ?_
            have nk0 : NK (ks.map uOfK) (kvs.map fun p => (nkOf p.1, p.2)) := by
              clear r h hz hlen hl eo k hv'
              induction ks generalizing kvs with
              | nil =>
                cases kvs with
                | nil => exact .nil
                | cons p q => cases hk
              | cons c cs ih =>
                cases kvs with
                | nil => cases hk
                | cons p q =>
                  rw [List.map_cons, List.map_cons] at hk
                  injection hk with e1 e2
                  exact .cons (by rw [uOfK_nk]; exact congrArg (fun z => some (nkOf z)) e1.symm) (ih e2)
            have r0 : RUs P ρ W H us ((kvs.map fun p => (nkOf p.1, p.2)).map (·.2)) := by
              rw [List.map_map]
              exact r
            have st : Stay ρ W H ρ W (upd H a (.ext (rawV P.pg P.w a kvs'))) := stay_at (.inl ha)
            obtain ⟨g1, g2⟩ := putN_ok (x := .non) (k := .none) rfl rv nk0 r0
            have fl : ∀ u ∈ (putN (ks.map uOfK) us .non v).1, isTupU u = false := fun u hu => by
              rcases putN_mem hu with z | z
              · obtain ⟨c, _, rfl⟩ := List.mem_map.mp z
                cases c <;> rfl
              · subst z; rfl
            exact k _ (Ext.refSet h ha) (rh.refSet hn h (.dV upd_same hv' (g1.flat fl) (RUs.stay st g2))) fun σ' σ W0 rs => rs.refSet rh ha ⟨_, h, by intro _ _ z; cases z⟩
          · rename_i xs
            split at e
            · split at e
              · rename_i q hq
                cases e
                cases kvs with
                | cons p r => cases hk
                | nil =>
                  obtain ⟨b, rfl⟩ := nk_ref hq ri rfl
                  cases (show iv = .ref b from r2)
                  refine setE_sem hK hW hu h I hq ri ?_
                  have st : Stay ρ W H ρ W (upd H a (.ext (rawN P.w a [(q, b, u)]))) := stay_at (.inl ha)
                  exact k _ (Ext.refSet h ha) (rh.refSet hn h (.dN upd_same (kv := [(q, z)]) (.cons ⟨rfl, r3⟩ .nil) (.cons ⟨hq, ri.stay st⟩ .nil) (by simp) (.cons (rv.stay st) .nil))) fun σ' σ W0 rs => rs.refSet rh ha ⟨_, h, by intro _ _ z; cases z⟩
              · cases e
            · cases e
          · cases e
      · cases e
    · rename_i ks us
      split at e
      · rename_i hs
        split at e
        · rename_i hl
          cases e
          obtain ⟨_, _, _, _, q, hq⟩ := sortN_ok hs
          rcases ro.cut hs hq with ⟨ht, kv, kvs, h, hv, hk, r⟩ | ⟨ht, kv, xs, h, hx, hk, nd, r⟩
          · have hlen : kvs.length = ks.length := by
              rw [← KV.length hv, Paired.length hk, List.length_map]
            have hz : kvs.length + 1 ≤ sizeLine := by rw [sizeLine_eq, hlen]; exact Nat.le_of_ble_eq_true hl
            have hi : NvS q iv := nk_nv (nk_is hK I 8 i y q iv hq ri r2) (nk_flat hq ht)
            refine setV_sem hW hP h hv hz I hi r3 fun kvs' hv' => ?_
            have st : Stay ρ W H ρ W (upd H a (.ext (rawV P.pg P.w a kvs'))) := stay_at (.inl ha)
            obtain ⟨g1, g2⟩ := putN_ok hq rv (NK.ofV hk) r
            have fl : ∀ u ∈ (putN ks us i v).1, isTupU u = false := fun u hu => by
              rcases putN_mem hu with z | z
              · exact flat_of hk u z
              · subst z; exact ht
            exact k _ (Ext.refSet h ha) (rh.refSet hn h (.dV upd_same hv' (g1.flat fl) (RUs.stay st g2))) fun σ' σ W0 rs => rs.refSet rh ha ⟨_, h, by intro _ _ z; cases z⟩
          · have hlen : xs.length = ks.length := (Paired.length hk).symm
            have hz : xs.length + 1 ≤ sizeLine := by rw [sizeLine_eq, hlen]; exact Nat.le_of_ble_eq_true hl
            obtain ⟨b, rfl⟩ := nk_ref hq ri ht
            cases (show iv = .ref b from r2)
            refine setN_sem hK hW hu h hk nd hz I hq ri fun nd' => ?_
            have st : Stay ρ W H ρ W (upd H a (.ext (rawN P.w a (storedH xs q b u)))) := stay_at (.inl ha)
            obtain ⟨g1, g2⟩ := putN_ok hq rv (NK.ofN (F := fun u b => RU P ρ W H u (.ref b)) hx hk) r
            have g3 := storedN_keys (F := fun u b => RU P ρ W H u (.ref b)) (w := v) (us := us) hq ri u hx hk
            exact k _ (Ext.refSet h ha) (rh.refSet hn h (.dN upd_same (storedN hx q b r3) (Paired.mapP g3 fun _ _ z => ⟨z.1, z.2.stay st⟩) nd' (RUs.stay st g2))) fun σ' σ W0 rs => rs.refSet rh ha ⟨_, h, by intro _ _ z; cases z⟩
        · cases e
      · cases e
    · cases e
end
end M7
end

noncomputable section
namespace M7
open PySem PySem.Spec PyProof.Rows L2

section
variable {P : Par} {ρ ρ1 ρ' ρ'' : List Addr} {W W' W'' : WS} {W0 : FW} {H H1 H' H'' : Hp} {hp hp' : HP} {E : XK} {Q : VK} {X : Cx} {pos : Pos} {D : Ends} {σ' : SS} {σ : L2.St}
/-- a dict of the logical heap -/
theorem dictRef (rh : RH P ρ W hp H) {n : Nat} {v : V} {ks : List KU} {us : List U} (r : RU P ρ W H (.ref n) v) (e : hp.m n = some (.dK ks us)) : ∃ a kvs, v = .ref a ∧ ρ[n]? = some a ∧ H a = some (.dK kvs) ∧ RKV P ρ W H ks us kvs := by
  cases r with
  | @ref _ a h =>
    obtain ⟨b, hb, ro⟩ := rh.obj _ _ e
    rw [h] at hb
    cases hb
    cases ro with
    | dK hl hk rl => exact ⟨_, _, rfl, h, hl, hk, rl⟩
def gInD : G2 := fun h a b => match b with
  | .ref n => match h.m n with
    | some (.dK ks us) => (keyU a).map fun k => .bl (lookK ks us k).isSome
    | _ => none
  | _ => none
def gNotInD : G2 := fun h a b => match b with
  | .ref n => match h.m n with
    | some (.dK ks us) => (keyU a).map fun k => .bl (!(lookK ks us k).isSome)
    | _ => none
  | _ => none
theorem dget_of {ks : List KU} {us : List U} {kvs : List (Key × V)} {a : Addr} {k : KU} (h : H a = some (.dK kvs)) (r : RKV P ρ W H ks us kvs) : ∃ o, DGet H a (kV k.key) o ∧ o.isSome = (lookK ks us k).isSome := by
  refine ⟨_, DGet.k h, ?_⟩
  obtain ⟨h1, h2⟩ := lookK_ok (x := k) r
  cases e : lookK ks us k with
  | none => rw [h1 e]; rfl
  | some u => obtain ⟨v, e', _⟩ := h2 u e; rw [e']; rfl
theorem om_inD (hu : X.A.units + 1 < cLine) : OpM P X (compareOp .In) gInD := by
  intro pins s σ H x y v u Q ρ W hp a b r I rx ry rh ra rb e k
  unfold gInD at e
  split at e
  · split at e
    · rename_i n ks us eo
      obtain ⟨kk, ek, rfl⟩ := Option.map_eq_some_iff.mp e
      obtain ⟨p, kvs, rfl, _, h, rk⟩ := dictRef rh rb eo
      have := keyU_ok ra ek
      subst this
      obtain ⟨o, g, eo'⟩ := dget_of (k := kk) h rk
      obtain rfl : u = Value.ref p := ry
      exact d_in hu I g rx fun s3 I3 => ⟨.bl o.isSome, H, I3, rfl, by rw [eo']; exact k.now rh (.bl _)⟩
    · cases e
  · cases e
theorem om_notInD (hu : X.A.units + 1 < cLine) : OpM P X (compareOp .NotIn) gNotInD := by
  intro pins s σ H x y v u Q ρ W hp a b r I rx ry rh ra rb e k
  unfold gNotInD at e
  split at e
  · split at e
    · rename_i n ks us eo
      obtain ⟨kk, ek, rfl⟩ := Option.map_eq_some_iff.mp e
      obtain ⟨p, kvs, rfl, _, h, rk⟩ := dictRef rh rb eo
      have := keyU_ok ra ek
      subst this
      obtain ⟨o, g, eo'⟩ := dget_of (k := kk) h rk
      obtain rfl : u = Value.ref p := ry
      exact d_notIn hu I g rx fun s3 I3 => ⟨.bl (!o.isSome), H, I3, rfl, by rw [eo']; exact k.now rh (.bl _)⟩
    · cases e
  · cases e
/-- d[k] -/
def gIxD : G2 := fun h a b => match a with
  | .ref n => match h.m n with
    | some (.dK ks us) => (keyU b).bind fun k => lookK ks us k
    | _ => none
  | _ => none
theorem ixD_ok (hu : X.A.units + 1 < cLine) : IxR X (rOf P gIxD) := by
  intro value slice pins s σ H x y v u Q I rx ry ⟨ρ, W, hp, a, b, r, rh, ra, rb, e, k⟩ hs
  unfold gIxD at e
  split at e
  · split at e
    · rename_i n ks us eo
      obtain ⟨kk, ek, el⟩ := Option.bind_eq_some_iff.mp e
      obtain ⟨p, kvs, rfl, _, h, rk⟩ := dictRef rh ra eo
      have := keyU_ok rb ek
      subst this
      obtain ⟨w, ew, rw'⟩ := (lookK_ok (x := kk) rk).2 _ el
      obtain rfl : v = Value.ref p := rx
      have g : DGet H p (kV kk.key) (some w) := by rw [← ew]; exact DGet.k h
      exact tail_any (dict_typeIs I g) slot_dict_getitem.lookup (d_getItem hu I g ry fun w' s3 I3 rw2 => ⟨w, H, I3, rw2, k.now rh rw'⟩) hs
    · cases e
  · cases e
theorem ix_or {g g' : G2} (h : IxR X (rOf P g)) (h' : IxR X (rOf P g')) : IxR X (rOf P (gOr g g')) := by
  intro value slice pins s σ H x y v u Q I rx ry ⟨ρ, W, hp, a, b, r, rh, ra, rb, e, k⟩ hs
  unfold gOr at e
  split at e
  · rename_i r' er
    cases e
    exact h value slice pins s σ H x y v u Q I rx ry ⟨ρ, W, hp, a, b, _, rh, ra, rb, er, k⟩ hs
  · exact h' value slice pins s σ H x y v u Q I rx ry ⟨ρ, W, hp, a, b, r, rh, ra, rb, e, k⟩ hs
/-- a[b], of a text, list, tuple or dict -/
def gIxA : G2 := gOr gIx (gOr gIxD gIxN)
def eIxA (ma mb : ME) : ME := eBin gIxA ma mb
theorem tM_ixA {a b : Expr} {ma mb : ME} (hu : X.A.units + 64 < cLine) (hK : X.K = P.K) (hW : X.w = P.w) (hP : X.prog = P.pg) (ha : PE X a (tM P E ma)) (hb : PE X b (tM P E mb)) (hs : PlainIx b) : PE X (.Subscript a b pos) (tM P E (eIxA ma mb)) :=
  ⟨fun pins s σ H Q I q => (pe_ix (ix_or (ix_ok hK) (ix_or (ixD_ok (by omega)) (ixN_ok hK hW hP hu))) ha hb hs).run pins s σ H Q I (tOp_of q)⟩

/-! ### o[i] = v -/
/-- an object of the logical heap behind it -/
def putO1 (o : O) (i v : U) : Option O := match o with
  | .lst us => match i with
    | .int k => (ixN us.length k).map fun j => .lst (us.set j v)
    | _ => none
  | .dK ks us => match keyU i with
    | some k => match Nat.blt ks.length 16777216 with
      | true => some (.dK (putKU ks us k v).1 (putKU ks us k v).2)
      | false => none
    | none => none
  | _ => none
def putO (o : O) (i v : U) : Option O := match putO1 o i v with
  | some r => some r
  | none => putO2 o i v
theorem RUs.set : ∀ {us : List U} {vs : List V} (j : Nat) {u : U} {v : V}, RUs P ρ W H us vs → RU P ρ W H u v → RUs P ρ W H (us.set j u) (vs.set j v)
  | _, _, _, _, _, .nil, _ => .nil
  | _, _, 0, _, _, .cons r t, h => .cons h t
  | _, _, j + 1, _, _, .cons r t, h => .cons r (RUs.set j t h)
def tSetM (X : Cx) : TSet := fun o i v H Q => (rSetL o i v H Q ∨ rSetD o i v H Q) ∨ ∀ (pins : List (Addr × Obj)) (s : Shared) (σ : L2.St) (ov iv u : Value), Inv X pins σ H s → RelV o ov → RelV i iv → RelV v u → wpAny (model X.prog X.w) X.A (setItem ov iv u) (fun _ s' => ∃ H', Inv X pins σ H' s' ∧ Q H') X.xe s
theorem set_any (hu : X.A.units + 1 < cLine) : PSet X (tSetM X) := fun pins s σ H o i v ov iv u Q I ro ri rv h => by
  rcases h with (h | h) | h
  · exact set_list pins s σ H o i v ov iv u Q I ro ri rv h
  · exact set_dict hu pins s σ H o i v ov iv u Q I ro ri rv h
  · exact h pins s σ ov iv u I ro ri rv
theorem fits_lt' {n : Nat} (h : fits n = true) : n ≤ sizeLine := fits_le h
theorem setM1_ok (rh : RH P ρ W hp H) {n : Nat} {o o' : O} {x y z : V} {i v : U} {Q' : Hp → Prop} (hn : RU P ρ W H (.ref n) x) (ri : RU P ρ W H i y) (rv : RU P ρ W H v z) (eo : hp.m n = some o) (e : putO1 o i v = some o')
    (k : ∀ H', Ext ρ H ρ H' → RH P ρ W (hp.set n o') H' → (∀ σ' σ W0, RSl P ρ W0 W H σ' σ → RSl P ρ W0 W H' σ' σ) → Q' H') : rSetL x y z H Q' ∨ rSetD x y z H Q' := by
  cases hn with
  | @ref _ a hn =>
    obtain ⟨b, hb, ro⟩ := rh.obj _ _ eo
    rw [hn] at hb
    cases hb
    have ha := List.mem_of_getElem? hn
    cases ro with
    | @lst us vs h r =>
      unfold putO1 at e
      dsimp only at e
      split at e
      · rename_i kk
        obtain ⟨j, ej, rfl⟩ := Option.map_eq_some_iff.mp e
        cases ri
        refine .inl ⟨a, vs, kk, j, rfl, rfl, h, by rw [← r.length]; exact ej, ?_⟩
        have st : Stay ρ W H ρ W (upd H a (.lst (vs.set j z))) := stay_at (.inl ha)
        exact k _ (Ext.refSet h ha) (rh.refSet hn h (.lst upd_same (RUs.stay st (RUs.set j r rv)))) fun σ' σ W0 rs => rs.refSet rh ha ⟨_, h, by intro _ _ z; cases z⟩
      · cases e
    | @dK ks us kvs h hk r =>
      unfold putO1 at e
      dsimp only at e
      split at e
      · rename_i kk ek
        split at e
        · rename_i hb
          cases e
          have := keyU_ok ri ek
          subst this
          have q1 := putKU_ok (x := kk) rv ⟨hk, r⟩
          have st : Stay ρ W H ρ W (upd H a (.dK (putK kvs kk.key z))) := stay_at (.inl ha)
          refine .inr ⟨a, _, rfl, DPut.k h ?_, k _ (Ext.refSet h ha) (rh.refSet hn h (.dK upd_same q1.1 (RUs.stay st q1.2))) fun σ' σ W0 rs => rs.refSet rh ha ⟨_, h, by intro _ _ z; cases z⟩⟩
          have hl : kvs.length = ks.length := RKV.len ⟨hk, r⟩
          rw [hl, sizeLine_eq]
          exact Nat.le_of_ble_eq_true hb
        · cases e
      · cases e
    | ins h hn r => cases e
    | dV h hv hk r => cases e
    | dN h hx hk nd r => cases e
theorem setM_ok (hK : X.K = P.K) (hW : X.w = P.w) (hP : X.prog = P.pg) (hu : X.A.units + 64 < cLine) (rh : RH P ρ W hp H) {n : Nat} {o o' : O} {x y z : V} {i v : U} {Q' : Hp → Prop} (hn : RU P ρ W H (.ref n) x) (ri : RU P ρ W H i y) (rv : RU P ρ W H v z) (eo : hp.m n = some o) (e : putO o i v = some o')
    (k : ∀ H', Ext ρ H ρ H' → RH P ρ W (hp.set n o') H' → (∀ σ' σ W0, RSl P ρ W0 W H σ' σ → RSl P ρ W0 W H' σ' σ) → Q' H') : tSetM X x y z H Q' := by
  unfold putO at e
  split at e
  · rename_i r er
    cases e
    exact .inl (setM1_ok rh hn ri rv eo er k)
  · exact .inr fun pins s σ ov iv u I r1 r2 r3 => set2_ok hK hW hP hu rh hn ri rv eo e k I r1 r2 r3
end
end M7
end

noncomputable section
namespace M7
open PySem PySem.Spec PyProof.Rows L2

section
variable {P : Par} {ρ ρ1 ρ' ρ'' : List Addr} {W W' W'' : WS} {W0 : FW} {H H1 H' H'' : Hp} {hp hp' : HP} {E : XK} {Q : VK} {X : Cx} {pos : Pos} {D : Ends} {σ' : SS} {σ : L2.St}
/-! ### targets that may change the heap -/
abbrev TGt := SS → HP → U → RS
/-- what is wanted behind a store: none but nx -/
def PostG (P : Par) (ρ : List Addr) (W0 : FW) (W : WS) (H : Hp) (Q : L2.St → Hp → Prop) : RS → Prop
  | .nx σ' hp => ∀ ρ' H' σ, Ext ρ H ρ' H' → RSl P ρ' W0 W H' σ' σ → RH P ρ' W hp H' → Q σ H'
  | _ => False
def tT (P : Par) (g : TGt) : TG := fun v σ H Q => ∃ ρ W0 W σ' hp u, RSl P ρ W0 W H σ' σ ∧ RH P ρ W hp H ∧ RU P ρ W H u v ∧ PostG P ρ W0 W H Q (g σ' hp u)
abbrev TGts := SS → HP → List U → RS
def tTs (P : Par) (g : TGts) : TGs := fun vs σ H Q => ∃ ρ W0 W σ' hp us, RSl P ρ W0 W H σ' σ ∧ RH P ρ W hp H ∧ RUs P ρ W H us vs ∧ PostG P ρ W0 W H Q (g σ' hp us)
theorem PostG.from {Q : L2.St → Hp → Prop} (x : Ext ρ H ρ' H') : ∀ {r : RS}, PostG P ρ W0 W H Q r → PostG P ρ' W0 W H' Q r
  | .nx _ _, h => fun ρ2 H2 σ y rs rh => h ρ2 H2 σ (x.trans y) rs rh
  | .rt _ _, h => h
  | .ct _ _, h => h
  | .bk _ _, h => h
  | .exc _ _, h => h
  | .bad, h => h
def tgName (i : Nat) : TGt := fun σ h u => .nx (setF σ i (.val u)) h
theorem tT_name {i : Nat} {x : Str} (hN : X.N.Nodup) (hi : X.N[i]? = some x) (hx : Loc X.env.scope x) (hf : X.fn x = true ∨ X.env.scope.names.lookup x = some .local) : PG X (.Name x pos) (tT P (tgName i)) := ⟨fun pins s σ H v u Q I r h => by
  obtain ⟨ρ, W0, W, σ', hp, w, rs, rh, ru, po⟩ := h
  exact (pg_name hN hi hx hf).run pins s σ H v u Q I r (po ρ H _ Ext.refl (rs.setValF ru) rh)⟩
/-- a new list into a slot that the frame owns: no rule as a target; such are frozen -/
def R.okS (r : R) (f : U → HP → RS) : RS := match r with
  | .ok u h => f u h
  | _ => .bad
theorem tM_thenG {m : ME} {f : U → HP → RS} {Q : L2.St → Hp → Prop} (rs : RSl P ρ W0 W H σ' σ) (rh : RH P ρ W hp H) (po : PostG P ρ W0 W H Q ((m σ' hp).okS f)) {R' : VK}
    (k : ∀ ρ1 H1 u v hp1, RSl P ρ1 W0 W H1 σ' σ → RH P ρ1 W hp1 H1 → RU P ρ1 W H1 u v → Ext ρ H ρ1 H1 → PostG P ρ1 W0 W H1 Q (f u hp1) → R' v H1) : tM P E m σ H R' := by
  refine ⟨ρ, W0, W, σ', hp, rs, rh, ?_⟩
  cases e : m σ' hp with
  | ok u hp1 =>
    rw [e] at po
    exact fun ρ1 H1 v x rh1 ru => k ρ1 H1 u v hp1 (rs.ext rh x) rh1 ru x (PostG.from x po)
  | exc x hp1 => rw [e] at po; exact po.elim
  | bad => rw [e] at po; exact po.elim
/-- o[i], o in the logical heap -/
def tgSub (mo mi : ME) : TGt := fun σ h u => (mo σ h).okS fun o h1 => (mi σ h1).okS fun i h2 => match o with
  | .ref n => match h2.m n with
    | some ob => match putO ob i u with
      | some ob' => .nx σ (h2.set n ob')
      | none => .bad
    | none => .bad
  | _ => .bad
theorem tT_sub {o i : Expr} {mo mi : ME} (hu : X.A.units + 64 < cLine) (hK : X.K = P.K) (hW : X.w = P.w) (hP : X.prog = P.pg) (ho : PE X o (tM P E mo)) (hi : PE X i (tM P E mi)) (ha : ∀ v, assign (.Subscript o i pos) X.env v = (do
      let ov ← holding [v] (eval o X.env)
      let iv ← holding [v, ov] (eval i X.env)
      standAt pos
      holding [v, ov, iv] (setItem ov iv v)
      release [v, ov, iv] [])) : PG X (.Subscript o i pos) (tT P (tgSub mo mi)) := ⟨fun pins s σ H v u Q I r h => by
  obtain ⟨ρ, W0, W, σ', hp, w, rs, rh, ru, po⟩ := h
  refine (pg_sub ho hi (set_any (by omega)) ha).run pins s σ H v u Q I r (tM_thenG rs rh po fun ρ1 H1 uo vo hp1 rs1 rh1 ru1 x1 po1 => tM_thenG rs1 rh1 po1 fun ρ2 H2 ui vi hp2 rs2 rh2 ru2 x2 po2 => ?_)
  split at po2
  · rename_i n
    split at po2
    · rename_i ob eo
      split at po2
      · rename_i ob' eb
        exact setM_ok hK hW hP hu rh2 (ru1.ext x2) ru2 ((ru.ext x1).ext x2) eo eb fun H' x3 rh3 f => po2 ρ2 H' σ x3 (f σ' σ W0 rs2) rh3
      · exact po2.elim
    · exact po2.elim
  · exact po2.elim⟩
/-- o.f, o in the logical heap -/
def gAttr (K : PySem.W.Frag) (ta : TE) (f : Str) : TG := fun y σ H Q => ta σ H fun x H2 => ∃ a C dx fs, x = .ref a ∧ H2 a = some (.ins C dx fs) ∧ Cls K C ∧ NoAttr K C f ∧ fs.length < 1000 ∧ Q σ (upd H2 a (.ins C dx (putF f y fs)))
theorem pg_attr {o : Expr} {f : Str} {ta : TE} (ho : PE X o ta) : PG X (.Attribute o f pos) (gAttr X.K ta f) := ⟨fun pins s σ H v u Q I r h => by
  show wpAny _ _ (do
    let ov ← holding [u] (eval o X.env)
    standAt pos.atName
    holding [u, ov] (setAttr ov f u)
    release [u, ov] []) _ _ _
  refine wpAny_bind (wpAny_holding (thn (ho.run pins s σ H _ I h) fun ov s1 ⟨x, H1, I1, r1, a, C, dx, fs, ex, ea, c, n, l, q⟩ => ?_))
  subst ex
  obtain rfl : ov = Value.ref a := r1
  refine wpAny_bind (wpAny_standAt (wpAny_bind (wpAny_holding (setattr_ok I1 ea c n l r fun s3 I3 => ?_))))
  exact wpAny_release ⟨σ, _, I3, q⟩⟩
def tgFld (f : Nat) (Cs : List Nat) (mo : ME) : TGt := fun σ h u => (mo σ h).okS fun w h2 => match w with
  | .ref n => match h2.m n with
    | some (.ins C ns us) => match memN C Cs with
      | true => match Nat.blt ns.length 1000 with
        | true => .nx σ (h2.set n (.ins C (putU ns us f u).1 (putU ns us f u).2))
        | false => .bad
      | false => .bad
    | _ => .bad
  | _ => .bad
theorem tT_fld {o : Expr} {f : Nat} {x : Str} {Cs : List Nat} {mo : ME} (nmi : ∀ i j, P.nm i = P.nm j → i = j) (hK : X.K = P.K) (hF : FldF P f Cs) (hx : P.nm f = x) (ho : PE X o (tM P E mo)) : PG X (.Attribute o x pos) (tT P (tgFld f Cs mo)) := ⟨fun pins s σ H v u Q I r h => by
  obtain ⟨ρ, W0, W, σ', hp, w, rs, rh, ru, po⟩ := h
  refine (pg_attr ho).run pins s σ H v u Q I r (tM_thenG rs rh po fun ρ2 H2 w y hp2 rs2 rh2 ru2 x2 po2 => ?_)
  split at po2
  · rename_i n
    split at po2
    · rename_i C ns us ei
      split at po2
      · rename_i hm
        split at po2
        · rename_i hl
          obtain ⟨a, dx, fs, rfl, hn, h1, h2, h3⟩ := insRef rh2 ru2 ei
          obtain ⟨c1, c2⟩ := hF C (memN_mem hm)
          obtain ⟨p1, p2⟩ := putU_ok nmi (f := f) (ru.ext x2) h2 h3
          rw [hx] at c2 p1 p2
          have hl' : fs.length < 1000 := by rw [len_fs h2]; exact Nat.le_of_ble_eq_true hl
          refine ⟨a, _, dx, fs, rfl, h1, by rw [hK]; exact c1, by rw [hK]; exact c2, hl', ?_⟩
          have ha := List.mem_of_getElem? hn
          exact po2 ρ2 _ σ (Ext.refSet h1 ha) (rs2.refSet rh2 ha ⟨_, h1, by intro _ _ z; cases z⟩) (rh2.refSet hn h1 (.ins upd_same p1 (RUs.stay (stay_at (.inl ha)) p2)))
        · exact po2.elim
      · exact po2.elim
    · exact po2.elim
  · exact po2.elim⟩
def tgNil : TGts := fun σ h us => match us with
  | [] => .nx σ h
  | _ => .bad
def tgCons (g : TGt) (k : TGts) : TGts := fun σ h us => match us with
  | u :: r => match g σ h u with
    | .nx σ1 h1 => k σ1 h1 r
    | _ => .bad
  | [] => .bad
theorem tTs_nil : PGs X [] (tTs P tgNil) := ⟨fun pins s σ H vs us Q I r h => by
  obtain ⟨ρ, W0, W, σ', hp, ws, rs, rh, ru, po⟩ := h
  refine pgs_nil.run pins s σ H vs us Q I r ?_
  cases ru with
  | nil => exact ⟨rfl, po ρ H σ Ext.refl rs rh⟩
  | cons a b => exact po.elim⟩
theorem tTs_cons {e : Expr} {es : List Expr} {g : TGt} {k : TGts} (h1 : PG X e (tT P g)) (h2 : PGs X es (tTs P k)) (hs : (assignEach (e :: es) X.env).map (·.2) = assign e X.env :: (assignEach es X.env).map (·.2)) : PGs X (e :: es) (tTs P (tgCons g k)) := ⟨fun pins s σ H vs us Q I r h => by
  obtain ⟨ρ, W0, W, σ', hp, ws, rs, rh, ru, po⟩ := h
  refine (pgs_cons h1 h2 hs).run pins s σ H vs us Q I r ?_
  cases ru with
  | nil => exact po.elim
  | @cons u v us vs a b =>
    unfold tgCons at po
    dsimp only at po
    refine ⟨_, _, rfl, ρ, W0, W, σ', hp, _, rs, rh, a, ?_⟩
    cases eg : g σ' hp u with
    | nx σ1 h1 =>
      rw [eg] at po
      exact fun ρ1 H1 σ3 x1 rs1 rh1 => ⟨ρ1, W0, W, σ1, h1, us, rs1, rh1, RUs.ext x1 b, PostG.from x1 po⟩
    | rt u h => rw [eg] at po; exact po.elim
    | ct u h => rw [eg] at po; exact po.elim
    | bk u h => rw [eg] at po; exact po.elim
    | exc u h => rw [eg] at po; exact po.elim
    | bad => rw [eg] at po; exact po.elim⟩
def tgTup (n : Nat) (k : TGts) : TGt := fun σ h u => match u with
  | .tup us => match Nat.beq us.length n with
    | true => k σ h us
    | false => .bad
  | _ => .bad
theorem tT_tup {es : List Expr} {k : TGts} {kk n : Nat} (hK : X.K = P.K) (hc : X.calm = true) (h : PGs X es (tTs P k)) (hn : (assignEach es X.env).length = n) (hst : (assignEach es X.env).findIdx? (·.1) = none) :
    PG X (.Tuple es kk pos) (tT P (tgTup n k)) := ⟨fun pins s σ H v u Q I r hw => by
  obtain ⟨ρ, W0, W, σ', hp, w, rs, rh, ru, po⟩ := hw
  refine (pg_tup hc h hn hst).run pins s σ H v u Q I r ?_
  unfold tgTup at po
  split at po
  · rename_i us
    split at po
    · rename_i hl
      obtain ⟨a, vs, rfl, h1, h2⟩ := tupU hK ru
      exact ⟨a, vs, rfl, h1, by rw [← h2.length]; exact Nat.eq_of_beq_eq_true hl, ρ, W0, W, σ', hp, us, rs, rh, h2, po⟩
    · exact po.elim
  · exact po.elim⟩
/-- .. = a list of that length -/
def tgUnl (n : Nat) (k : TGts) : TGt := fun σ h u => match u with
  | .lst us => match Nat.beq us.length n with
    | true => k σ h us
    | false => .bad
  | _ => .bad
theorem tT_unl {es : List Expr} {k : TGts} {kk n : Nat} (hc : X.calm = true) (h : PGs X es (tTs P k)) (hn : (assignEach es X.env).length = n) (hst : (assignEach es X.env).findIdx? (·.1) = none) :
    PG X (.Tuple es kk pos) (tT P (tgUnl n k)) := ⟨fun pins s σ H v u Q I r hw => by
  obtain ⟨ρ, W0, W, σ', hp, w, rs, rh, ru, po⟩ := hw
  refine (pg_unl hc h hn hst).run pins s σ H v u Q I r ?_
  unfold tgUnl at po
  split at po
  · rename_i us
    split at po
    · rename_i hl
      cases ru with
      | @lst _ a vs h1 h2 => exact ⟨a, vs, rfl, SqL.of h1.1, by rw [← h2.length]; exact Nat.eq_of_beq_eq_true hl, ρ, W0, W, σ', hp, us, rs, rh, h2, po⟩
    · exact po.elim
  · exact po.elim⟩

/-! ### x, *r = a list -/
theorem star_list {A : Around} {E' : Value → Shared → Prop} {prog : Program} {w : World} {s : Shared} {l : Addr} {items : Array Value} {a : Value} {rest : List Value} {Q : List Value → Shared → Prop} (hl : s.heap.IsList l items) (hh : A.handled = none) (hz : items.size ≤ sizeLine) (h1 : items.toList = a :: rest)
    (h : ∀ (h' : Heap) (tk : Nat), (∀ b o, s.heap.get? b = some o → h'.get? b = some o) → Q [a, .ref h'.objs.size] { s with heap := h'.push { cls := .type "list", data := .seq rest.toArray }, toks := tk }) : wpAny (model prog w) A (unpackItems (.ref l) 2 (some 1)) Q E' s := by
  have hlt : l ≠ s.heap.objs.size := by obtain ⟨o, ho, _⟩ := hl; exact Nat.ne_of_lt (Heap.lt_size ho)
  have hll : l < s.heap.objs.size := by obtain ⟨o, ho, _⟩ := hl; exact Heap.lt_size ho
  have hsz : items.size = rest.length + 1 := by
    have := congrArg List.length h1
    simpa using this
  unfold unpackItems
  refine wpAny_bind ?_
  unfold notIterableAtAll
  refine wpAny_bind (wpAny_specialOf hl.typeIs slot_list_iter.lookup ?_)
  refine wpAny_pure ?_
  simp only [Bool.false_eq_true, if_false]
  refine wpAny_bind (wpAny_holding (wpAny_pyIter_list hl ?_))
  refine wpAny_bind (wpAny_holding (PySem.W.kun_draw hlt 1 0 _ _ ⟨_, Heap.get?_push_size _ rfl, rfl, rfl⟩ (hl.push _) (by omega) fun h₁ hit₁ hs₁ => ?_))
  have hl₁ : h₁.IsList l items := (hl.push _).extBut hs₁.extBut hlt
  rw [Nat.zero_add] at hit₁
  obtain ⟨oi, hoi, _⟩ := id hit₁
  obtain ⟨ol, hol, _⟩ := id hl₁
  rw [List.drop_zero, h1]
  show wpAny _ _ (if ([a] : List Value).length < 1 then _ else _) _ _ _
  rw [if_neg (show ¬ ([a] : List Value).length < 1 from Nat.lt_irrefl 1)]
  refine wpAny_bind (wpAny_holding (PySem.W.kun_collect (s := { s with heap := h₁ }) (T := "list_iterator") (.inr (.inr (.inl rfl))) (Walks.list (A := A.in1) hh s.heap.objs.size l hlt items) (fun j u st => st.1.typeIs) (k := 1) (by omega) ⟨hit₁, hl₁⟩ (Heap.lt_size hoi) (Heap.lt_size hol) (fun h₂ tk hk => ?_) hz))
  rw [h1]
  show wpAny _ _ (if rest.length < 0 then _ else _) _ _ _
  rw [if_neg (by omega)]
  show wpAny _ _ (newList (rest.take (rest.length - 0)) >>= fun d => pure ([a] ++ [d] ++ rest.drop (rest.length - 0))) _ _ _
  rw [Nat.sub_zero, List.take_length, List.drop_length]
  have he : ∀ b o, s.heap.get? b = some o → h₂.get? b = some o := fun b o e => by
    have hb : b ≠ s.heap.objs.size := Nat.ne_of_lt (Heap.lt_size e)
    exact hk b o hb (hs₁.extBut b o hb (Heap.get?_push_of_some _ e))
  exact wpAny_bind (wpAny_newList (wpAny_pure (h h₂ tk he)) (by omega))
/-- (x, *r) = a list -/
def gStar (K : PySem.W.Frag) (t : TGs) : TG := fun v σ H Q => ∃ a x xs, v = .ref a ∧ SqL K H a (x :: xs) ∧ ∀ p, H p = none → t [x, .ref p] σ (upd H p (.lst xs)) Q
theorem pg_star {es : List Expr} {k : Nat} {t : TGs} (hc : X.calm = true) (h : PGs X es t) (hn : (assignEach es X.env).length = 2) (hst : (assignEach es X.env).findIdx? (·.1) = some 1) : PG X (.Tuple es k pos) (gStar X.K t) := by
  refine ⟨fun pins s σ H v u Q I r hw => ?_⟩
  obtain ⟨a, x, xs, e1, hq, hw⟩ := hw
  subst e1
  cases r
  obtain ⟨its, rv, pl, hz⟩ := I.list hq
  have hl' : s.heap.IsList a its.toArray := by
    obtain ⟨o, m, e, c, d, q⟩ := pl
    exact ⟨o, e, c, m, q⟩
  cases rv with
  | @cons _ u0 _ ur rx rr =>
    have hlen := rr.length
    rw [PyProof.Rows.assign_Tuple]
    refine wpAny_bind (wpAny_standAt ?_)
    unfold unpack
    rw [hn, hst]
    refine wpAny_bind (wpAny_holding (star_list (I.ok.hd hc |> fun _ => hl') (I.ok.hd hc) (by rw [List.length_cons] at hz; simp; omega) (show (u0 :: ur).toArray.toList = u0 :: ur by simp) fun h' tk k => ?_))
    have I1 : Inv X pins σ H { s with heap := h', toks := tk } := I.kept (t' := tk) k
    have I2 : Inv X pins σ (upd H h'.objs.size (.lst xs)) { s with heap := h'.push { cls := .type "list", data := .seq ur.toArray }, toks := tk } :=
      I1.laid (t' := tk) (a := h'.objs.size) (fun b o e => Heap.get?_push_of_some _ e) (Nat.le_refl _) ⟨by rw [List.length_cons] at hz; omega, ur, 0, rr, Heap.get?_push_size _ rfl⟩
    exact h.run pins _ σ _ [x, .ref h'.objs.size] _ Q I2 (.cons rx (.cons rfl .nil)) (hw _ (I1.hok.fresh (Nat.le_refl _)))
def tgStar (k : TGts) : TGt := fun σ h u => match u with
  | .lst (a :: us) => k σ h [a, .lst us]
  | _ => .bad
theorem tT_star {es : List Expr} {k : TGts} {kk : Nat} (hc : X.calm = true) (h : PGs X es (tTs P k)) (hn : (assignEach es X.env).length = 2) (hst : (assignEach es X.env).findIdx? (·.1) = some 1) : PG X (.Tuple es kk pos) (tT P (tgStar k)) := ⟨fun pins s σ H v u Q I r hw => by
  obtain ⟨ρ, W0, W, σ', hp, w, rs, rh, ru, po⟩ := hw
  refine (pg_star hc h hn hst).run pins s σ H v u Q I r ?_
  unfold tgStar at po
  split at po
  · rename_i a us
    cases ru with
    | @lst _ p vs h1 h2 =>
      cases h2 with
      | @cons _ v0 _ vr r0 rr =>
        refine ⟨p, v0, vr, rfl, SqL.of h1.1, fun b hb => ?_⟩
        have x : Ext ρ H ρ (upd H b (.lst vr)) := Ext.fresh hb
        exact ⟨ρ, W0, W, σ', hp, _, rs.ext rh x, rh.fresh hb, .cons (r0.ext x) (.cons (RU.newLst rh hb rr) .nil), PostG.from x po⟩
  · exact po.elim⟩
/-- the last of a target list, starred -/
theorem tTs_starred {e : Expr} {p : Pos} {g : TGt} (h1 : PG X e (tT P g)) (hs : (assignEach [.Starred e p] X.env).map (·.2) = assign e X.env :: (assignEach [] X.env).map (·.2)) : PGs X [.Starred e p] (tTs P (tgCons g tgNil)) := ⟨fun pins s σ H vs us Q I r h => by
  obtain ⟨ρ, W0, W, σ', hp, ws, rs, rh, ru, po⟩ := h
  cases ru with
  | nil => exact po.elim
  | @cons u v us' vs' a b =>
    cases r with
    | cons ra rb =>
      rw [hs]
      refine assignInOrder_cons (thn (h1.run pins s σ H _ _ (fun σ1 H1 => ∃ q1 : Unit, vs' = [] ∧ Q σ1 H1) I ra ⟨ρ, W0, W, σ', hp, u, rs, rh, a, ?_⟩) fun _ s1 ⟨σ1, H1, I1, _, q1, q2⟩ => ?_)
      · unfold tgCons at po
        dsimp only at po
        cases eg : g σ' hp u with
        | nx σ1 h1 =>
          rw [eg] at po
          unfold tgNil at po
          cases us' with
          | nil =>
            cases b
            exact fun ρ1 H1 σ3 x1 rs1 rh1 => ⟨(), rfl, po ρ1 H1 σ3 x1 rs1 rh1⟩
          | cons _ _ => exact po.elim
        | rt u h => rw [eg] at po; exact po.elim
        | ct u h => rw [eg] at po; exact po.elim
        | bk u h => rw [eg] at po; exact po.elim
        | exc u h => rw [eg] at po; exact po.elim
        | bad => rw [eg] at po; exact po.elim
      · subst q1
        cases rb
        exact assignInOrder_nil ⟨σ1, H1, I1, q2⟩⟩

/-! ### the statement -/
def sAsg (m : ME) (g : TGt) : MS := fun σ h => (m σ h).bindS fun u h1 => match g σ h1 u with
  | .nx σ2 h2 => .nx σ2 h2
  | _ => .bad
theorem tS_asg {tg e : Expr} {m : ME} {g : TGt} (he : PE X e (tM P E m)) (hg : PG X tg (tT P g)) (hs : swapsWithSole [tg] e pos.line X.env = pure false) (hw : swappedStores [tg] e X.env = pure none)
    (h1 : (assignEach [tg] X.env).map (·.2) = [assign tg X.env]) : PS X (.Assign [tg] e pos) (tS P E (sAsg m g)) := ⟨fun pins s σ H D I q => by
  obtain ⟨ρ, W0, W, σ', hp, rs, rh, po⟩ := q
  refine (ps_asg he hg hs hw h1).run pins s σ H D I (tM_thenS rs rh po fun ρ1 H1 u v hp1 rs1 rh1 ru1 x1 po1 => ?_)
  refine ⟨ρ1, W0, W, σ', hp1, u, rs1, rh1, ru1, ?_⟩
  cases eg : g σ' hp1 u with
  | nx σ2 h2 =>
    rw [eg] at po1
    exact fun ρ2 H2 σ3 x2 rs2 rh2 => po1 ρ2 W H2 σ3 x2.toS rs2 rh2
  | rt u h => rw [eg] at po1; exact po1.elim
  | ct u h => rw [eg] at po1; exact po1.elim
  | bk u h => rw [eg] at po1; exact po1.elim
  | exc u h => rw [eg] at po1; exact po1.elim
  | bad => rw [eg] at po1; exact po1.elim⟩
/-- x, y = a, b, plain names: the pair itself is nowhere -/
def sPar (is : List Nat) (ma : MA) : MS := fun σ h => (ma σ h).bindS fun us h1 => match is, us with
  | [i, j], [u, w] => .nx (setF (setF σ i (.val u)) j (.val w)) h1
  | [i, j, l], [u, w, z] => .nx (setF (setF (setF σ i (.val u)) j (.val w)) l (.val z)) h1
  | _, _ => .bad
theorem tS_par {i j : Nat} {x y : Str} {a b : Expr} {ma : MA} {px py pt : Pos} {kt k2 pt2} (hc : X.calm = true) (hN : X.N.Nodup) (hi : X.N[i]? = some x) (hj : X.N[j]? = some y) (hij : i ≠ j)
    (hx : X.env.scope.names.lookup x = some .local) (hy : X.env.scope.names.lookup y = some .local) (ha : PA X [a, b] (tMA P E ma))
    (hw : swappedStores [.Tuple [.Name x px, .Name y py] kt pt] (.Tuple [a, b] k2 pt2) X.env = pure (some [x, y]))
    (hs : swapsWithSole [.Tuple [.Name x px, .Name y py] kt pt] (.Tuple [a, b] k2 pt2) pos.line X.env = pure false) :
    PS X (.Assign [.Tuple [.Name x px, .Name y py] kt pt] (.Tuple [a, b] k2 pt2) pos) (tS P E (sPar [i, j] ma)) := ⟨fun pins s σ H D I q => by
  obtain ⟨ρ, W0, W, σ', hp, rs, rh, po⟩ := q
  refine (ps_par hc hN hi hj hij hx hy ha hw hs).run pins s σ H D I (tMA_thenS rs rh po fun ρ1 H1 us vs hp1 rs1 rh1 ru1 x1 po1 => ?_)
  split at po1
  · rename_i i' j' u w e1
    cases e1
    cases ru1 with
    | cons r1 t =>
      cases t with
      | cons r2 t =>
        cases t
        exact ⟨_, _, rfl, po1 ρ1 W H1 _ ExtS.refl ((rs1.setValF r1).setValF r2) rh1⟩
  · rename_i e1; cases e1
  · exact po1.elim⟩
end
end M7
end

noncomputable section
namespace M7
open PySem PySem.Spec PyProof.Rows L2

section
variable {P : Par} {ρ ρ1 ρ' ρ'' : List Addr} {W W' W'' : WS} {W0 : FW} {H H1 H' H'' : Hp} {hp hp' : HP} {E : XK} {Q : VK} {X : Cx} {pos : Pos} {D : Ends} {σ' : SS} {σ : L2.St}
/-! ### match on a text -/
abbrev MK := List Nat → MS
def PMc (P : Par) (E : XK) (X : Cx) (cases : List MatchCase) (r : MK) : Prop := ∀ (pins : List (Addr × Obj)) (s : Shared) (σ : L2.St) (H : Hp) (D : Ends) (first : Bool) (x : List Nat) (t : Tok), Inv X pins σ H s → tS P E (r x) D σ H →
  wpAny (model X.prog X.w) X.A (matchCases cases X.env (.str ⟨x.toArray⟩ t) first) (SP X pins D) X.xe s
def kEnd : MK := fun _ => sSkip
def kAny (b : MS) : MK := fun _ => b
def kCase (lit : List Nat) (b : MS) (r : MK) : MK := fun x => match eqK (.s x) (.s lit) with
  | true => b
  | false => r x
theorem mc_end : PMc P E X [] kEnd := fun pins s σ H D first x t I h => by
  obtain ⟨ρ, W0, W, σ', hp, rs, rh, po⟩ := h
  exact wpAny_matchCases_nil ⟨σ, H, I, po ρ W H σ ExtS.refl rs rh⟩
theorem mc_any {p : Pos} {body : List Stmt} {b : MS} {rest : List MatchCase} (hb : PSs X body (tS P E b)) : PMc P E X (⟨.MatchAs none none p, none, body⟩ :: rest) (kAny b) := fun pins s σ H D first x t I h => by
  refine wpAny_matchCases_cons (wpAny_matchPattern_Capture ?_)
  exact wpAny_assignInOrder_none (hb.run pins s σ H D I h)
theorem mc_case {lit : List Nat} {e : Expr} {p : Pos} {body : List Stmt} {b : MS} {rest : List MatchCase} {r : MK} (he : PE X e (tC (.str ⟨lit.toArray⟩))) (hb : PSs X body (tS P E b)) (hr : PMc P E X rest r) : PMc P E X (⟨.MatchValue e p, none, body⟩ :: rest) (kCase lit b r) := fun pins s σ H D first x t I h => by
  refine wpAny_matchCases_cons (wpAny_matchPattern_Value ?_)
  refine thn (he.run pins s σ H (fun v H' => v = .str ⟨lit.toArray⟩ ∧ H' = H) I ⟨rfl, rfl⟩) fun u s1 ⟨v, H1, I1, r1, e1, e2⟩ => ?_
  subst e1
  subst e2
  obtain ⟨t', rfl⟩ := r1
  refine thn (op_eq pins s1 σ _ (.str ⟨x.toArray⟩) (.str ⟨lit.toArray⟩) _ _ (fun v H' => v = .bl (eqK (.s x) (.s lit)) ∧ H' = H1) I1 ⟨t, rfl⟩ ⟨t', rfl⟩ ⟨rfl, ?_, rfl⟩) fun c s2 ⟨v, H2, I2, r2, e1, e2⟩ => ?_
  · have z : eqK (.s x) (.s lit) = decide (x = lit) := listEq_iff x lit
    rw [z]
    exact congrArg V.bl (decide_eq_decide.mpr (by simp))
  subst e1
  subst e2
  obtain rfl : c = Value.bool (eqK (.s x) (.s lit)) := r2
  refine wpAny_truthy_bool ?_
  unfold kCase at h
  cases q : eqK (.s x) (.s lit) with
  | true =>
    rw [q] at h
    rw [if_pos rfl]
    exact wpAny_assignInOrder_none (hb.run pins s2 σ _ D I2 h)
  | false =>
    rw [q] at h
    rw [if_neg (by decide)]
    exact hr pins s2 σ _ D false x t I2 h
def sMatch (m : ME) (r : MK) : MS := fun σ h => (m σ h).bindS fun u h1 => match u with
  | .str x => r x σ h1
  | _ => .bad
theorem tS_match {e : Expr} {cases : List MatchCase} {m : ME} {r : MK} (he : PE X e (tM P E m)) (hr : PMc P E X cases r) : PS X (.Match e cases pos) (tS P E (sMatch m r)) := ⟨fun pins s σ H D I q => by
  obtain ⟨ρ, W0, W, σ', hp, rs, rh, po⟩ := q
  refine wpAny_Match (thn (he.run pins s σ H (fun v H1 => ∃ x, v = .str ⟨x.toArray⟩ ∧ tS P E (r x) D σ H1) I (tM_thenS rs rh po fun ρ1 H1 u v hp1 rs1 rh1 ru1 x1 po1 => ?_)) fun u s1 ⟨v, H1, I1, r1, x, e1, q1⟩ => ?_)
  · split at po1
    · cases ru1
      exact ⟨_, rfl, ρ1, W0, W, σ', hp1, rs1, rh1, po1⟩
    · exact po1.elim
  · subst e1
    obtain ⟨t, rfl⟩ := r1
    exact hr pins s1 σ H1 D true x t I1 q1⟩
end
end M7
end

noncomputable section
namespace M7
open PySem PySem.Spec PyProof.Rows L2 PySem.Froz

/-! ### a set of texts -/
/-- at a: a set of the texts l, to be walked -/
def Tx (p : Program) (w : World) (a : Addr) (l : List Str) (h : Heap) : Prop :=
  ∃ B : SD, h.get? a = some (sObj "set" B) ∧ TxOk p w B l ∧ Ris B.2.2.place.toList ∧ (w.params.followText "set-order" = true ∨ B.2.2.led = true)
theorem tail_walk {ep : Nat} {es : Array (Int × Value)} {t : SetTable} {b : Bool} (r : Ris t.place.toList) : Ris (tailTx ep es t b).2.2.place.toList ∧ (tailTx ep es t b).2.2.led = t.led := by
  unfold tailTx
  split
  · exact ⟨relayAll_ris t es _, relayAll_led t es _⟩
  · exact ⟨r, rfl⟩
theorem add_walk {h : Int} {v : Value} {B : SD} (r : Ris B.2.2.place.toList) : Ris (addTx h v B).2.2.place.toList ∧ (addTx h v B).2.2.led = B.2.2.led := by
  unfold addTx
  have r1 := layNew_ris B.2.2 B.1 h v r
  have l1 := layNew_led B.2.2 B.1 h v
  generalize layNew B.2.2 B.1 h v = Z at r1 l1 ⊢
  obtain ⟨es1, t1, wd, gv⟩ := Z
  dsimp only at r1 l1 ⊢
  have key : ∀ t2 : SetTable, t2.place = t1.place → t2.led = t1.led → Ris (tailTx B.2.1 es1 t2 wd).2.2.place.toList ∧ (tailTx B.2.1 es1 t2 wd).2.2.led = B.2.2.led := fun t2 e1 e2 => by
    have r2 : Ris t2.place.toList := by rw [e1]; exact r1
    exact ⟨(tail_walk r2).1, (tail_walk r2).2.trans (e2.trans l1)⟩
  split
  · exact key _ rfl rfl
  · exact key _ rfl rfl
theorem Tx.keep {p : Program} {w : World} {a : Addr} {l : List Str} {h h' : Heap} (x : Tx p w a l h) (k : ∀ o, h.get? a = some o → h'.get? a = some o) : Tx p w a l h' := by
  obtain ⟨B, h1, r⟩ := x
  exact ⟨B, k _ h1, r⟩
section
variable {p : Program} {w : World} {A : Around} {E' : Value → Shared → Prop} {s : Shared} {a : Addr} {l : List Str}
theorem tx_add {k : Str} {u : Tok} {Q : Bool → Shared → Prop} (x : Tx p w a l s.heap) (hb : l.length + 1 < scanBound)
    (h : ∀ (b : Bool) (l' : List Str) (h' : Heap), (k ∈ l → l' = l) → (k ∉ l → l' = k :: l) → Tx p w a l' h' → Heap.SameBut a s.heap h' → Q b { s with heap := h' }) :
    wpAny (model p w) A (setAddHashed a (.str k u) (hashStr w k)) Q E' s := by
  obtain ⟨B, ho, F, r, q⟩ := x
  by_cases hk : k ∈ l
  · obtain ⟨es, ep, t⟩ := B
    have hf : t.fits es.size = true := F.fit
    have hz : es.size = l.length := F.sz
    unfold setAddHashed setAddHashedIn
    refine wpAny_holding (wpAny_bind (wpAny_setState_of ho rfl hf ?_))
    dsimp only
    rw [byScan_of rfl (show es.size < scanBound by omega) F.el]
    simp only [↓reduceIte]
    unfold setAddByScan
    refine wpAny_bind (wpAny_bind (wpAny_rule (wpAny_bind (wpAny_setScan_of (knd := strKind p w) (k := k) (is_str k u) ho rfl hf F.el ?_))))
    obtain ⟨e, he, z⟩ := (F.mem k).mp hk
    cases hi : List.findIdx? (fun e => (strKind p w).is k e.2) es.toList with
    | none =>
      have := List.findIdx?_eq_none_iff.mp hi e he
      rw [z] at this
      cases this
    | some j =>
      dsimp only
      exact wpAny_pure (wpAny_pure (h false l s.heap (fun _ => rfl) (fun n => absurd hk n) ⟨_, ho, F, r, q⟩ (Heap.SameBut.refl _ _)))
  · refine add_x ho F hk hb ?_
    have g : ∀ o, (s.heap.update a (fun _ => sObj "set" (addTx (hashStr w k) (.str k u) B))).get? a = some o ↔ o = sObj "set" (addTx (hashStr w k) (.str k u) B) := fun o => by
      rw [get_upd _ ho rfl]
      exact ⟨fun z => (Option.some.inj z).symm, fun z => by rw [z]⟩
    have aw := add_walk (h := hashStr w k) (v := .str k u) r
    exact h true (k :: l) _ (fun z => absurd z hk) (fun _ => rfl) ⟨_, (g _).mpr rfl, add_ok u F, aw.1, q.imp (fun z => z) fun z => by rw [aw.2]; exact z⟩ (Heap.SameBut.update ..)
/-- the members gathered so far -/
def gath : List Str → List Str → List Str
  | [], l => l
  | k :: r, l => gath r (if k ∈ l then l else k :: l)
theorem gath_mem {x : Str} : ∀ {r l : List Str}, x ∈ gath r l ↔ x ∈ r ∨ x ∈ l
  | [], l => by simp [gath]
  | k :: r, l => by
    unfold gath
    rw [gath_mem]
    by_cases h : k ∈ l
    · rw [if_pos h]
      simp only [List.mem_cons]
      constructor
      · rintro (z | z)
        · exact .inl (.inr z)
        · exact .inr z
      · rintro ((z | z) | z)
        · exact .inr (z ▸ h)
        · exact .inl z
        · exact .inr z
    · rw [if_neg h]
      simp only [List.mem_cons]
      constructor
      · rintro (z | z | z)
        · exact .inl (.inr z)
        · exact .inl (.inl z)
        · exact .inr z
      · rintro ((z | z) | z)
        · exact .inr (.inl z)
        · exact .inl z
        · exact .inr (.inr z)
theorem gath_nodup : ∀ {r l : List Str}, l.Nodup → (gath r l).Nodup
  | [], l, h => h
  | k :: r, l, h => by
    unfold gath
    split
    · exact gath_nodup h
    · exact gath_nodup (List.nodup_cons.mpr ⟨‹_›, h⟩)
theorem gath_le : ∀ {r l : List Str}, (gath r l).length ≤ r.length + l.length
  | [], l => by simp [gath]
  | k :: r, l => by
    unfold gath
    by_cases h : k ∈ l
    · rw [if_pos h]
      have := gath_le (r := r) (l := l)
      simp only [List.length_cons]
      omega
    · rw [if_neg h]
      have := gath_le (r := r) (l := k :: l)
      simp only [List.length_cons] at *
      omega
theorem upd_texts {R : Result → Shared → Prop} {I x : Addr} {items : Array Value} (hh : A.handled = none) (hxI : x ≠ I) (haI : a ≠ I) (hax : a ≠ x) :
    ∀ (rest : List Str) (i : Nat) (l : List Str) (s : Shared), items.size = i + rest.length → (∀ (j : Nat) (k : Str), rest[j]? = some k → ∃ t, items[i + j]? = some (.str k t)) → rest.length + l.length + 1 < scanBound →
      s.heap.IsListIter I x i → s.heap.IsList x items → Tx p w a l s.heap →
      (∀ h' tk, Tx p w a (gath rest l) h' → (∀ b o, b ≠ a → b ≠ I → s.heap.get? b = some o → h'.get? b = some o) → R (.ok (.ret .none)) { s with heap := h', toks := tk }) →
      codeAny (model p w) A (.builtin "set.update.loop" ⟨[.ref a, .ref I], []⟩) R s
  | [], i, l, s, hz, hv, hb, hit, hl, tx, hR => by
    refine codeAny_builtin PyProof.Rows.F.entry_set_update_loop ?_
    rw [Around.under_plainId PyProof.Rows.F.plain_set_update_loop _]
    show wpAny _ A.in1 (pyNext (.ref I) >>= _) _ _ s
    refine wpAny_bind (wpAny_pyNext_list_end (A := A.in1) hh hit hl (by first | exact Array.getElem?_eq_none (Nat.le_of_eq hz) | (simp at hz; simp; omega)) fun h' he => ?_)
    exact wpAny_pure (hR h' s.toks (tx.keep fun o e => he a o haI e) fun b o _ hb e => he b o hb e)
  | k :: rest, i, l, s, hz, hv, hb, hit, hl, tx, hR => by
    obtain ⟨t, ht⟩ := hv 0 k rfl
    rw [List.length_cons] at hz hb
    refine codeAny_builtin PyProof.Rows.F.entry_set_update_loop ?_
    rw [Around.under_plainId PyProof.Rows.F.plain_set_update_loop _]
    show wpAny _ A.in1 (pyNext (.ref I) >>= _) _ _ s
    refine wpAny_bind (wpAny_pyNext_list_item (x := .str k t) hit hl (by simpa using ht) fun h1 hit1 hs1 => ?_)
    have hl1 : h1.IsList x items := hl.extBut hs1.extBut hxI
    have tx1 : Tx p w a l h1 := tx.keep fun o e => hs1.extBut a o haI e
    show wpAny _ A.in1 (holding [Value.str k t] (setAdd a (.str k t)) >>= _) _ _ _
    refine wpAny_bind (wpAny_holding ?_)
    unfold setAdd
    refine wpAny_holding (wpAny_bind ((strKind p w).pyHash (k := k) (is_str k t) ?_))
    refine tx_add (s := { s with heap := h1, toks := s.toks + 1 }) tx1 (by omega) fun b l' h2 e1 e2 tx2 hs2 => ?_
    refine wpAny_pure ⟨plainId_quiet PyProof.Rows.F.plain_set_update_loop _, ?_⟩
    have hl' : l' = if k ∈ l then l else k :: l := by
      by_cases hk : k ∈ l
      · rw [e1 hk, if_pos hk]
      · rw [e2 hk, if_neg hk]
    refine upd_texts hh hxI haI hax rest (i + 1) l' _ (by omega) (fun j y e => ?_) ?_ (hit1.at fun o e => (hs2.2 I (Ne.symm haI)).trans e) (hl1.at fun o e => (hs2.2 x (Ne.symm hax)).trans e) tx2 fun h3 tk tx3 k3 => ?_
    · obtain ⟨t', e'⟩ := hv (j + 1) y (by simpa using e)
      exact ⟨t', by rw [show i + 1 + j = i + (j + 1) by omega]; exact e'⟩
    · rw [hl']
      by_cases hk : k ∈ l
      · rw [if_pos hk]; omega
      · rw [if_neg hk, List.length_cons]; omega
    · refine hR h3 tk ?_ fun b o ha hI e => k3 b o ha hI ((hs2.2 b ha).trans (hs1.extBut b o hI e))
      rw [hl'] at tx3
      exact tx3
theorem perm_of_sub : ∀ {l q : List Str}, l.Nodup → (∀ k ∈ l, k ∈ q) → q.length ≤ l.length → q.Perm l
  | [], q, _, _, h => by
    have : q = [] := List.length_eq_zero_iff.mp (Nat.le_zero.mp h)
    subst this
    exact List.Perm.refl _
  | a :: l, q, nd, m, h => by
    obtain ⟨n1, n2⟩ := List.nodup_cons.mp nd
    have ha : a ∈ q := m a List.mem_cons_self
    have pe : q.Perm (a :: q.erase a) := List.perm_cons_erase ha
    refine pe.trans ((perm_of_sub n2 (fun k hk => ?_) ?_).cons a)
    · have ne : k ≠ a := fun z => n1 (z ▸ hk)
      exact (List.mem_erase_of_ne ne).mpr (m k (List.mem_cons_of_mem _ hk))
    · have := pe.length_eq
      simp only [List.length_cons] at this h
      omega
abbrev nset (w : World) : Obj := { cls := .type "set", dict := none, data := .set #[] 0 (.fresh 0 0 (!w.params.followText "set-order")) }
theorem nset_tx {h : Heap} (e : h.get? a = some (nset w)) : Tx p w a [] h :=
  ⟨(#[], 0, .fresh 0 0 (!w.params.followText "set-order")), e, TxOk.nil rfl, List.Pairwise.nil, by
    show _ ∨ (!w.params.followText "set-order") = true
    cases w.params.followText "set-order"
    · exact .inr rfl
    · exact .inl rfl⟩
/-- what set(l) leaves -/
def SetGot (p : Program) (w : World) (s : Shared) (xs : List Str) (r : Value) (s2 : Shared) : Prop :=
  r = .none ∧ ∃ (h' : Heap) (tk : Nat), s2 = { s with heap := h', toks := tk } ∧ Tx p w s.heap.objs.size (gath xs []) h' ∧ ∀ b o, s.heap.get? b = some o → h'.get? b = some o
theorem call_set_txts {x : Addr} {items : Array Value} (xs : List Str) {Q : Value → Shared → Prop} (hh : A.handled = none) (hl : s.heap.IsList x items) (hi : StrsAre items.toList xs) (hb : xs.length + 1 < scanBound)
    (h : ∀ (h' : Heap) (tk : Nat), Tx p w s.heap.objs.size (gath xs []) h' → (∀ b o, s.heap.get? b = some o → h'.get? b = some o) → Q (.ref s.heap.objs.size) { s with heap := h', toks := tk }) :
    wpAny (model p w) A (call (.type "set") [.ref x]) Q E' s := by
  have zi : items.size = xs.length := by
    have q := StrsAre.len_eq hi
    rw [Array.length_toList] at q
    exact q
  obtain ⟨c, tl, mm⟩ := F.called_set.mro
  have m1 := F.called_set.made
  have m2 := F.called_set.sub
  refine wpAny_call (codeAny_of_tree ?_)
  show wpAny _ _ (callAny (.type "set") ⟨[.ref x], []⟩) _ _ _
  refine wpAny_pure ⟨Code.quiet_builtin _ (by decide +kernel), codeAny_builtin F.entry_type_call ?_⟩
  rw [Around.under_plain (weight_type_call_type "set" [.ref x] []) rfl]
  have m3 := F.called_set.notType
  have m4 := F.called_set.canCreate
  have m5 := F.typeCall_set_1 (.ref x)
  repeat (any_goals (first | assumption | wp_step))
  refine codeAny_mono (code_set_led1 (.ref x) (E := E') (Q₁ := fun o s1 => o = .ref s.heap.objs.size ∧ s1 = { s with heap := s.heap.push (nset w) }) ⟨rfl, rfl⟩) fun r s1 hr => ?_
  cases r with
  | error e => exact hr
  | ok fl =>
    cases fl with
    | ret o =>
      obtain ⟨rfl, rfl⟩ := hr
      have gS : (s.heap.push (nset w)).get? s.heap.objs.size = some (nset w) := Heap.get?_push_size _ rfl
      have tS : Shared.TypeIs { s with heap := s.heap.push (nset w) } (.ref s.heap.objs.size) "set" := ⟨_, gS, rfl⟩
      have i1 := F.called_set.init.lookup
      have i2 := F.called_set.init.bind (.ref s.heap.objs.size)
      repeat (any_goals (first | assumption | wp_step))
      refine codeAny_mono (codeAny_call_builtin (R := wants (SetGot p w s xs) E') F.called_set.init.plain F.entry_set_init (check_set_init_1 tS ?_)) fun r2 s2 hr2 => ?_
      · obtain ⟨ol, hol, hc, nl, hd⟩ := hl
        obtain ⟨oc, od, ot, os⟩ := ol
        simp only at hc hd
        subst hc; subst hd
        have xlt : x < s.heap.objs.size := Heap.lt_size hol
        have hol2 : (s.heap.push (nset w)).get? x = some { cls := .type "list", dict := od, data := .seq items nl, slots := os } := Heap.get?_push_of_some _ hol
        have f1 := F.sub_list_set
        have f2 := F.sub_list_frozenset
        have f3 : (Value.type "list" == Value.type "dict") = false := by decide
        have l1 : (s.heap.push (nset w)).IsList x items := ⟨_, hol2, rfl, nl, rfl⟩
        unfold Builtin.«set.__init__» noKeywords Builtin.Frozenset.updateFrom
        generalize hI : pyIter = PI
        wp_walk
        subst hI
        refine wpAny_pyIter_list l1 (wpAny_bind (wpAny_runValue ?_))
        have z1 : (s.heap.push (nset w)).objs.size = s.heap.objs.size + 1 := Heap.size_push ..
        have h3 : A.in1.in1.handled = none := by simp [hh]
        have n1 : x ≠ (s.heap.push (nset w)).objs.size := by rw [z1]; exact Nat.ne_of_lt (Nat.lt_succ_of_lt xlt)
        have n2 : s.heap.objs.size ≠ (s.heap.push (nset w)).objs.size := by rw [z1]; exact Nat.ne_of_lt (Nat.lt_succ_self _)
        refine upd_texts (p := p) (w := w) (items := items) h3 n1 n2 (Nat.ne_of_gt xlt) xs 0 [] _ (by omega) ?_ (by simpa using hb) ?_ ?_ ?_ ?_
        · intro j k e
          have hj : j < items.size := by rw [zi]; exact (List.getElem?_eq_some_iff.mp e).1
          obtain ⟨t, et⟩ := _root_.SS.strs_at hi j items[j] (by rw [Array.getElem?_toList]; exact Array.getElem?_eq_getElem hj)
          refine ⟨t, ?_⟩
          rw [Nat.zero_add, Array.getElem?_eq_getElem hj, et, List.getD_eq_getElem?_getD, e]
          rfl
        · exact ⟨_, Heap.get?_push_size _ rfl, rfl, rfl⟩
        · exact l1.push _
        · exact nset_tx (Heap.get?_push_of_some _ gS)
        · intro h4 tk t4 k4
          show wpAny _ _ _ _ _ _
          refine wpAny_pure ?_
          show wpAny _ _ (ret Value.none) _ _ _
          refine wpAny_pure ⟨rfl, h4, tk, rfl, t4, fun b o e => ?_⟩
          have blt : b < s.heap.objs.size := Heap.lt_size e
          exact k4 b o (Nat.ne_of_lt blt) (by rw [z1]; exact Nat.ne_of_lt (Nat.lt_succ_of_lt blt)) (Heap.get?_push_of_some _ (Heap.get?_push_of_some _ e))
      · cases r2 with
        | error e => exact hr2
        | ok f2 =>
          cases f2 with
          | ret r =>
            obtain ⟨rfl, h4, tk, rfl, t4, k4⟩ := hr2
            repeat (any_goals (first | assumption | wp_step))
            exact h _ _ t4 k4
          | _ => exact hr2.elim
    | _ => exact hr.elim
/-- sorted(a set of texts) -/
theorem sorted_txts {Q : Value → Shared → Prop} (x : Tx p w a l s.heap) (hh : A.handled = none) (h64 : l.length < 64) (nd : l.Nodup)
    (h : ∀ (s' : Shared) (q : Addr) (out : Array Value) (c : Nat) (ys : List Str), (∀ b o, s.heap.get? b = some o → s'.heap.get? b = some o) → s'.gens = s.gens → s'.os = s.os → s.heap.objs.size ≤ q → s'.heap.get? q = some (seqObj "list" out c) →
      StrsAre out.toList ys → ys.Perm l → sortedS ys = true → Q (.ref q) s') : wpAny (model p w) A (call (.builtin "sorted") [.ref a]) Q E' s := by
  obtain ⟨⟨es, ep, t⟩, ho, T, r, led⟩ := x
  have zs : es.size = l.length := T.sz
  refine Calls.call_function_entry kind_sorted plain_sorted entry_sorted (args_sorted1 _) ?_
  unfold Builtin.«sorted»
  refine wpAny_bind (m := checkCount "sorted" 1 1 _) (wpAny_pure ?_)
  refine wpAny_bind (collect_set (A := A.in1) hh ⟨_, ho, rfl, rfl⟩ T.fit (by rw [zs]; unfold scanBound; omega) r led fun s1 vs k1 z1 g1 o1 pm => ?_)
  have vl : vs.length = l.length := by rw [pm.length_eq, List.length_map, Array.length_toList, zs]
  have good : ∀ e ∈ es.toList, ∃ k t, e.2 = Value.str k t := fun e he => by
    obtain ⟨⟨k, q, _⟩, _⟩ := T.el e he
    have q : Value.isStrOf k e.2 = true := q
    unfold Value.isStrOf at q
    split at q
    · rename_i y u _
      exact ⟨_, _, by assumption⟩
    · cases q
  have SA : StrsAre vs (vs.map strOf) := strsAre_map vs fun v hv => by
    obtain ⟨e, he, q⟩ := List.mem_map.mp (pm.mem_iff.mp hv)
    obtain ⟨k, t, e2⟩ := good e he
    exact ⟨k, t, by rw [← q]; exact e2⟩
  have pk : (vs.map strOf).Perm l := by
    have q : (vs.map strOf).Perm ((es.toList.map (·.2)).map strOf) := pm.map strOf
    have memb : ∀ k, k ∈ (es.toList.map (·.2)).map strOf ↔ k ∈ l := fun k => by
      rw [T.mem k, List.map_map, List.mem_map]
      constructor
      · rintro ⟨e, he, z⟩
        obtain ⟨k', t, e2⟩ := good e he
        refine ⟨e, he, ?_⟩
        have z : strOf e.2 = k := z
        rw [e2] at z ⊢
        have z : k' = k := z
        rw [← z]
        exact is_str _ _
      · rintro ⟨e, he, z⟩
        obtain ⟨k', t, e2⟩ := good e he
        refine ⟨e, he, ?_⟩
        show strOf e.2 = k
        rw [e2] at z ⊢
        exact ((strKind p w).inj (.str k' t) k k' z (is_str _ _)).symm
    have ll : ((es.toList.map (·.2)).map strOf).length = l.length := by rw [List.length_map, List.length_map, Array.length_toList, zs]
    exact q.trans (perm_of_sub nd (fun k hk => (memb k).mpr hk) (Nat.le_of_eq ll))
  refine wpAny_bind (wpAny_newList ?_ (by rw [vl, sizeLine_eq]; omega))
  have oL : (s1.heap.push (seqObj "list" vs.toArray 0)).get? s1.heap.objs.size = some (seqObj "list" vs.toArray 0) := Heap.get?_push_size _ rfl
  refine wpAny_bind (wpAny_holding (wpAny_call_entry slot_list_sort ⟨_, oL, rfl⟩ entry_list_sort (list_sort_treeK strKind_oneLt oL SA.keysOf (fun v1 v2 r e => keyKind_strs (by rw [← e]; exact SA)) (by rw [vl]; exact h64) fun st hp hs => ⟨_, rfl, ?_⟩) (args_list_sort _)))
  obtain ⟨ys, b1, b2, b3⟩ := sorted_out_str SA hp hs
  obtain ⟨c, hc⟩ := sortedHeap_at (vs := vs) (out := (arrOf st).map (·.2)) oL
  refine wpAny_pure ⟨_, rfl, h _ s1.heap.objs.size _ c ys (fun b u e => ?_) g1 o1 z1 hc b1 (b2.trans pk) b3⟩
  have q := k1 b u e
  have hlt := Heap.lt_size q
  show (sortedHeap (s1.heap.push (seqObj "list" vs.toArray 0)) s1.heap.objs.size vs ((arrOf st).map (·.2))).get? b = some u
  rw [sortedHeap_old (Nat.ne_of_lt hlt) (by rw [size_push']; exact Nat.lt_succ_of_lt hlt)]
  exact Heap.get?_push_of_some _ q
end
end M7

noncomputable section
namespace M7
open PySem PySem.Spec PyProof.Rows L2
/-! ### sorted(set(e)), texts -/
def txo (p : Program) (w : World) (a : Addr) (l : List Str) : HO := .ext (Tx p w a l)
theorem txo_ok {p : Program} {w : World} {a : Addr} {l : List Str} {h : Heap} {H : Hp} (x : Tx p w a l h) : ObjOk p w H h a (txo p w a l) :=
  ⟨x, let ⟨_, e, _⟩ := x; ⟨_, e⟩, fun h1 h2 y k => y.keep k⟩
theorem txo_at {p : Program} {w : World} {a : Addr} {l : List Str} {h : Heap} {H : Hp} (x : ObjOk p w H h a (txo p w a l)) : Tx p w a l h := x.1
section
variable {X : Cx}
def rSetT (K : PySem.W.Frag) (p : Program) (w : World) : List V → Hp → VK → Prop := fun vs H Q => ∃ (a : Addr) (xs : List Str), vs = [V.ref a] ∧ SqL K H a (xs.map V.str) ∧ xs.length < 64 ∧ ∀ q, H q = none → Q (.ref q) (upd H q (txo p w q (gath xs [])))
theorem cr_setT (hc : X.calm = true) : CallR X (.type "set") (rSetT X.K X.prog X.w) := by
  intro pins s σ H vs us Q I r h
  obtain ⟨a, xs, rfl, hs, h64, q⟩ := h
  obtain ⟨its, rv, hl, _⟩ := I.list hs
  rw [Vals.ref1 r]
  refine call_set_txts (p := X.prog) (w := X.w) xs (I.ok.hd hc) hl.isList rv.strs (by unfold scanBound; omega) fun h' tk t k => ?_
  have hn : H s.heap.objs.size = none := I.hok.fresh (Nat.le_refl _)
  exact ⟨.ref s.heap.objs.size, _, I.laid (a := s.heap.objs.size) (t' := tk) k (Nat.le_refl _) (txo_ok t), rfl, q _ hn⟩
def rSortedT (p : Program) (w : World) : List V → Hp → VK → Prop := fun vs H Q => ∃ (a : Addr) (l : List Str), vs = [V.ref a] ∧ H a = some (txo p w a l) ∧ l.length < 64 ∧ l.Nodup ∧
  ∀ (ys : List Str) (q : Addr), ys.Perm l → sortedS ys = true → H q = none → Q (.ref q) (upd H q (.lst (ys.map V.str)))
theorem cr_sortedT' (hc : X.calm = true) : CallR X (.builtin "sorted") (rSortedT X.prog X.w) := by
  intro pins s σ H vs us Q I r h
  obtain ⟨a, l, rfl, ha, h64, nd, q⟩ := h
  rw [Vals.ref1 r]
  refine sorted_txts (txo_at (I.hok a _ ha)) (I.ok.hd hc) h64 nd fun s' b out c ys k g o hb hg hi pm hs => ?_
  have hlen : (ys.map V.str).length ≤ sizeLine := by rw [List.length_map, pm.length_eq]; exact small64 h64
  have hn : H b = none := I.hok.fresh hb
  have J : Inv X pins σ (upd H b (.lst (ys.map V.str))) { s with heap := s'.heap, gens := s'.gens, drawn := s'.drawn, toks := s'.toks } :=
    I.call (ch := []) (Un.laid k hb hn) (I.hok.laid k hb ⟨hlen, out.toList, c, vals_of_strs hi, hg⟩) (by rw [g]; exact I.bare) (fun _ z => nomatch z)
  have e : s' = { s with heap := s'.heap, gens := s'.gens, drawn := s'.drawn, toks := s'.toks } := by
    cases s'
    cases s
    cases o
    rfl
  rw [e]
  exact ⟨.ref b, _, J, rfl, q ys b pm hs hn⟩
end
/-- no text twice -/
def memL (k : List Nat) : List (List Nat) → Bool
  | [] => false
  | j :: r => match scalU.listEq j k with
    | true => true
    | false => memL k r
def gathN : List (List Nat) → List (List Nat) → List (List Nat)
  | [], l => l
  | k :: r, l => match memL k l with
    | true => gathN r l
    | false => gathN r (k :: l)
abbrev toS (x : List Nat) : Str := ⟨x.toArray⟩
theorem toS_inj {x y : List Nat} (h : toS x = toS y) : x = y := by
  injection h with h
  have : (_ : List Nat) = _ := congrArg Array.toList h
  simpa using this
theorem memL_iff {k : List Nat} : ∀ {l : List (List Nat)}, memL k l = true ↔ toS k ∈ l.map toS
  | [] => by simp [memL]
  | j :: r => by
    unfold memL
    rw [listEq_iff, List.map_cons, List.mem_cons]
    by_cases e : j = k
    · subst e; simp
    · rw [show decide (j = k) = false from decide_eq_false e]
      dsimp only
      rw [memL_iff]
      constructor
      · exact fun h => .inr h
      · rintro (h | h)
        · exact absurd (toS_inj h).symm e
        · exact h
theorem gathN_ok : ∀ {r l : List (List Nat)}, (gathN r l).map toS = gath (r.map toS) (l.map toS)
  | [], l => rfl
  | k :: r, l => by
    unfold gathN
    rw [List.map_cons]
    unfold gath
    cases q : memL k l with
    | true =>
      rw [if_pos (memL_iff.mp q)]
      exact gathN_ok
    | false =>
      rw [if_neg fun z => by rw [memL_iff.mpr z] at q; cases q]
      exact gathN_ok
section
variable {P : Par} {ρ : List Addr} {W : WS} {W0 : FW} {H : Hp} {hp : HP} {E : XK} {Q : VK} {X : Cx} {pos : Pos}
def eSortSet (m : ME) : ME := fun σ h => (m σ h).bind fun u h1 => match (asLst h1 u).bind strsU with
  | some ns => match Nat.blt ns.length 64 with
    | true => .ok (.lst ((sortL (gathN ns [])).map .str)) h1
    | false => .bad
  | none => .bad
theorem tM_sortSet {e : Expr} {m : ME} {p1 p2 cpos : Pos} (hK : X.K = P.K) (hc : X.calm = true) (g1 : Gl X "sorted") (m1 : X.mg "sorted" = none) (v1 : bootBuiltins "sorted" = some (.builtin "sorted")) (g2 : Gl X "set") (m2 : X.mg "set" = none) (he : PE X e (tM P E m))
    (q1 : starEach [e] X.env = (false, eval e X.env) :: starEach [] X.env) (q2 : (backTo cpos (starEach [] X.env)).any (·.1) = false)
    (q3 : starEach [.Call (.Name "set" p2) [e] [] cpos] X.env = (false, eval (.Call (.Name "set" p2) [e] [] cpos) X.env) :: starEach [] X.env) (q4 : (backTo pos (starEach [] X.env)).any (·.1) = false) :
    PE X (.Call (.Name "sorted" p1) [.Call (.Name "set" p2) [e] [] cpos] [] pos) (tM P E (eSortSet m)) :=
  ⟨fun pins s σ H Q I q => by
  have inner := pe_callTy (cr_setT (X := X) hc) g2 m2 boot_set (pa_cons he pa_nil q1) (by decide) (by decide) q1 q2 (p := p2) (pos := cpos)
  refine (pe_callB (cr_sortedT' (X := X) hc) g1 m1 v1 (pa_cons inner pa_nil q3) (by decide) (by decide) q3 q4).run pins s σ H Q I ?_
  obtain ⟨ρ, W0, W, σ', hp, rs, rh, po⟩ := q
  refine tM_then rs rh po fun ρ1 H1 u v hp1 rs1 rh1 ru1 x1 po1 => ?_
  split at po1
  · rename_i ns en
    split at po1
    · rename_i hf
      obtain ⟨us, h1, h2⟩ := Option.bind_eq_some_iff.mp en
      obtain ⟨a, vs, rfl, hq, r⟩ := asLst_ok rh1 ru1 h1
      have := strsU_ok r h2
      subst this
      have hl : ns.length < 64 := Nat.le_of_ble_eq_true hf
      refine ⟨a, ns.map toS, rfl, by rw [hK]; exact hq, by rw [List.length_map]; exact hl, fun b hb => ?_⟩
      have le : (gath (ns.map toS) []).length < 64 := by
        have := gath_le (r := ns.map toS) (l := [])
        rw [List.length_map, List.length_nil] at this
        omega
      refine ⟨b, _, rfl, upd_same, le, gath_nodup List.nodup_nil, fun ys c pm hs hn => ?_⟩
      have e1 : (ys.map fun z : Str => z.cps.toList) = sortL (gathN ns []) := by
        refine sorted_unique ?_ (sortedS_pair hs) (sortL_sorted _)
        have g := gathN_ok (r := ns) (l := [])
        rw [List.map_nil] at g
        rw [← g] at pm
        have := pm.map fun z : Str => z.cps.toList
        rw [List.map_map] at this
        have e2 : ((gathN ns []).map ((fun z : Str => z.cps.toList) ∘ toS)) = gathN ns [] := by
          conv => rhs; rw [← List.map_id (gathN ns [])]
          exact List.map_congr_left fun x _ => rfl
        rw [e2] at this
        exact this.trans (sortL_perm _).symm
      rw [str_back ys, e1]
      have xb : Ext ρ1 H1 ρ1 (upd H1 b (txo X.prog X.w b (gath (ns.map toS) []))) := Ext.fresh hb
      have rhb := rh1.fresh (o := txo X.prog X.w b (gath (ns.map toS) [])) hb
      exact po1 ρ1 _ _ (xb.trans (Ext.fresh hn)) (rhb.fresh hn) (RU.newLst rhb hn (strs_rus _))
    · exact po1.elim
  · exact po1.elim⟩
end
end M7
end

noncomputable section
namespace M7
open PySem PySem.Spec PyProof.Rows L2

section
variable {P : Par} {ρ ρ1 ρ' ρ'' : List Addr} {W W' W'' : WS} {W0 : FW} {H H1 H' H'' : Hp} {hp hp' : HP} {E : XK} {Q : VK} {X : Cx} {pos : Pos} {D : Ends} {σ' : SS} {σ : L2.St}
/-! ### isinstance -/
inductive Tg where
  | non | bl | int | str | lst | tup | dct | own (C : Nat)
def tgU (h : HP) : U → Option Tg
  | .non => some .non
  | .bl _ => some .bl
  | .int _ => some .int
  | .str _ => some .str
  | .lst _ => some .lst
  | .lsx _ => some .lst
  | .tup _ => some .tup
  | .obj C _ _ => some (.own C)
  | .cls _ => none
  | .ref n => match h.m n with
    | some (.lst _) => some .lst
    | some (.dK _ _) => some .dct
    | some (.ins C _ _) => some (.own C)
    | some (.dN _ _) => none
    | none => none
def tgV (P : Par) : Tg → Value
  | .non => .type "NoneType"
  | .bl => .type "bool"
  | .int => .type "int"
  | .str => .type "str"
  | .lst => .type "list"
  | .tup => .type "tuple"
  | .dct => .type "dict"
  | .own C => .ref (P.cA C)
/-- a class whose instances can be asked -/
structure InsT (K : PySem.W.Frag) (C : Addr) : Prop where
  cl : Cls K C
  ha : PySem.W.findIn K (.ref C) "__class__" = some (some (.builtin "object.__class__"))
  hn : PySem.W.specialIn K (.builtin "object.__class__") "__get__" = some (some (.builtin "getset_descriptor.__get__"))
  htk : PySem.W.takesIn K (.builtin "object.__class__") = some true
  hm : PySem.W.mroIn K C (.type "object") = some true
theorem InsT.ty {K : PySem.W.Frag} {C a dx : Addr} {fs : List (Str × V)} (t : InsT K C) (e : H a = some (.ins C dx fs)) : TyX K H (.ref a) (.ref C) := .base (.ins e t.cl t.ha t.hn t.htk t.hm)
theorem lat_ty {a : Addr} {vs : List V} (h : LAt P ρ W H a vs) : TyX P.K H (.ref a) (.type "list") := by
  rcases h with ⟨o, h⟩ | ⟨o, its, n, h1, h2, _⟩
  · exact .base (.frz h.1)
  · exact .kList h1 h2
theorem tat_ty {a : Addr} {vs : List V} (h : TAt P ρ W H a vs) : TyX P.K H (.ref a) (.type "tuple") := by
  rcases h with h | ⟨o, h⟩ | ⟨o, its, n, h1, h2, _⟩
  · exact .base (.tup h.1)
  · exact .fTuple h.1
  · exact .kTuple h1 h2
theorem tgU_ok (rh : RH P ρ W hp H) {u : U} {v : V} {t : Tg} (r : RU P ρ W H u v) (e : tgU hp u = some t) (hC : ∀ C, t = .own C → InsT P.K (P.cA C)) : TyX P.K H v (tgV P t) := by
  cases r with
  | non => cases e; exact .base .non
  | bl b => cases e; exact .base (.bl b)
  | int i => cases e; exact .base (.int i)
  | str x => cases e; exact .base (.str _)
  | lst h r => cases e; exact .base (.lst h.1)
  | lsx h r => cases e; exact lat_ty h
  | tup h r => cases e; exact tat_ty h
  | @obj C ns us a dx fs h hn r => cases e; exact (hC C rfl).ty h.1
  | cls C => cases e
  | @ref n a h =>
    have e' : (match hp.m n with
      | some (.lst _) => some Tg.lst
      | some (.dK _ _) => some Tg.dct
      | some (.ins C _ _) => some (Tg.own C)
      | some (.dN _ _) => none
      | none => none) = some t := e
    clear e
    split at e'
    · rename_i q
      obtain ⟨b, hb, ro⟩ := rh.obj _ _ q
      rw [h] at hb
      cases hb
      cases e'
      cases ro with
      | lst hl _ => exact .base (.lst hl)
    · rename_i q
      obtain ⟨b, hb, ro⟩ := rh.obj _ _ q
      rw [h] at hb
      cases hb
      cases e'
      cases ro with
      | dK hl _ _ => exact .base (.dK hl)
    · rename_i q
      obtain ⟨b, hb, ro⟩ := rh.obj _ _ q
      rw [h] at hb
      cases hb
      cases e'
      cases ro with
      | ins hl _ _ => exact (hC _ rfl).ty hl
    · cases e'
    · cases e'
def eqTg : Tg → Tg → Bool
  | .non, .non => true
  | .bl, .bl => true
  | .int, .int => true
  | .str, .str => true
  | .lst, .lst => true
  | .tup, .tup => true
  | .dct, .dct => true
  | .own C, .own D => Nat.beq C D
  | _, _ => false
theorem eqTg_ok {a b : Tg} (h : eqTg a b = true) : a = b := by
  cases a <;> cases b <;> first | rfl | (cases h; done) | skip
  exact congrArg Tg.own (Nat.eq_of_beq_eq_true h)
def isiL : List (Tg × Bool) → Tg → Option Bool
  | [], _ => none
  | (t, b) :: l, x => match eqTg t x with
    | true => some b
    | false => isiL l x
theorem isiL_mem : ∀ {l : List (Tg × Bool)} {x : Tg} {b : Bool}, isiL l x = some b → (x, b) ∈ l
  | [], _, _, h => by cases h
  | (t, b') :: l, x, b, h => by
    unfold isiL at h
    cases q : eqTg t x with
    | true =>
      rw [q] at h
      cases h
      rw [eqTg_ok q]
      exact List.mem_cons_self
    | false =>
      rw [q] at h
      exact List.mem_cons_of_mem _ (isiL_mem h)
/-- the answers of the table are the classes' -/
def IsiOk (P : Par) (ask : Value → Option Bool) (l : List (Tg × Bool)) : Prop := ∀ t b, (t, b) ∈ l → ask (tgV P t) = some b ∧ ∀ C, t = .own C → InsT P.K (P.cA C)
theorem IsiOk.nil {ask : Value → Option Bool} : IsiOk P ask [] := fun t b h => by cases h
theorem IsiOk.ty {ask : Value → Option Bool} {l : List (Tg × Bool)} {t : Tg} {b : Bool} (h : ask (tgV P t) = some b) (hn : ∀ C, t ≠ .own C) (r : IsiOk P ask l) : IsiOk P ask ((t, b) :: l) := fun t' b' hm => by
  rcases List.mem_cons.mp hm with e | e
  · cases e
    exact ⟨h, fun C z => (hn C z).elim⟩
  · exact r t' b' e
theorem IsiOk.own {ask : Value → Option Bool} {l : List (Tg × Bool)} {C : Nat} {b : Bool} (h : ask (.ref (P.cA C)) = some b) (hi : InsT P.K (P.cA C)) (r : IsiOk P ask l) : IsiOk P ask ((.own C, b) :: l) := fun t' b' hm => by
  rcases List.mem_cons.mp hm with e | e
  · cases e
    exact ⟨h, fun D z => by cases z; exact hi⟩
  · exact r t' b' e
def eIsi (l : List (Tg × Bool)) (m : ME) : ME := fun σ h => (m σ h).bind fun u h1 => match (tgU h1 u).bind (isiL l) with
  | some b => .ok (.bl b) h1
  | none => .bad
theorem isi_ty (rh : RH P ρ W hp H) {u : U} {v : V} {ask : Value → Option Bool} {l : List (Tg × Bool)} {b : Bool} (ok : IsiOk P ask l) (r : RU P ρ W H u v) (e : (tgU hp u).bind (isiL l) = some b) : ∃ t, TyX P.K H v t ∧ ask t = some b := by
  obtain ⟨t, h1, h2⟩ := Option.bind_eq_some_iff.mp e
  obtain ⟨h3, h4⟩ := ok t b (isiL_mem h2)
  exact ⟨_, tgU_ok rh r h1 h4, h3⟩
theorem tM_isi {a c : Expr} {m : ME} {cv : V} {cu : Value} {l : List (Tg × Bool)} {p : Pos} (hK : X.K = P.K) (hg : Gl X "isinstance") (hm : X.mg "isinstance" = none) (hv : bootBuiltins "isinstance" = some (.builtin "isinstance")) (ha : PE X a (tM P E m)) (hc : PE X c (tC cv)) (k : ClsV cv cu) (ok : IsiOk P (fun t => PySem.W.kitOne P.K t cu) l)
    (he : starEach [a, c] X.env = (false, eval a X.env) :: starEach [c] X.env) (he2 : starEach [c] X.env = (false, eval c X.env) :: starEach [] X.env) (hpl : (backTo pos (starEach [c] X.env)).any (·.1) = false) :
    PE X (.Call (.Name "isinstance" p) [a, c] [] pos) (tM P E (eIsi l m)) := ⟨fun pins s σ H Q I q => by
  refine (pe_callB call_isi hg hm hv (pa_cons ha (pa_cons hc pa_nil he2) he) (by decide) (by decide) he hpl).run pins s σ H Q I ?_
  obtain ⟨ρ, W0, W, σ', hp, rs, rh, po⟩ := q
  refine tM_then rs rh po fun ρ1 H1 u v hp1 rs1 rh1 ru1 x1 po1 => ?_
  split at po1
  · rename_i b eb
    obtain ⟨t, h1, h2⟩ := isi_ty rh1 ok ru1 eb
    exact ⟨v, cv, t, cu, b, rfl, k, by rw [hK]; exact h1, by rw [hK]; exact h2, po1.pure rh1 (.bl b)⟩
  · exact po1.elim⟩
theorem tM_isiT {a : Expr} {cs : List Expr} {m : ME} {cvs : List V} {cus : List Value} {l : List (Tg × Bool)} {p tp : Pos} {kk : Nat} (hK : X.K = P.K) (hg : Gl X "isinstance") (hm : X.mg "isinstance" = none) (hv : bootBuiltins "isinstance" = some (.builtin "isinstance")) (ha : PE X a (tM P E m)) (hc : PA X cs (fun σ H Q => Q cvs H)) (k : Paired ClsV cvs cus) (hz : fits cvs.length = true)
    (ok : IsiOk P (fun t => PySem.W.kitAny P.K t cus) l)
    (he : starEach [a, .Tuple cs kk tp] X.env = (false, eval a X.env) :: starEach [.Tuple cs kk tp] X.env) (he2 : starEach [.Tuple cs kk tp] X.env = (false, eval (.Tuple cs kk tp) X.env) :: starEach [] X.env) (hpl : (backTo pos (starEach [.Tuple cs kk tp] X.env)).any (·.1) = false) :
    PE X (.Call (.Name "isinstance" p) [a, .Tuple cs kk tp] [] pos) (tM P E (eIsi l m)) := ⟨fun pins s σ H Q I q => by
  refine (pe_callB call_isiT hg hm hv (pa_cons ha (pa_cons (pe_tup hc) pa_nil he2) he) (by decide) (by decide) he hpl).run pins s σ H Q I ?_
  obtain ⟨ρ, W0, W, σ', hp, rs, rh, po⟩ := q
  refine tM_then rs rh po fun ρ1 H1 u v hp1 rs1 rh1 ru1 x1 po1 => ?_
  split at po1
  · rename_i b eb
    refine ⟨fits_le hz, fun b' hb => ?_⟩
    have x2 : Ext ρ1 H1 ρ1 (upd H1 b' (.tup cvs)) := Ext.fresh hb
    have rh2 := rh1.fresh (o := .tup cvs) hb
    obtain ⟨t, h1, h2⟩ := isi_ty rh2 ok (ru1.ext x2) eb
    exact ⟨v, b', cvs, t, cus, b, rfl, upd_same, k, by rw [hK]; exact h1, by rw [hK]; exact h2, po1 ρ1 _ _ x2 rh2 (.bl b)⟩
  · exact po1.elim⟩
theorem pa_cls_nil : PA X [] (fun σ H Q => Q [] H) := pa_nil
theorem pa_cls_cons {c : Expr} {cs : List Expr} {cv : V} {cvs : List V} (h : PE X c (tC cv)) (r : PA X cs (fun σ H Q => Q cvs H)) (he : starEach (c :: cs) X.env = (false, eval c X.env) :: starEach cs X.env) : PA X (c :: cs) (fun σ H Q => Q (cv :: cvs) H) :=
  ⟨fun pos pins s σ H Q I q => (pa_cons h r he).run pos pins s σ H Q I q⟩

/-! ### f-strings -/
def fmtU : U → Option (List Nat)
  | .str x => if fits x.length = true then some x else none
  | .int i => if Nat.ble i.natAbs 1000000000000000000 = true then some (strI i) else none
  | _ => none
def eFmt (m : ME) : ME := fun σ h => (m σ h).bind fun u h1 => match fmtU u with
  | some x => .ok (.str x) h1
  | none => .bad
theorem tM_fmt {e : Expr} {m : ME} (he : PE X e (tM P E m)) : PE X (.FormattedValue e (-1) none pos) (tM P E (eFmt m)) := ⟨fun pins s σ H Q I q => by
  refine (pe_fmt he).run pins s σ H Q I ?_
  obtain ⟨ρ, W0, W, σ', hp, rs, rh, po⟩ := q
  refine tM_then rs rh po fun ρ1 H1 u v hp1 rs1 rh1 ru1 x1 po1 => ?_
  split at po1
  · rename_i x ex
    cases ru1 with
    | str y =>
      unfold fmtU at ex
      dsimp only at ex
      split at ex
      · rename_i hf
        cases ex
        exact .inl ⟨_, rfl, by simpa [Str.length] using fits_le hf, po1.pure rh1 (.str _)⟩
      · cases ex
    | int i =>
      unfold fmtU at ex
      dsimp only at ex
      split at ex
      · rename_i hf
        cases ex
        refine .inr ⟨i, rfl, ?_, ?_⟩
        · exact log2_small (Nat.le_of_ble_eq_true hf)
        · have z := po1.pure rh1 (.str (strI i))
          rw [← strI_ok] at z
          exact z
      · cases ex
    | _ => cases ex
  · exact po1.elim⟩
/-- the texts one behind the other -/
def eJoin : List ME → List Nat → ME
  | [], acc => fun _ h => .ok (.str acc) h
  | m :: ms, acc => fun σ h => (m σ h).bind fun u h1 => match u with
    | .str x => match fits (acc ++ x).length with
      | true => eJoin ms (acc ++ x) σ h1
      | false => .bad
    | _ => .bad
theorem js_read : ∀ (ms : List ME) (acc : List Nat) (σ : L2.St) (H : Hp) (Q : VK), tM P E (eJoin ms acc) σ H Q → tJs (ms.map (tM P E)) ⟨acc.toArray⟩ σ H fun out H1 => Q (.str out) H1
  | [], acc, σ, H, Q, q => by
    obtain ⟨ρ, W0, W, σ', hp, rs, rh, po⟩ := q
    exact po.pure rh (.str acc)
  | m :: ms, acc, σ, H, Q, q => by
    obtain ⟨ρ, W0, W, σ', hp, rs, rh, po⟩ := q
    refine tM_then rs rh po fun ρ1 H1 u v hp1 rs1 rh1 ru1 x1 po1 => ?_
    split at po1
    · rename_i x
      split at po1
      · rename_i hf
        cases ru1
        have e : ((⟨acc.toArray⟩ : Str) ++ (⟨x.toArray⟩ : Str)) = ⟨(acc ++ x).toArray⟩ := by
          show (⟨acc.toArray ++ x.toArray⟩ : Str) = _
          simp
        refine ⟨_, rfl, ?_, ?_⟩
        · rw [e]
          simpa [Str.length] using fits_le hf
        · rw [e]
          exact js_read ms (acc ++ x) σ H1 Q ⟨ρ1, W0, W, σ', hp1, rs1, rh1, po1⟩
      · exact po1.elim
    · exact po1.elim
def eFS (ms : List ME) : ME := eJoin ms []
theorem tM_fs {v1 v2 : Expr} {rest : List Expr} {ms : List ME} (h : PJ X (v1 :: v2 :: rest) (ms.map (tM P E))) : PE X (.JoinedStr (v1 :: v2 :: rest) pos) (tM P E (eFS ms)) := ⟨fun pins s σ H Q I q => (pe_joined h).run pins s σ H Q I (js_read ms [] σ H Q q)⟩
theorem tM_fs1 {e : Expr} {m : ME} (he : PE X e (tM P E m)) : PE X (.JoinedStr [e] pos) (tM P E m) := pe_joined1 he

/-! ### new dicts, in the logical heap -/
def eDict0 : ME := fun _ h => .ok (.ref h.n) (h.new (.dK [] []))
theorem tM_dict0 : PE X (.Dict [] [] pos) (tM P E eDict0) := ⟨fun pins s σ H Q I q => by
  obtain ⟨ρ, W0, W, σ', hp, rs, rh, po⟩ := q
  exact pe_dnewK.run pins s σ H Q I fun b hb => po _ _ _ (Ext.newRef hb) (rh.newRef hb (.dK upd_same rfl .nil)) (.ref rh.lastIx)⟩
end
end M7
end

noncomputable section
namespace M7
open PySem PySem.Spec PyProof.Rows L2

section
variable {P : Par} {ρ ρ1 ρ' ρ'' : List Addr} {W W' W'' : WS} {W0 : FW} {H H1 H' H'' : Hp} {hp hp' : HP} {E : XK} {Q : VK} {X : Cx} {pos : Pos} {D : Ends} {σ' : SS} {σ : L2.St}
/-! ### calls of methods that change an object of the logical heap -/
theorem lstRef (rh : RH P ρ W hp H) {n : Nat} {v : V} {us : List U} (r : RU P ρ W H (.ref n) v) (e : hp.m n = some (.lst us)) : ∃ a vs, v = .ref a ∧ ρ[n]? = some a ∧ H a = some (.lst vs) ∧ RUs P ρ W H us vs := by
  cases r with
  | @ref _ a h =>
    obtain ⟨b, hb, ro⟩ := rh.obj _ _ e
    rw [h] at hb
    cases hb
    cases ro with
    | lst hl rl => exact ⟨_, _, rfl, h, hl, rl⟩
/-- the list at n is another -/
theorem put_lst (rh : RH P ρ W hp H) {n : Nat} {a : Addr} {us : List U} {vs vs' : List V} (hn : ρ[n]? = some a) (h : H a = some (.lst vs)) (r : RUs P ρ W H us vs') : Ext ρ H ρ (upd H a (.lst vs')) ∧ RH P ρ W (hp.set n (.lst us)) (upd H a (.lst vs')) := by
  have ha := List.mem_of_getElem? hn
  have st : Stay ρ W H ρ W (upd H a (.lst vs')) := stay_at (.inl ha)
  exact ⟨Ext.refSet h ha, rh.refSet hn h (.lst upd_same (RUs.stay st r))⟩
section
variable {o e : Expr} {apos cpos : Pos} {mo m : ME}
/-- o.append(e) -/
def eAppH (mo m : ME) : ME := fun σ h => (mo σ h).bind fun u h1 => match u with
  | .ref n => match h1.m n with
    | some (.lst _) => (m σ h1).bind fun w h2 => match h2.m n with
      | some (.lst us) => match Nat.blt us.length 16777216 with
        | true => .ok .non (h2.set n (.lst (us ++ [w])))
        | false => .bad
      | _ => .bad
    | _ => .bad
  | _ => .bad
theorem tM_appH (ho : PE X o (tM P E mo)) (he : PE X e (tM P E m)) (hst : starEach [e] X.env = (false, eval e X.env) :: starEach [] X.env) (hbase : attributeBase o "append" X.env (eval o X.env) = eval o X.env)
    (hfew : ((backTo cpos (starEach [e] X.env)).all (fun x => !x.1) && (backToKw cpos (keywordEach [] X.env)).all (fun x => x.1.isSome)
      && decide ([e].length + ([] : List Keyword).length + (if ([] : List Keyword).isEmpty then 0 else 1) < 30)) = true)
    (hline : (apos.endLine == cpos.line) = true) (hpl : (backTo cpos (starEach [] X.env)).any (·.1) = false) : PE X (.Call (.Attribute o "append" apos) [e] [] cpos) (tM P E (eAppH mo m)) := ⟨fun pins s σ H Q I q => by
  refine (pe_bm PySem.F.plainAttrs_list PySem.F.slot_list_append PySem.F.type_list_append mt_append ho (pa_cons he pa_nil hst) hbase hfew hline hst hpl).run pins s σ H Q I ?_
  obtain ⟨ρ, W0, W, σ', hp, rs, rh, po⟩ := q
  refine tM_then rs rh po fun ρ1 H1 u v hp1 rs1 rh1 ru1 x1 po1 => ?_
  split at po1
  · rename_i n
    split at po1
    · rename_i us0 e0
      obtain ⟨a0, vs0, rfl, hn0, h0, _⟩ := lstRef rh1 ru1 e0
      refine ⟨.inl ⟨rfl, vs0, SqL.of h0⟩, tM_then rs1 rh1 po1 fun ρ2 H2 w y hp2 rs2 rh2 ru2 x2 po2 => ?_⟩
      split at po2
      · rename_i us e2
        split at po2
        · rename_i hl
          obtain ⟨a, vs, ea, hn, h, r⟩ := lstRef rh2 (ru1.ext x2) e2
          cases ea
          obtain ⟨x3, rh3⟩ := put_lst rh2 hn h (r.append (.cons ru2 .nil))
          exact ⟨a0, vs, y, rfl, rfl, h, by rw [← r.length, sizeLine_eq]; exact Nat.le_of_ble_eq_true hl, po2 ρ2 _ _ x3 rh3 .non⟩
        · exact po2.elim
      · exact po2.elim
    · exact po1.elim
  · exact po1.elim⟩
/-- o.extend(e), e a list that is tracked as one -/
def eExtH (mo m : ME) : ME := fun σ h => (mo σ h).bind fun u h1 => match u with
  | .ref n => match h1.m n with
    | some (.lst _) => (m σ h1).bind fun w h2 => match h2.m n with
      | some (.lst us) => match asLstT h2 w with
        | some ws => match fits (us.length + ws.length) with
          | true => .ok .non (h2.set n (.lst (us ++ ws)))
          | false => .bad
        | none => .bad
      | _ => .bad
    | _ => .bad
  | _ => .bad
theorem tM_extH (ho : PE X o (tM P E mo)) (he : PE X e (tM P E m)) (hst : starEach [e] X.env = (false, eval e X.env) :: starEach [] X.env) (hbase : attributeBase o "extend" X.env (eval o X.env) = eval o X.env)
    (hfew : ((backTo cpos (starEach [e] X.env)).all (fun x => !x.1) && (backToKw cpos (keywordEach [] X.env)).all (fun x => x.1.isSome)
      && decide ([e].length + ([] : List Keyword).length + (if ([] : List Keyword).isEmpty then 0 else 1) < 30)) = true)
    (hline : (apos.endLine == cpos.line) = true) (hpl : (backTo cpos (starEach [] X.env)).any (·.1) = false) : PE X (.Call (.Attribute o "extend" apos) [e] [] cpos) (tM P E (eExtH mo m)) := ⟨fun pins s σ H Q I q => by
  refine (pe_bm PySem.F.plainAttrs_list PySem.F.slot_list_extend PySem.F.type_list_extend mt_extend ho (pa_cons he pa_nil hst) hbase hfew hline hst hpl).run pins s σ H Q I ?_
  obtain ⟨ρ, W0, W, σ', hp, rs, rh, po⟩ := q
  refine tM_then rs rh po fun ρ1 H1 u v hp1 rs1 rh1 ru1 x1 po1 => ?_
  split at po1
  · rename_i n
    split at po1
    · rename_i us0 e0
      obtain ⟨a0, vs0, rfl, hn0, h0, _⟩ := lstRef rh1 ru1 e0
      refine ⟨.inl ⟨rfl, vs0, SqL.of h0⟩, tM_then rs1 rh1 po1 fun ρ2 H2 w y hp2 rs2 rh2 ru2 x2 po2 => ?_⟩
      split at po2
      · rename_i us e2
        split at po2
        · rename_i ws ew
          split at po2
          · rename_i hf
            obtain ⟨a, vs, ea, hn, h, r⟩ := lstRef rh2 (ru1.ext x2) e2
            cases ea
            obtain ⟨b, ys, rfl, hb, ry⟩ := asLstT_ok rh2 ru2 ew
            obtain ⟨x3, rh3⟩ := put_lst rh2 hn h (r.append ry)
            exact ⟨a0, b, vs, ys, rfl, rfl, h, hb, by rw [← r.length, ← ry.length]; exact fits_le hf, po2 ρ2 _ _ x3 rh3 .non⟩
          · exact po2.elim
        · exact po2.elim
      · exact po2.elim
    · exact po1.elim
  · exact po1.elim⟩
end

/-! ### new lists by an operation -/
def R.bindA (r : R) (f : U → HP → RA) : RA := R.rec (motive := fun _ => RA) (fun u h => f u h) (fun x h => .exc x h) .bad r
theorem PostC.from (x : Ext ρ H ρ' H') : ∀ {r : RA}, PostC P E ρ W H Q r → PostC P E ρ' W H' Q r
  | .ok _ _, h => fun ρ2 H2 vs p y rh ru hn => h ρ2 H2 vs p (x.trans y) rh ru hn
  | .exc _ _, h => fun ρ2 H2 c d y rh rx => h ρ2 H2 c d (x.trans y) rh rx
  | .bad, h => h
theorem tM_thenC {m : ME} {f : U → HP → RA} (rs : RSl P ρ W0 W H σ' σ) (rh : RH P ρ W hp H) (po : PostC P E ρ W H Q ((m σ' hp).bindA f)) {R' : VK}
    (k : ∀ ρ1 H1 u v hp1, RSl P ρ1 W0 W H1 σ' σ → RH P ρ1 W hp1 H1 → RU P ρ1 W H1 u v → Ext ρ H ρ1 H1 → PostC P E ρ1 W H1 Q (f u hp1) → R' v H1) : tM P E m σ H R' := by
  refine ⟨ρ, W0, W, σ', hp, rs, rh, ?_⟩
  cases e : m σ' hp with
  | ok u hp1 =>
    rw [e] at po
    exact fun ρ1 H1 v x rh1 ru => k ρ1 H1 u v hp1 (rs.ext rh x) rh1 ru x (PostC.from x po)
  | exc x hp1 => rw [e] at po; exact po
  | bad => rw [e] at po; exact po
theorem PostC.now {us : List U} {vs : List V} (po : PostC P E ρ W H Q (.ok us hp)) (rh : RH P ρ W hp H) (r : RUs P ρ W H us vs) : ∀ p, H p = none → Q (.ref p) (upd H p (.lst vs)) := fun p hn => po ρ H vs p Ext.refl rh r hn
/-- list + list -/
def cAdd (ma mb : ME) : MA := fun σ h => (ma σ h).bindA fun a h1 => (mb σ h1).bindA fun b h2 => match asLstT h2 a, asLstT h2 b with
  | some xs, some ys => if fits (xs.length + ys.length) = true then .ok (xs ++ ys) h2 else .bad
  | _, _ => .bad
theorem tC_add {a b : Expr} {ma mb : ME} (ha : PE X a (tM P E ma)) (hb : PE X b (tM P E mb)) : PE X (.BinOp a .Add b pos) (tMC P E (cAdd ma mb)) := ⟨fun pins s σ H Q I q => by
  refine (pe_op op_cat ha hb).run pins s σ H Q I ?_
  obtain ⟨ρ, W0, W, σ', hp, rs, rh, po⟩ := q
  refine tM_thenC rs rh po fun ρ1 H1 u v hp1 rs1 rh1 ru1 x1 po1 => tM_thenC rs1 rh1 po1 fun ρ2 H2 w y hp2 rs2 rh2 ru2 x2 po2 => ?_
  split at po2
  · rename_i xs ys ex ey
    split at po2
    · rename_i hf
      obtain ⟨l, vs, rfl, h1, r1⟩ := asLstT_ok rh2 (ru1.ext x2) ex
      obtain ⟨l', ws, rfl, h2, r2⟩ := asLstT_ok rh2 ru2 ey
      exact ⟨l, l', vs, ws, rfl, rfl, h1, h2, by rw [← r1.length, ← r2.length]; exact fits_le hf, PostC.now po2 rh2 (r1.append r2)⟩
    · exact po2.elim
  · exact po2.elim⟩
/-- list(e) -/
def cList (m : ME) : MA := fun σ h => (m σ h).bindA fun u h1 => match asSeq h1 u with
  | some xs => .ok xs h1
  | none => .bad
theorem tC_list {e : Expr} {m : ME} {p : Pos} (hK : X.K = P.K) (hg : Gl X "list") (hm : X.mg "list" = none) (hv : bootBuiltins "list" = some (.type "list")) (he : PE X e (tM P E m)) (q1 : starEach [e] X.env = (false, eval e X.env) :: starEach [] X.env) (q2 : (backTo pos (starEach [] X.env)).any (·.1) = false) :
    PE X (.Call (.Name "list" p) [e] [] pos) (tMC P E (cList m)) := ⟨fun pins s σ H Q I q => by
  refine (pe_callTy call_list_of hg hm hv (pa_cons he pa_nil q1) (by decide) (by decide) q1 q2).run pins s σ H Q I ?_
  obtain ⟨ρ, W0, W, σ', hp, rs, rh, po⟩ := q
  refine tM_thenC rs rh po fun ρ1 H1 u v hp1 rs1 rh1 ru1 x1 po1 => ?_
  split at po1
  · rename_i xs ex
    obtain ⟨a, vs, rfl, hq, r⟩ := asSeq_ok rh1 ru1 ex
    exact ⟨a, vs, rfl, by rw [hK]; exact hq, PostC.now po1 rh1 r⟩
  · exact po1.elim⟩
/-- dict(d), d of the logical heap -/
def eDictOf (m : ME) : ME := fun σ h => (m σ h).bind fun u h1 => match u with
  | .ref n => match h1.m n with
    | some (.dK ks us) => .ok (.ref h1.n) (h1.new (.dK ks us))
    | _ => .bad
  | _ => .bad
theorem tM_dictOf {e : Expr} {m : ME} {p : Pos} (hg : Gl X "dict") (hm : X.mg "dict" = none) (hv : bootBuiltins "dict" = some (.type "dict")) (he : PE X e (tM P E m)) (q1 : starEach [e] X.env = (false, eval e X.env) :: starEach [] X.env) (q2 : (backTo pos (starEach [] X.env)).any (·.1) = false) :
    PE X (.Call (.Name "dict" p) [e] [] pos) (tM P E (eDictOf m)) := ⟨fun pins s σ H Q I q => by
  refine (pe_callTy call_dictD hg hm hv (pa_cons he pa_nil q1) (by decide) (by decide) q1 q2).run pins s σ H Q I ?_
  obtain ⟨ρ, W0, W, σ', hp, rs, rh, po⟩ := q
  refine tM_then rs rh po fun ρ1 H1 u v hp1 rs1 rh1 ru1 x1 po1 => ?_
  split at po1
  · rename_i n
    split at po1
    · rename_i ks us eo
      obtain ⟨a, kvs, rfl, hn, h, rk⟩ := dictRef rh1 ru1 eo
      refine ⟨a, kvs, rfl, .inl h, fun b hb => ?_⟩
      exact po1 _ _ _ (Ext.newRef hb) (rh1.newRef hb (.dK upd_same rk.1 (RUs.ext (Ext.newRef hb) rk.2))) (.ref rh1.lastIx)
    · exact po1.elim
  · exact po1.elim⟩
end
end M7
end

noncomputable section
namespace M7
open PySem PySem.Spec PyProof.Rows L2

section
variable {P : Par} {ρ ρ1 ρ' ρ'' : List Addr} {W W' W'' : WS} {W0 : FW} {H H1 H' H'' : Hp} {hp hp' : HP} {E : XK} {Q : VK} {X : Cx} {pos : Pos} {σ' : SS} {σ : L2.St}
/-! ### {k: v, ..} -/
inductive RP where
  | ok (ps : List (KU × U)) (h : HP) | bad
abbrev MP := SS → HP → RP
def pNil : MP := fun _ h => .ok [] h
def pCons (mk mv : ME) (r : MP) : MP := fun σ h => match mk σ h with
  | .ok k h1 => match keyU k with
    | some kk => match mv σ h1 with
      | .ok u h2 => match r σ h2 with
        | .ok ps h3 => .ok ((kk, u) :: ps) h3
        | .bad => .bad
      | _ => .bad
    | none => .bad
  | _ => .bad
/-- the readings of a display's parts go with what is run -/
inductive TPs (P : Par) (E : XK) : List (TE × TE) → MP → Prop
  | nil : TPs P E [] pNil
  | cons {mk mv : ME} {trs : List (TE × TE)} {r : MP} (h : TPs P E trs r) : TPs P E ((tM P E mk, tM P E mv) :: trs) (pCons mk mv r)
theorem tps_read {trs : List (TE × TE)} {r : MP} (t : TPs P E trs r) : ∀ {ρ : List Addr} {W0 : FW} {W : WS} {H : Hp} {hp : HP} {σ' : SS} {σ : L2.St} {F : List (V × V) → Hp → Prop}, RSl P ρ W0 W H σ' σ → RH P ρ W hp H →
    (match r σ' hp with
      | .ok ps hp2 => ∀ ρ2 H2 kvs, Ext ρ H ρ2 H2 → RH P ρ2 W hp2 H2 → RKV P ρ2 W H2 (ps.map (·.1)) (ps.map (·.2)) kvs → F (kvs.map fun kv => (kV kv.1, kv.2)) H2
      | .bad => False) → tPairs trs σ H F := by
  induction t with
  | nil =>
    intro ρ W0 W H hp σ' σ F rs rh po
    exact po ρ H [] Ext.refl rh .nil
  | @cons mk mv trs r h ih =>
    intro ρ W0 W H hp σ' σ F rs rh po
    unfold pCons at po
    refine ⟨ρ, W0, W, σ', hp, rs, rh, ?_⟩
    cases ek : mk σ' hp with
    | bad => rw [ek] at po; exact po.elim
    | exc x h1 => rw [ek] at po; exact po.elim
    | ok k h1 =>
      rw [ek] at po
      dsimp only at po
      intro ρ1 H1 y x1 rh1 ru1
      cases ekk : keyU k with
      | none => rw [ekk] at po; exact po.elim
      | some kk =>
        rw [ekk] at po
        dsimp only at po
        have := keyU_ok ru1 ekk
        subst this
        refine ⟨ρ1, W0, W, σ', h1, rs.ext rh x1, rh1, ?_⟩
        cases ev : mv σ' h1 with
        | bad => rw [ev] at po; exact po.elim
        | exc x h2 => rw [ev] at po; exact po.elim
        | ok u h2 =>
          rw [ev] at po
          dsimp only at po
          intro ρ2 H2 z x2 rh2 ru2
          refine ih ((rs.ext rh x1).ext rh1 x2) rh2 ?_
          cases er : r σ' h2 with
          | bad => rw [er] at po; exact po.elim
          | ok ps h3 =>
            rw [er] at po
            dsimp only at po ⊢
            intro ρ3 H3 kvs x3 rh3 rk
            exact po ρ3 H3 ((kk.key, z) :: kvs) ((x1.trans x2).trans x3) rh3 ⟨(by rw [List.map_cons, List.map_cons, rk.1]; rfl), .cons (ru2.ext x3) rk.2⟩
def foldK : List (KU × U) → List KU → List U → List KU × List U
  | [], ks, us => (ks, us)
  | (k, u) :: r, ks, us => foldK r (putKU ks us k u).1 (putKU ks us k u).2
theorem foldK_ok : ∀ {ps : List (KU × U)} {more : List (Key × V)} {ks : List KU} {us : List U} {kvs : List (Key × V)}, RKV P ρ W H (ps.map (·.1)) (ps.map (·.2)) more → RKV P ρ W H ks us kvs → RKV P ρ W H (foldK ps ks us).1 (foldK ps ks us).2 (mergeK kvs more)
  | [], more, ks, us, kvs, h, r => by
    rcases h.shape with ⟨_, _, rfl⟩ | ⟨k, ks', u, us', v, kvs', e, _⟩
    · exact r
    · cases e
  | (k, u) :: ps, more, ks, us, kvs, h, r => by
    rcases h.shape with ⟨e, _⟩ | ⟨k', ks', u', us', v, kvs', e1, e2, rfl, ru, t⟩
    · cases e
    · rw [List.map_cons] at e1 e2
      injection e1 with a1 a2
      injection e2 with b1 b2
      subst a1 a2 b1 b2
      have z := foldK_ok (ps := ps) t (putKU_ok (x := k) ru r)
      exact z
def eDisp (r : MP) : ME := fun σ h => match r σ h with
  | .ok ps h1 => match Nat.ble ps.length 15 with
    | true => .ok (.ref h1.n) (h1.new (.dK (foldK ps [] []).1 (foldK ps [] []).2))
    | false => .bad
  | .bad => .bad
theorem tM_disp {keys : List (Option Expr)} {values : List Expr} {trs : List (TE × TE)} {r : MP} (h : PPs X pos keys values trs) (t : TPs P E trs r) (hall : keys.all (·.isSome) = true) (hl : keys.length = values.length) (h0 : keys ≠ []) (h15 : keys.length ≤ 15) :
    PE X (.Dict keys values pos) (tM P E (eDisp r)) := ⟨fun pins s σ H Q I q => by
  refine (pe_disp h hall hl h0 h15).run pins s σ H Q I fun b hb => ?_
  obtain ⟨ρ, W0, W, σ', hp, rs, rh, po⟩ := q
  have e0 : (upd H b (.dK [])) b = some (.dK []) := upd_same
  have d0 : del (upd H b (.dK [])) b = H := del_fresh hb
  have rs2 : RSl P ρ (W0.more b) (WA W b) (upd H b (.dK [])) σ' σ := rsl_in e0 (by rw [d0]; exact rh) (by rw [d0]; exact rs)
  have rh2 : RH P ρ (WA W b) hp (upd H b (.dK [])) := rh_in e0 (by rw [d0]; exact rh)
  have nb : b ∉ ρ := rh.notin hb
  refine tps_read t rs2 rh2 ?_
  unfold eDisp at po
  cases er : r σ' hp with
  | bad => rw [er] at po; exact po
  | ok ps h1 =>
    rw [er] at po
    dsimp only at po ⊢
    intro ρ2 H2 kvs x2 rh3 rk
    split at po
    rotate_left
    · exact po.elim
    rename_i hle
    have hb2 : H2 b = some (.dK []) := x2.keep b _ e0 nb
    refine ⟨hb2, kvs, rfl, ?_, ?_⟩
    · rw [rk.len, List.length_map]; exact Nat.le_of_ble_eq_true hle
    · have nb2 : b ∉ ρ2 := x2.notin e0 nb
      have d2 : Ext ρ H ρ2 (del H2 b) := by
        have := ext_out nb x2
        rw [d0] at this
        exact this
      have rk2 : RKV P ρ2 W (del H2 b) (ps.map (·.1)) (ps.map (·.2)) kvs := ⟨rk.1, RUs.stay stay_out rk.2⟩
      have fk := foldK_ok rk2 (RKV.nil (P := P) (ρ := ρ2) (W := W) (H := del H2 b))
      have rh4 : RH P ρ2 W h1 (del H2 b) := rh_out (rh.notW hb) rh3
      have hn : (del H2 b) b = none := del_same
      have e3 : upd H2 b (.dK (mergeK [] kvs)) = upd (del H2 b) b (.dK (mergeK [] kvs)) := by
        funext c
        by_cases hc : c = b
        · subst hc; rw [upd_same, upd_same]
        · rw [upd_ne hc, upd_ne hc, del_ne hc]
      rw [e3]
      exact po _ _ _ (d2.trans (Ext.newRef hn)) (rh4.newRef hn (.dK upd_same fk.1 (RUs.ext (Ext.newRef hn) fk.2))) (.ref rh4.lastIx)⟩

/-! ### d.update(e), both of the logical heap -/
def rUpd : V → List V → Hp → VK → Prop := fun x vs H Q => ∃ a b ka kb, x = .ref a ∧ vs = [.ref b] ∧ a ≠ b ∧ H a = some (.dK ka) ∧ H b = some (.dK kb) ∧ ka.length + kb.length ≤ sizeLine ∧ Q .non (upd H a (.dK (mergeK ka kb)))
theorem mt_upd : MtR X "dict.update" rUpd := by
  intro pins s σ H x vs v us Q I rx rv h
  obtain ⟨a, b, ka, kb, rfl, rfl, hne, ha, hb, hl, q⟩ := h
  cases rx
  obtain ⟨u, rfl, ru⟩ := rv.one
  obtain rfl : u = Value.ref b := ru
  obtain ⟨z1, l1, v1, r1, d1⟩ := dk_of I.hok ha
  obtain ⟨z2, l2, v2, r2, d2⟩ := dk_of I.hok hb
  refine call_meetsIn PySem.F.slot_dict_update d1.typeIs PySem.F.entry_dict_update (PySem.F.args_dict_update_2 _ _) (meets_dict_update (mixKind X.prog X.w) a b hne l2) ⟨v1, v2, d1, d2, by rw [← r1.length, ← r2.length]; exact hl, fun h' e1 e2 sb => ?_⟩
  have hz : (mergeK ka kb).length ≤ sizeLine := Nat.le_trans (length_mergeK kb ka) hl
  have he : ∃ q, h'.get? a = some q := let ⟨q, _, _, hq, _⟩ := e1; ⟨q, hq⟩
  exact ⟨.non, _, d_write I (by rw [ha]; exact True.intro) sb he (dk_new hz l1 (r2.merge r1) e1), rfl, q⟩
def eUpd (mo m : ME) : ME := fun σ h => (mo σ h).bind fun u h1 => match u with
  | .ref n => match h1.m n with
    | some (.dK _ _) => (m σ h1).bind fun w h2 => match w with
      | .ref k => match Nat.beq n k with
        | false => match h2.m n, h2.m k with
          | some (.dK ks us), some (.dK js ws) => match fits (ks.length + js.length) with
            | true => .ok .non (h2.set n (.dK (foldK (js.zip ws) ks us).1 (foldK (js.zip ws) ks us).2))
            | false => .bad
          | _, _ => .bad
        | true => .bad
      | _ => .bad
    | _ => .bad
  | _ => .bad
theorem RKV.zip : ∀ {js : List KU} {ws : List U} {kvs : List (Key × V)}, RKV P ρ W H js ws kvs → (js.zip ws).map (·.1) = js ∧ (js.zip ws).map (·.2) = ws := by
  intro js
  induction js with
  | nil =>
    intro ws kvs h
    rcases h.shape with ⟨_, rfl, rfl⟩ | ⟨k, ks', u, us', v, kvs', e, _⟩
    · exact ⟨rfl, rfl⟩
    · cases e
  | cons k ks ih =>
    intro ws kvs h
    rcases h.shape with ⟨e, _⟩ | ⟨k', ks', u, us', v, kvs', e, rfl, rfl, ru, t⟩
    · cases e
    · cases e
      obtain ⟨a, b⟩ := ih t
      exact ⟨by rw [List.zip_cons_cons, List.map_cons, a], by rw [List.zip_cons_cons, List.map_cons, b]⟩
theorem tM_upd {o e : Expr} {apos cpos : Pos} {mo m : ME} (ho : PE X o (tM P E mo)) (he : PE X e (tM P E m)) (hst : starEach [e] X.env = (false, eval e X.env) :: starEach [] X.env) (hbase : attributeBase o "update" X.env (eval o X.env) = eval o X.env)
    (hfew : ((backTo cpos (starEach [e] X.env)).all (fun x => !x.1) && (backToKw cpos (keywordEach [] X.env)).all (fun x => x.1.isSome)
      && decide ([e].length + ([] : List Keyword).length + (if ([] : List Keyword).isEmpty then 0 else 1) < 30)) = true)
    (hline : (apos.endLine == cpos.line) = true) (hpl : (backTo cpos (starEach [] X.env)).any (·.1) = false) : PE X (.Call (.Attribute o "update" apos) [e] [] cpos) (tM P E (eUpd mo m)) := ⟨fun pins s σ H Q I q => by
  refine (pe_bm PySem.F.plainAttrs_dict PySem.F.slot_dict_update PySem.F.type_dict_update mt_upd ho (pa_cons he pa_nil hst) hbase hfew hline hst hpl).run pins s σ H Q I ?_
  obtain ⟨ρ, W0, W, σ', hp, rs, rh, po⟩ := q
  refine tM_then rs rh po fun ρ1 H1 u v hp1 rs1 rh1 ru1 x1 po1 => ?_
  split at po1
  · rename_i n
    split at po1
    · rename_i k0 u0 e0
      obtain ⟨a0, kv0, rfl, hn0, h0, _⟩ := dictRef rh1 ru1 e0
      refine ⟨.inr (.inr (.inl ⟨rfl, .inl ⟨_, h0⟩⟩)), tM_then rs1 rh1 po1 fun ρ2 H2 w y hp2 rs2 rh2 ru2 x2 po2 => ?_⟩
      split at po2
      · rename_i k
        split at po2
        · rename_i hnk
          split at po2
          · rename_i ks us js ws e1 e2
            split at po2
            · rename_i hf
              obtain ⟨a, ka, ea, hn, ha, ra⟩ := dictRef rh2 (ru1.ext x2) e1
              cases ea
              obtain ⟨b, kb, rfl, hk, hb, rb⟩ := dictRef rh2 ru2 e2
              have hne : a0 ≠ b := fun z => by
                rw [← z] at hk
                have := (List.getElem?_inj (List.getElem?_eq_some_iff.mp hn).1 rh2.nd).mp (hn.trans hk.symm)
                exact Nat.ne_of_beq_eq_false hnk this
              obtain ⟨z1, z2⟩ := rb.zip
              have fk := foldK_ok (ps := js.zip ws) (by rw [z1, z2]; exact rb) ra
              have hm := List.mem_of_getElem? hn
              have st : Stay ρ2 W H2 ρ2 W (upd H2 a0 (.dK (mergeK ka kb))) := stay_at (.inl hm)
              refine ⟨a0, b, ka, kb, rfl, rfl, hne, ha, hb, ?_, po2 ρ2 _ _ (Ext.refSet ha hm) (rh2.refSet hn ha (.dK upd_same fk.1 (RUs.stay st fk.2))) .non⟩
              rw [ra.len, rb.len]
              exact fits_le hf
            · exact po2.elim
          · exact po2.elim
        · exact po2.elim
      · exact po2.elim
    · exact po1.elim
  · exact po1.elim⟩

/-! ### [.. for k in d] -/
def HP.hide (h : HP) (n : Nat) : HP := ⟨h.n, fun j => ifEq j n none (h.m j)⟩
def srcK (ks : List KU) : Src := fun _ i => some ((nthF ks i).map uOfK)
def jK (n : Nat) (ks : List KU) (m : ME) : MJ := fun σ h => match m σ h with
  | .ok (.ref k) h1 => match Nat.beq k n with
    | true => .ok (srcK ks) ks.length h1
    | false => .bad
  | _ => .bad
/-- the dict that is walked, locked -/
def tIK (P : Par) (E : XK) (m : ME) : TI := fun σ H R' => ∃ d od kvs ρ W0 W σ' hp n ks, H d = some (.frz od (.dK kvs)) ∧ ρ[n]? = some d ∧ kvs.map (·.1) = ks.map KU.key ∧ RSl P ρ W0 W H σ' σ ∧ RH P ρ W hp H ∧
  match jK n ks m σ' hp with
  | .ok s _ hp1 => ∀ ρ' H' J, Ext ρ H ρ' H' → RH P ρ' W hp1 H' → JOk P ρ' W H' J s → R' J H'
  | _ => False
theorem jok_keys {d : Addr} {od : Obj} {kvs : List (Key × V)} {ks : List KU} (h : H d = some (.frz od (.dK kvs))) (hk : kvs.map (·.1) = ks.map KU.key) : JOk P ρ W H (Itk d od kvs) (srcK ks) := by
  have hl : kvs.length = ks.length := by have := congrArg List.length hk; simpa using this
  intro ρ' W' H' hp' i st fk rh'
  have h' := fk _ _ _ h
  unfold srcK
  rw [nthF_eq]
  refine ⟨fun e => ?_, fun u e => ?_⟩
  · refine ⟨h', ?_⟩
    cases e2 : ks[i]? with
    | none => have := List.getElem?_eq_none_iff.mp e2; omega
    | some k => rw [e2] at e; cases e
  · cases e2 : ks[i]? with
    | none => rw [e2] at e; cases e
    | some k =>
      rw [e2] at e
      cases e
      have hi := (List.getElem?_eq_some_iff.mp e2).1
      refine ⟨⟨h', by omega⟩, fun x H'' y => ?_⟩
      obtain ⟨rfl, kk, v, ek, rfl⟩ := y
      have : kk = k.key := by
        have q1 : (kvs.map (·.1))[i]? = some kk := by rw [List.getElem?_map, ek]; rfl
        rw [hk, List.getElem?_map, e2] at q1
        exact (Option.some.inj q1).symm
      subst this
      exact ⟨Ext.refl, rh', uOfK_ok⟩
theorem tI_keys {tg e : Expr} {m : ME} (he : PE X e (tM P E m)) : PI X tg e (tIK P E m) := ⟨fun pins s σ H R' I q => by
  obtain ⟨d, od, kvs, ρ, W0, W, σ', hp, n, ks, hd, hn, hk, rs, rh, po⟩ := q
  refine (pi_keys he).run pins s σ H R' I ⟨ρ, W0, W, σ', hp, rs, rh, ?_⟩
  unfold jK at po
  split at po
  · rename_i src n1 hp1 ej
    split at ej
    · rename_i k h1 em
      split at ej
      · rename_i hb
        cases ej
        have hb := Nat.eq_of_beq_eq_true hb
        subst hb
        rw [em]
        intro ρ1 H1 v x1 rh1 ru1
        cases ru1 with
        | @ref _ a ha =>
          have hd1 : a = d := by
            have := x1.ix hn
            rw [ha] at this
            exact Option.some.inj this
          subst hd1
          have h1 := x1.frz _ _ _ hd
          exact ⟨a, od, rfl, .inl ⟨kvs, h1, po ρ1 H1 _ x1 rh1 (jok_keys h1 hk)⟩⟩
      · cases ej
    · cases ej
  · exact po.elim⟩
def cLcK (m : ME) (g : GT) (tt : MT) (b : BodyL) (vs : List Nat) : MA := fun σ h => match m σ h with
  | .ok (.ref n) _ => match h.m n with
    | some (.dK ks us) => match cLc (jK n ks m) g tt b vs σ (h.hide n) with
      | .ok ws h2 => .ok ws (h2.set n (.dK ks us))
      | _ => .bad
    | _ => .bad
  | _ => .bad
theorem RH.lock (rh : RH P ρ W hp H) {n : Nat} {d : Addr} {o u : HO} (hn : ρ[n]? = some d) (h : H d = some u) : RH P ρ W (hp.hide n) (upd H d o) := by
  have hd := List.mem_of_getElem? hn
  have th : ∀ b, (∃ v, H b = some v) → ∃ v, (upd H d o) b = some v := fun b ⟨v, e⟩ => by
    by_cases z : b = d
    · subst z; exact ⟨o, upd_same⟩
    · exact ⟨v, by rw [upd_ne z]; exact e⟩
  refine ⟨rh.len, rh.nd, rh.own, fun b hb => th b (rh.there b hb), fun b hb => th b (rh.wt b hb), fun i y e => ?_⟩
  have e' : (if i = n then none else hp.m i) = some y := (ifEq_eq _ _ _ _).symm.trans e
  split at e'
  · cases e'
  · rename_i hi
    obtain ⟨b, h1, r⟩ := rh.obj i y e'
    refine ⟨b, h1, r.stayAt (stay_at (.inl hd)) fun v e => ?_⟩
    have ne : b ≠ d := fun z => hi (by
      rw [z] at h1
      exact (List.getElem?_inj (List.getElem?_eq_some_iff.mp h1).1 rh.nd).mp (h1.trans hn.symm))
    rw [upd_ne ne]; exact e
theorem tLcK_of {is vs : List Nat} {g : GT} {tt : MT} {m e : ME} {H : Hp} (hi : ∀ i ∈ is, i ∈ vs) (q : tMC P E (cLcK m g tt (bElt e) vs) σ H Q) : tLockE (tLc (tIK P E m) (tG P is g) (tMT P noE tt) (tM P noE e) vs) σ H Q := by
  obtain ⟨ρ, W0, W, σ', hp, rs, rh, po⟩ := q
  unfold cLcK at po
  split at po
  · rename_i n h0 em
    split at po
    · rename_i ks us eo
      obtain ⟨d, hn, ro⟩ := rh.obj _ _ eo
      have hm := List.mem_of_getElem? hn
      cases ro with
      | @dK _ _ kvs hd hk rr =>
        refine ⟨d, .dK kvs, hd, True.intro, fun od => ?_⟩
        have x0 : Ext ρ H ρ (upd H d (.frz od (.dK kvs))) := Ext.refSet hd hm
        have rs0 := rs.ext rh x0
        have rh0 : RH P ρ W (hp.hide n) (upd H d (.frz od (.dK kvs))) := rh.lock hn hd
        refine ⟨d, od, kvs, ρ, W0, W, σ', hp.hide n, n, ks, upd_same, hn, hk, rs0, rh0, ?_⟩
        unfold cLc at po
        cases ej : jK n ks m σ' (hp.hide n) with
        | bad => rw [ej] at po; exact po
        | exc x h1 => rw [ej] at po; exact po
        | ok src n1 h1 =>
          rw [ej] at po
          dsimp only at po ⊢
          intro ρ1 H1 J x1 rh1 jok D hD
          refine lc_loop (F := fun H' => H' d = some (.frz od (.dK kvs)) ∧ Q (.ref D) (upd H' d (.dK kvs))) (tb := fun σ1 H2 Nx => tM P noE e σ1 H2 fun y H4 => ∃ acc, H4 D = some (.lst acc) ∧ acc.length < sizeLine ∧ Nx (upd H4 D (.lst (acc ++ [y])))) (rs0.ext rh0 x1) rh1 hD jok hi
            (fun ρ2 hp2 acc H2 σ1' σ1 Nx l2 rs2 _ po2 => bElt_ok l2 rs2 po2) (acc := .lst []) (LcI.start rh1 hD (.lst upd_same .nil)) (n := n1) ?_
          cases el : lcG g tt (bElt e) vs src n1 0 (.lst []) σ' h1 with
          | bad => rw [el] at po; exact po
          | ok o h2 =>
            rw [el] at po
            intro ρ2 H2 l2
            cases o with
            | dK ks us => exact po.elim
            | ins C ns us => exact po.elim
            | dN ks us => exact po.elim
            | lst ws =>
              dsimp only at po
              cases l2.at' with
              | @lst _ vs2 hD2 r2 =>
                have hd1 : H1 d = some (.frz od (.dK kvs)) := x1.frz _ _ _ upd_same
                have hd2 : H2 d = some (.frz od (.dK kvs)) := l2.fk _ _ _ hd1
                have nDd : D ≠ d := fun z => by rw [z, hd1] at hD; cases hD
                refine ⟨hd2, ?_⟩
                have xt := x1.trans l2.ext
                have dd : (del H2 D) d = some (.frz od (.dK kvs)) := by rw [del_ne (Ne.symm nDd)]; exact hd2
                have nd : ∀ b o, H b = some o → b ∉ ρ → b ≠ d := fun b o _ n z => n (z ▸ hm)
                have xf : Ext ρ H ρ2 (upd (del H2 D) d (.dK kvs)) := by
                  obtain ⟨t, et, ht⟩ := xt.pre
                  refine ⟨⟨t, et, fun b hb => ?_⟩, fun b o q n => ?_, fun b o q => ?_, fun b ob u q => ?_⟩
                  · have := ht b hb
                    by_cases z : b = d
                    · rw [z, upd_same] at this; cases this
                    · rw [upd_ne z] at this; exact this
                  · have z := nd b o q n
                    rw [upd_ne z]
                    exact xt.keep b o (by rw [upd_ne z]; exact q) n
                  · by_cases z : b = d
                    · rw [z]; exact ⟨_, upd_same⟩
                    · rw [upd_ne z]
                      exact xt.there b o (by rw [upd_ne z]; exact q)
                  · have z : b ≠ d := fun z => by rw [z, hd] at q; cases q
                    rw [upd_ne z]
                    exact xt.frz b ob u (by rw [upd_ne z]; exact q)
                have st : Stay ρ W H ρ2 W (upd (del H2 D) d (.dK kvs)) := xf.stay
                have hn2 : ρ2[n]? = some d := xf.ix hn
                have rhf : RH P ρ2 W (h2.set n (.dK ks us)) (upd (del H2 D) d (.dK kvs)) := l2.rh.refSet hn2 dd (.dK upd_same hk (RUs.stay st rr))
                have st2 : Stay ρ2 W (del H2 D) ρ2 W (upd (del H2 D) d (.dK kvs)) := stay_at (.inl (List.mem_of_getElem? hn2))
                have fin := po ρ2 _ vs2 D xf rhf (RUs.stay st2 (RUs.stay stay_out r2)) (by rw [upd_ne nDd]; exact del_same)
                have eq : upd (upd (del H2 D) d (.dK kvs)) D (.lst vs2) = upd H2 d (.dK kvs) := by
                  funext c
                  by_cases hc : c = D
                  · subst hc; rw [upd_same, upd_ne nDd, hD2]
                  · rw [upd_ne hc]
                    by_cases hc2 : c = d
                    · subst hc2; rw [upd_same, upd_same]
                    · rw [upd_ne hc2, upd_ne hc2, del_ne hc]
                rw [← eq]
                exact fin
    · exact po.elim
  · exact po.elim
theorem tC_lcK {elt tg iter : Expr} {ifs : List Expr} {scope : Scope} {own : List (Str × Nat)} {is : List Nat} {g : GT} {tt : MT} {m e : ME} (hc : X.calm = true) (hN : X.N.Nodup) (hi : PE X iter (tM P E m)) (ok : BlkOk X.N X.env.scope scope own) (his : ∀ i ∈ is, i ∈ own.map (·.2))
    (hg : ∀ (s : Shared) (H : Hp) (C : Addr) (cl : List (Str × Addr)) (fp : List Addr), PG (X.blk s H scope (compEnvC scope cl C X.env) fp) tg (tG P is g)) (ht : ∀ (s : Shared) (H : Hp) (C : Addr) (cl : List (Str × Addr)) (fp : List Addr), PTs (X.blk s H scope (compEnvC scope cl C X.env) fp) ifs (tMT P noE tt))
    (he : ∀ (s : Shared) (H : Hp) (C : Addr) (cl : List (Str × Addr)) (fp : List Addr), PE (X.blk s H scope (compEnvC scope cl C X.env) fp) elt (tM P noE e)) (hs : ∀ x, foldedSetIterable iter X.env x = pure x) :
    PE X (.ListComp elt [⟨tg, iter, ifs, 0⟩] scope pos) (tMC P E (cLcK m g tt (bElt e) (own.map (·.2)))) := ⟨fun pins s σ H Q I q => (pe_lock (pe_lc hc hN (tI_keys hi) ok hg ht he hs)).run pins s σ H Q I (tLcK_of his q)⟩
end
end M7
end

noncomputable section
namespace M7
open PySem PySem.Spec PyProof.Rows L2

section
variable {P : Par} {ρ ρ1 ρ' ρ'' : List Addr} {W W' W'' : WS} {W0 : FW} {H H1 H' H'' : Hp} {hp hp' : HP} {E : XK} {Q : VK} {X : Cx} {pos : Pos} {D : Ends} {σ' : SS} {σ : L2.St}
/-! ### starred arguments -/
def aStarA (m : ME) (ma : MA) : MA := fun σ h => match m σ h with
  | .ok u h1 => match asSeq h1 u with
    | some xs => match ma σ h1 with
      | .ok ys h2 => .ok (xs ++ ys) h2
      | .exc x h2 => .exc x h2
      | .bad => .bad
    | none => .bad
  | .exc x h1 => .exc x h1
  | .bad => .bad
theorem tMA_star {e : Expr} {es : List Expr} {p : Pos} {m : ME} {ma : MA} (hK : X.K = P.K) (he : PE X e (tM P E m)) (hs : PA X es (tMA P E ma)) (hst : starEach (.Starred e p :: es) X.env = (true, eval e X.env) :: starEach es X.env) : PA X (.Starred e p :: es) (tMA P E (aStarA m ma)) :=
  ⟨fun pos pins s σ H Q I q => by
  obtain ⟨ρ, W0, W, σ', hp, rs, rh, po⟩ := q
  refine (StX.pa_star he hs hst).run pos pins s σ H Q I ?_
  unfold aStarA at po
  refine ⟨ρ, W0, W, σ', hp, rs, rh, ?_⟩
  cases e1 : m σ' hp with
  | bad => rw [e1] at po; exact po
  | exc x hp1 => rw [e1] at po; exact po
  | ok u hp1 =>
    rw [e1] at po
    dsimp only at po
    intro ρ1 H1 v x1 rh1 ru1
    cases e2 : asSeq hp1 u with
    | none => rw [e2] at po; exact po.elim
    | some xs =>
      rw [e2] at po
      dsimp only at po
      obtain ⟨a, vs, rfl, hq, r⟩ := asSeq_ok rh1 ru1 e2
      refine ⟨a, vs, rfl, by rw [hK]; exact hq.symm, ρ1, W0, W, σ', hp1, rs.ext rh x1, rh1, ?_⟩
      cases e3 : ma σ' hp1 with
      | bad => rw [e3] at po; exact po.elim
      | exc x hp2 => rw [e3] at po; exact fun ρ2 H2 c d x2 rh2 rx => po ρ2 H2 c d (x1.trans x2) rh2 rx
      | ok us hp2 =>
        rw [e3] at po
        exact fun ρ2 H2 ws x2 rh2 rus => po ρ2 H2 (vs ++ ws) (x1.trans x2) rh2 ((RUs.ext x2 r).append rus)⟩
section
variable {CX : CXT} {lv k C i : Nat} {f : Addr} {fd : FuncData} {ps : List Str} {fi : FI} {fm : FM} {dus : List U} {dvs : List V} {ds : List Value} {x m : Str} {p apos : Pos} {e o : Expr} {es : List Expr} {ma : MA}
/-- C(e, .., *r) -/
theorem tM_makeS {g : RI → R} (hig : IsMk C g) (M : Mk X.K (P.cA C) f) (F : FnOk X.prog X.w X.K X.mg X.base CX lv f fd ps (spI P C k fi)) (hr : Room (lv + 1) X.A) (hg : Gl X x) (hm : X.mg x = some (.ref (P.cA C))) (hb : Binds X.K fd ps ds) (hd : Vals dvs ds) (hD : Defs P dus dvs) (hx : Passes CX X E)
    (ha : PA X (e :: es) (tMA P E ma)) (hdb : (x == ("__debug__" : Str)) = false) (he : starEach (e :: es) X.env = (false, eval e X.env) :: starEach es X.env) (hpl : (backTo pos (starEach es X.env)).any (·.1) = true) :
    PE X (.Call (.Name x p) (e :: es) [] pos) (tM P E (eMake k g fi dus ma)) :=
  ⟨fun pins s σ H Q I q => by
  refine wpAny_Call_Name_kw (ld_glob I hg hm ?_ hdb)
  obtain ⟨ρ, W0, W, σ', hp, rs, rh, po⟩ := q
  refine PySem.W.callWith_S2 (h₀ := X.base) I.ok.mod.kin M.kp (thn (ha.run pos pins s σ H (fun vs H1 => ∀ y dx, H1 y = none → H1 dx = none → dx ≠ y → spI P C k fi (.ref y :: (vs ++ dvs)) (upd (upd H1 dx (.own y)) y (.ins (P.cA C) dx [])) (fun v H2 => v = .non ∧ Q (.ref y) H2) E) I
    (tMA_then rs rh po fun ρ1 H1 us vs hp1 rs1 rh1 ru1 x1 po1 => ?_)) fun us s1 ⟨vs, H1, I1, r, q1⟩ => ⟨I1.kIn, run_make M F hr hb hd hx I1 r q1⟩) he hpl
  split at po1
  · rename_i hl
    exact post_make hig (Nat.eq_of_beq_eq_true hl) rh1 (ru1.append (hD ρ1 W H1)) po1
  · exact po1.elim⟩
/-- x(e, ..), x a local name that holds the class -/
def eMakeL (i C k : Nat) (g : RI → R) (f : FI) (dus : List U) (ma : MA) : ME := fun σ h => match nthF σ i with
  | some (.val (.cls D)) => match Nat.beq D C with
    | true => eMake k g f dus ma σ h
    | false => .bad
  | _ => .bad
theorem cls_slot (rs : RSl P ρ W0 W H σ' σ) (e : σ'[i]? = some (Sl.val (.cls C))) : σ[i]? = some (some (V.ref (P.cA C))) := by
  obtain ⟨v, h1, h2⟩ := rs.val i _ e
  cases h2
  exact h1
theorem makeL_run {g : RI → R} (hig : IsMk C g) (M : Mk X.K (P.cA C) f) (F : FnOk X.prog X.w X.K X.mg X.base CX lv f fd ps (spI P C k fi)) (hr : Room (lv + 1) X.A) (hN : X.N[i]? = some x) (hv : Vis X.env.scope x) (hb : Binds X.K fd ps ds) (hd : Vals dvs ds) (hD : Defs P dus dvs) (hx : Passes CX X E)
    (ha : PA X (e :: es) (tMA P E ma)) (hdb : (x == ("__debug__" : Str)) = false) (hcd : (x == ("__classdict__" : Str)) = false) (he : starEach (e :: es) X.env = (false, eval e X.env) :: starEach es X.env) (hpl : (backTo pos (starEach es X.env)).any (·.1) = false) :
    PE X (.Call (.Name x p) (e :: es) [] pos) (tM P E (eMakeL i C k g fi dus ma)) :=
  ⟨fun pins s σ H Q I q => by
  obtain ⟨ρ, W0, W, σ', hp, rs, rh, po⟩ := q
  unfold eMakeL at po
  split at po
  · rename_i D eD
    rw [nthF_eq] at eD
    split at po
    · rename_i hc
      have hc := Nat.eq_of_beq_eq_true hc
      subst hc
      refine wpAny_Call_Name_kw (thn ((pe_var (pos := p) hN hv hdb hcd).run pins s σ H (fun v H1 => v = .ref (P.cA D) ∧ H1 = H) I ⟨_, cls_slot rs eD, rfl, rfl⟩) fun u s1 ⟨v, H1, I1, r1, q1⟩ => ?_)
      obtain ⟨rfl, rfl⟩ := q1
      cases r1
      refine PySem.W.callWith_K (h₀ := X.base) I.ok.mod.kin M.kp (thn (ha.run pos pins s1 σ _ (fun vs H1 => ∀ y dx, H1 y = none → H1 dx = none → dx ≠ y → spI P D k fi (.ref y :: (vs ++ dvs)) (upd (upd H1 dx (.own y)) y (.ins (P.cA D) dx [])) (fun v H2 => v = .non ∧ Q (.ref y) H2) E) I1
        (tMA_then rs rh po fun ρ1 H1 us vs hp1 rs1 rh1 ru1 x1 po1 => ?_)) fun us s2 ⟨vs, H2, I2, r, q2⟩ => ⟨I2.kIn, run_make M F hr hb hd hx I2 r q2⟩) he hpl
      split at po1
      · rename_i hl
        exact post_make hig (Nat.eq_of_beq_eq_true hl) rh1 (ru1.append (hD ρ1 W H1)) po1
      · exact po1.elim
    · exact po.elim
  · exact po.elim⟩
theorem makeL0_run {g : RI → R} (hig : IsMk C g) (M : Mk X.K (P.cA C) f) (F : FnOk X.prog X.w X.K X.mg X.base CX lv f fd ps (spI P C k fi)) (hr : Room (lv + 1) X.A) (hN : X.N[i]? = some x) (hv : Vis X.env.scope x) (hb : Binds X.K fd ps ds) (hd : Vals dvs ds) (hD : Defs P dus dvs) (hx : Passes CX X E)
    (hdb : (x == ("__debug__" : Str)) = false) (hcd : (x == ("__classdict__" : Str)) = false) :
    PE X (.Call (.Name x p) [] [] pos) (tM P E (eMakeL i C k g fi dus aNil)) :=
  ⟨fun pins s σ H Q I q => by
  obtain ⟨ρ, W0, W, σ', hp, rs, rh, po⟩ := q
  unfold eMakeL at po
  split at po
  · rename_i D eD
    rw [nthF_eq] at eD
    split at po
    · rename_i hc
      have hc := Nat.eq_of_beq_eq_true hc
      subst hc
      refine wpAny_Call_Name_kw (thn ((pe_var (pos := p) hN hv hdb hcd).run pins s σ H (fun v H1 => v = .ref (P.cA D) ∧ H1 = H) I ⟨_, cls_slot rs eD, rfl, rfl⟩) fun u s1 ⟨v, H1, I1, r1, q1⟩ => ?_)
      obtain ⟨rfl, rfl⟩ := q1
      cases r1
      have po1 : PostE P E ρ W H1 Q (match Nat.beq ([] ++ dus).length k with | true => g (fi ([] ++ dus) hp) | false => .bad) := po
      split at po1
      · rename_i hl
        exact PySem.W.callWith_K0 I1.kIn M.kp (run_make (us := []) (vs := []) M F hr hb hd hx I1 .nil (post_make hig (Nat.eq_of_beq_eq_true hl) rh (hD ρ W H1) po1))
      · exact po1.elim
    · exact po.elim
  · exact po.elim⟩
/-- C.m(e, ..), m a classmethod -/
def eCm (C k : Nat) (f : FM) (dus : List U) (ma : MA) : ME := fun σ h => (ma σ h).bind fun us h1 => match Nat.beq (.cls C :: (us ++ dus)).length k with
  | true => f (.cls C :: (us ++ dus)) h1
  | false => .bad
theorem tM_cm {mc : Value} {pp g : Addr} {pl : Sem Bool} (hg : Gl X x) (hm : X.mg x = some (.ref (P.cA C))) (hdb : (x == ("__debug__" : Str)) = false) (r : ClX.CRead X.K (P.cA C) mc) (c : ClX.CMet X.K (P.cA C) mc m pp g) (F : FnOk X.prog X.w X.K X.mg X.base CX lv g fd ps (spM P k fm)) (hr : Room lv X.A)
    (hb : Binds X.K fd ps ds) (hd : Vals dvs ds) (hD : Defs P dus dvs) (hx : Passes CX X E) (ha : PA X (e :: es) (tMA P E ma)) (hst : starEach (e :: es) X.env = (false, eval e X.env) :: starEach es X.env) (hpl : (backTo pos (starEach es X.env)).any (·.1) = false)
    (ht : eval (.Call (.Attribute (.Name x p) m apos) (e :: es) [] pos) X.env = (do
      let ov ← eval (.Name x p) X.env
      standAt apos.atName
      let (f, first) ← holding [ov] (getMethod ov m pl)
      callWith pos f first (backTo pos (starEach (e :: es) X.env)) (backToKw pos (keywordEach [] X.env)))) :
    PE X (.Call (.Attribute (.Name x p) m apos) (e :: es) [] pos) (tM P E (eCm C k fm dus ma)) :=
  ⟨fun pins s σ H Q I q => by
  refine (ClX.pe_cmeth (pe_glob hg hm (show RelV (.ref (P.cA C)) (.ref (P.cA C)) from rfl) hdb) r c (F.raw hb hd) hr hx ha hst hpl ht).run pins s σ H Q I ⟨rfl, ?_⟩
  obtain ⟨ρ, W0, W, σ', hp, rs, rh, po⟩ := q
  refine tMA_then rs rh po fun ρ1 H1 us vs hp1 rs1 rh1 ru1 x1 po1 => ?_
  split at po1
  · rename_i hl
    have r := RUs.append (.cons (RU.cls C) ru1) (hD ρ1 W H1)
    exact ⟨by rw [← r.length]; exact Nat.eq_of_beq_eq_true hl, ρ1, W, _, hp1, r, rh1, po1⟩
  · exact po1.elim⟩
end
/-! ### o.f += e, whole numbers, o in the logical heap -/
def sFldAugI (f : Nat) (Cs : List Nat) (mo m : ME) : MS := fun σ h => (mo σ h).bindS fun w h1 => match w with
  | .ref n => match h1.m n with
    | some (.ins C ns us) => match memN C Cs with
      | true => match fldU ns us f with
        | some (.int i) => (m σ h1).bindS fun u h2 => match u with
          | .int j => match h2.m n with
            | some (.ins C2 ns2 us2) => match Nat.blt ns2.length 1000 with
              | true => match Nat.beq C2 C with
                | true => .nx σ (h2.set n (.ins C2 (putU ns2 us2 f (.int (i + j))).1 (putU ns2 us2 f (.int (i + j))).2))
                | false => .bad
              | false => .bad
            | _ => .bad
          | _ => .bad
        | _ => .bad
      | false => .bad
    | _ => .bad
  | _ => .bad
theorem tS_fldAugI {o e : Expr} {f : Nat} {x : Str} {Cs : List Nat} {mo m : ME} {tpos : Pos} (nmi : ∀ i j, P.nm i = P.nm j → i = j) (hK : X.K = P.K) (hF : FldF P f Cs) (hx : P.nm f = x) (ho : PE X o (tM P E mo)) (he : PE X e (tM P E m)) :
    PS X (.AugAssign (.Attribute o x tpos) .Add e pos) (tS P E (sFldAugI f Cs mo m)) := ⟨fun pins s σ H D I q => by
  obtain ⟨ρ, W0, W, σ', hp, rs, rh, po⟩ := q
  refine (ps_fldaug ho he in_add).run pins s σ H D I (tM_thenS rs rh po fun ρ1 H1 w y hp1 rs1 rh1 ru1 x1 po1 => ?_)
  split at po1
  · rename_i n
    split at po1
    · rename_i C ns us ei
      split at po1
      · rename_i hm
        split at po1
        · rename_i i ef
          obtain ⟨a, dx, fs, rfl, hn, h1, h2, h3⟩ := insRef rh1 ru1 ei
          obtain ⟨c1, c2⟩ := hF C (memN_mem hm)
          obtain ⟨v, h4, h5⟩ := fldU_ok nmi h2 h3 ef
          cases h5
          rw [hx] at c2 h4
          refine ⟨a, _, dx, fs, _, rfl, h1, by rw [hK]; exact c1, by rw [hK]; exact c2, h4, tM_thenS rs1 rh1 po1 fun ρ2 H2 u z hp2 rs2 rh2 ru2 x2 po2 => ?_⟩
          split at po2
          · rename_i j
            split at po2
            · rename_i C2 ns2 us2 ei2
              split at po2
              · rename_i hl
                split at po2
                · rename_i hc
                  have hc := Nat.eq_of_beq_eq_true hc
                  subst hc
                  obtain ⟨a', dx', fs', ea, hn', h1', h2', h3'⟩ := insRef rh2 (ru1.ext x2) ei2
                  cases ea
                  cases ru2
                  obtain ⟨p1, p2⟩ := putU_ok nmi (f := f) (RU.int (i + j)) h2' h3'
                  rw [hx] at p1 p2
                  have hl' : fs'.length < 1000 := by rw [len_fs h2']; exact Nat.le_of_ble_eq_true hl
                  have ha := List.mem_of_getElem? hn'
                  exact ⟨i, j, rfl, rfl, dx', fs', h1', hl', po2 ρ2 W _ σ (Ext.refSet h1' ha).toS (rs2.refSet rh2 ha ⟨_, h1', by intro _ _ z; cases z⟩) (rh2.refSet hn' h1' (.ins upd_same p1 (RUs.stay (stay_at (.inl ha)) p2)))⟩
                · exact po2.elim
              · exact po2.elim
            · exact po2.elim
          · exact po2.elim
        · exact po1.elim
      · exact po1.elim
    · exact po1.elim
  · exact po1.elim⟩
end
end M7
end

noncomputable section
namespace M7
open PySem PySem.Spec PyProof.Rows L2
section
variable {P : Par} {X : Cx} {E : XK}
/-! ### the operators, whatever the values are -/
def gAddAny : G2 := gOr (gOr (gII fun i j => some (i + j)) gAddS) (gOr gAddL gAddT)
end
section
variable {P' : Program} {w : World} {K : PySem.W.Frag} {mg : Str → Option Value} {base : Heap} {N : List Str} {qual : Str} {scope : Scope} {f : Addr} {cdv : Value} {A : Around} {outer : List Env} {s : Shared} {H : Hp} {E : XK}
theorem pass_own : Passes (L2.CX P' w) (cxOf (L2.CX P' w) P' w K mg base N qual scope f cdv A outer s H E) E := passes_call (takes_of rfl rfl rfl rfl) fun _ _ _ _ h => h
theorem loops_own : PassesOwn (model (cxOf (L2.CX P' w) P' w K mg base N qual scope f cdv A outer s H E).prog (cxOf (L2.CX P' w) P' w K mg base N qual scope f cdv A outer s H E).w) (cxOf (L2.CX P' w) P' w K mg base N qual scope f cdv A outer s H E).A (cxOf (L2.CX P' w) P' w K mg base N qual scope f cdv A outer s H E).env (cxOf (L2.CX P' w) P' w K mg base N qual scope f cdv A outer s H E).xe := passes_of rfl
end
end M7
end

noncomputable section
namespace M7
open PySem PySem.Spec PyProof.Rows L2
section
variable {P : Par} {ρ ρ' ρ'' : List Addr} {W W' W'' : WS} {W0 : FW} {H H' H'' : Hp} {hp : HP} {E : XK} {Q : VK} {X : Cx} {pos : Pos} {D : Ends}
/-! ### a def with defaults -/
theorem fnD {P' : Program} {w : World} {K : PySem.W.Frag} {mg : Str → Option Value} {base : Heap} {x qual : Str} {params : Arguments} {bd : List Stmt} {sc : Scope} {dvs : List V} {kws : List (Str × V)} {f : Addr} {fd : FuncData} {N ps : List Str} {k : Nat} {body : MS} (F : FunD K x qual params bd sc dvs kws f fd) (S : FnScope N ps sc)
    (hb : ∀ (cdv : Value) (A : Around) (outer : List Env) (s : Shared) (H : Hp) (E : XK), Room k (A.deeper (envOfC qual sc s.heap.objs.size f cdv)) →
      PSs (cxOf (L2.CX P' w) P' w K mg base N qual sc f cdv A outer s H E) bd (tS P E body)) : FnOk P' w K mg base (L2.CX P' w) (k + 1) f fd ps (spM P ps.length (runF N.length ps.length body)) := by
  refine F.ok S (fun vs H Q E h => h.1) (fun cdv A outer s H vs Q E hr h => ⟨tS P E body, hb cdv A outer s H E hr, ?_⟩)
  obtain ⟨hl, ρ, W, us, hp, ru, rh, po⟩ := h
  refine ⟨ρ, ⟨W, none⟩, W, startU N.length us, hp, start_ok ru N, rh, ?_⟩
  unfold runF at po
  split at po
  · cases e : body (startU N.length us) hp with
    | nx σ1 h1 =>
      rw [e] at po
      exact fun ρ' W' H' σ x rs rh' => po ρ' H' .non x.toE' (rh'.weak rs.sub) .non
    | rt u h1 =>
      rw [e] at po
      exact fun ρ' W' H' v x w rh' ru' => po ρ' H' v x.toE' (rh'.weak w) (ru'.weak w)
    | exc u h1 =>
      rw [e] at po
      exact fun ρ' W' H' c d x w rh' rx => po ρ' H' c d x.toE' (rh'.weak w) (rx.weak w)
    | ct σ1 h1 => rw [e] at po; exact po.elim
    | bk σ1 h1 => rw [e] at po; exact po.elim
    | bad => rw [e] at po; exact po.elim
  · exact po.elim
theorem initD {P' : Program} {w : World} {K : PySem.W.Frag} {mg : Str → Option Value} {base : Heap} {x qual : Str} {params : Arguments} {bd : List Stmt} {sc : Scope} {dvs : List V} {kws : List (Str × V)} {f : Addr} {fd : FuncData} {N ps : List Str} {k C : Nat} {body : MS} (F : FunD K x qual params bd sc dvs kws f fd) (S : FnScope N ps sc)
    (hb : ∀ (cdv : Value) (A : Around) (outer : List Env) (s : Shared) (H : Hp) (E : XK), Room k (A.deeper (envOfC qual sc s.heap.objs.size f cdv)) →
      PSs (cxOf (L2.CX P' w) P' w K mg base N qual sc f cdv A outer s H E) bd (tS P E body)) (hps : ps.length = (ps.length - 1) + 1) : FnOk P' w K mg base (L2.CX P' w) (k + 1) f fd ps (spI P C (ps.length - 1) (initF N.length (ps.length - 1) C body)) := by
  refine F.ok S (fun vs H Q E h => ?_) (fun cdv A outer s H vs Q E hr h => ⟨tS P E body, hb cdv A outer s H E hr, ?_⟩)
  · obtain ⟨a, dx, vs', rfl, h1, _⟩ := h
    rw [List.length_cons, h1]
    exact hps.symm
  obtain ⟨a, dx, vs', rfl, hl, ha, ρ, W, us, hp, np, nw, ru, rh, po⟩ := h
  refine ⟨ρ, ⟨W, some a⟩, WI W a, startI N.length C us, hp, startI_ok nw ha ru N, rh, ?_⟩
  unfold initF at po
  split at po
  · cases e : body (startI N.length C us) hp with
    | nx σ1 h1 =>
      rw [e] at po
      intro ρ' W' H' σ x rs rh'
      unfold endI at po
      split at po
      · rename_i C' ns fs tl h2 e2
        cases e2
        split at po
        · rename_i hc
          have hc := Nat.eq_of_beq_eq_true hc
          subst hc
          obtain ⟨b, q1, q2, q3, q4, q5⟩ := rs.own 0 _ rfl
          have h0 := q5 rfl
          cases h0
          exact po ρ' W' H' x rs.sub q2 rh' q4
        · exact po.elim
      · rename_i e2; cases e2
      · exact po.elim
    | exc u h1 =>
      rw [e] at po
      exact fun ρ' W' H' c d x w rh' rx => po ρ' W' H' c d x w rh' rx
    | ct σ1 h1 => rw [e] at po; exact po.elim
    | bk σ1 h1 => rw [e] at po; exact po.elim
    | bad => rw [e] at po; exact po.elim
    | rt u h1 => rw [e] at po; exact po.elim
  · exact po.elim
end
/-! ### the head's Hook: defs, and any Bool of the written part -/
def chkB (ex : List (PySem.W.Frag → Bool)) (K : PySem.W.Frag) : Bool := ex.all fun g => g K
def obsM (fn : List He5.DefA) (ex : List (PySem.W.Frag → Bool)) (K : PySem.W.Frag) : He.AlD := (chkB ex K && fn.all fun d => d.ok K, fn.map fun d => He5.fnA K (d.at_ K))
def valM (fn : List He5.DefA) : He.AlD := (true, fn.map He5.DefA.val)
def SaysM (fn : List He5.DefA) (ex : List (PySem.W.Frag → Bool)) (K : PySem.W.Frag) : Prop := obsM fn ex K = valM fn
/-- the list's spine and its numbers first -/
def frL {α : Type} : List Addr → (List Addr → α) → α
  | [], k => k []
  | a :: as, k => HandSHeadRun.frNat a fun a => frL as fun as => k (a :: as)
theorem frL_eq {α : Type} : ∀ (l : List Addr) (k : List Addr → α), frL l k = k l
  | [], k => rfl
  | a :: as, k => by
    unfold frL
    rw [HandSHeadRun.frNat_eq, frL_eq as]
def frK {α : Type} : PySem.W.Frag → (PySem.W.Frag → α) → α
  | [], k => k []
  | (a, ⟨c, d, dt, sl⟩) :: r, k => frK r fun r' => k ((a, ⟨c, d, dt, sl⟩) :: r')
theorem frK_eq {α : Type} : ∀ (l : PySem.W.Frag) (k : PySem.W.Frag → α), frK l k = k l
  | [], k => rfl
  | (a, ⟨c, d, dt, sl⟩) :: r, k => by
    unfold frK
    rw [frK_eq r]
/-- what an object names, as far as the facts look: a dict's values, a def's code and defaults, a class's names, a classmethod's def, a tuple's items -/
def refsT (o : Obj) : List Addr := match o.data with
  | .dict es _ => es.toList.flatMap fun e => He.refV e.val
  | .func fd => He.refV fd.code ++ (He.refV fd.defaults ++ He.refV fd.kwdefaults)
  | .cls cd => [cd.ns]
  | .seq its _ => its.toList.flatMap He.refV
  | .fields vs => (match o.cls with
    | .type t => (match decide (t = "code") with
      | true => []
      | false => vs.toList.flatMap He.refV)
    | _ => [])
  | _ => []
/-- level by level, what the level ahead names -/
def frF (g : Addr → Option Obj) : Nat → List Addr → (List Addr → List Addr) → List Addr
  | 0, as, k => k as
  | n + 1, as, k => frL (as.flatMap fun a => match g a with
    | some o => refsT o
    | none => []) fun bs => frF g n bs fun cs => k (as ++ cs)
def asF (g : Addr → Option Obj) (n : Nat) : List Addr := frF g n [mainGlobals] fun as => cStatics :: as
def obsMG (n : Nat) (fn : List He5.DefA) (ex : List (PySem.W.Frag → Bool)) (g : Addr → Option Obj) : He.AlD := frL (asF g n) fun as => frK (He.frG g as) fun K => obsM fn ex K
theorem obsMG_plain {n : Nat} {fn : List He5.DefA} {ex : List (PySem.W.Frag → Bool)} {g : Addr → Option Obj} : obsMG n fn ex g = obsM fn ex (He.frG g (asF g n)) := by
  unfold obsMG
  rw [frL_eq, frK_eq]
def hookM (n : Nat) (fn : List He5.DefA) (ex : List (PySem.W.Frag → Bool)) : PySem.W.Hook where
  α := He.AlD
  obs := fun s => obsMG n fn ex s.heap.get?
  val := fun _ => valM fn
  says := fun _ h => ∃ K : PySem.W.Frag, K.In h ∧ SaysM fn ex K
  of := fun _ _ e => ⟨_, He.frG_in, Eq.trans obsMG_plain.symm e⟩
  keeps := fun _ _ _ ⟨K, hK, c⟩ k => ⟨K, PySem.W.Frag.In.keeps hK k, c⟩
theorem obsMG_eq {n : Nat} {fn : List He5.DefA} {ex : List (PySem.W.Frag → Bool)} {g : Addr → Option Obj} {s : Shared} (h : ∀ a, g a = s.heap.get? a) : obsMG n fn ex g = (hookM n fn ex).obs s := by
  have e : g = s.heap.get? := funext h
  rw [e] <;> rfl
section
variable {fn : List He5.DefA} {ex : List (PySem.W.Frag → Bool)} {K : PySem.W.Frag}
theorem SaysM.ck (c : SaysM fn ex K) (i : Nat) {f : PySem.W.Frag → Bool} (h : ex[i]? = some f := by rfl) : f K = true := by
  have c1 := (He.ba (show (chkB ex K && fn.all fun d => d.ok K) = true from congrArg (fun z : He.AlD => z.1) c)).1
  exact List.all_eq_true.mp c1 f (List.mem_of_getElem? h)
theorem SaysM.fd (c : SaysM fn ex K) (i : Nat) {d : He5.DefA} (h : fn[i]? = some d := by rfl) : ∃ fd, FunD K d.name d.qual d.params d.body d.scope (d.dvs K) (d.kws K) (d.at_ K) fd := by
  have c2 := (He.ba (show (chkB ex K && fn.all fun d => d.ok K) = true from congrArg (fun z : He.AlD => z.1) c)).2
  have e : fn.map (fun d => He5.fnA K (d.at_ K)) = fn.map He5.DefA.val := congrArg (fun z : He.AlD => z.2) c
  have e2 : (fn.map fun d => He5.fnA K (d.at_ K))[i]? = (fn.map He5.DefA.val)[i]? := by rw [e]
  rw [List.getElem?_map, List.getElem?_map, h] at e2
  exact He5.DefA.funD (Option.some.inj e2) (List.all_eq_true.mp c2 d (List.mem_of_getElem? h))
end
end M7
end

noncomputable section
namespace M7
open PySem PySem.Spec PyProof.Rows L2
section
variable {P : Par} {X : Cx} {E : XK}
/-! ### the operators, whatever the values are -/
def gMulAny : G2 := gOr (gII fun i j => if (Nat.blt i.natAbs (2 ^ 200) && Nat.blt j.natAbs (2 ^ 200)) = true then some (i * j) else none) (gOr gMulL gMulT)
def gSubI : G2 := gII fun i j => some (i - j)
def gModI : G2 := gII fun i j => if decide (0 < j) = true then some (i % j) else none
def gInAny : G2 := gOr (gInStr false) (gOr (gInSeq false) gInD)
def gNotInAny : G2 := gOr (gInStr true) (gOr (gInSeq true) gNotInD)
theorem oa_add (hK : X.K = P.K) : OpM P X (binaryOp .Add) gAddAny := ((om_ii0 op_add).or om_addS).or (om_addL.or (om_addT hK))
theorem oa_sub : OpM P X (binaryOp .Sub) gSubI := om_ii0 op_sub
theorem oa_mod : OpM P X (binaryOp .Mod) gModI := om_ii op_mod fun i j h => of_decide_eq_true h
theorem oa_in (hK : X.K = P.K) (hu : X.A.units + 64 < cLine) : OpM P X (compareOp .In) gInAny := om_inStr.or ((om_inSeq hK).or (om_inD (by omega)))
theorem oa_notIn (hK : X.K = P.K) (hu : X.A.units + 64 < cLine) : OpM P X (compareOp .NotIn) gNotInAny := om_notInStr.or ((om_notInSeq hK).or (om_notInD (by omega)))
end
/-! ### defs and classes that keep their promise -/
/-- the module's name x: a def, k parameters (the last ones by default: dus) -/
structure GF (P' : Program) (w : World) (K : PySem.W.Frag) (mg : Str → Option Value) (base : Heap) (P : Par) (x : Str) (lv k : Nat) (fm : FM) (dus : List U) : Prop where
  ex : ∃ (f : Addr) (fd : FuncData) (ps : List Str) (ds : List Value) (dvs : List V), FnOk P' w K mg base (L2.CX P' w) lv f fd ps (spM P k fm) ∧ mg x = some (.ref f) ∧ PySem.W.keepIn K (.ref f) = true ∧ Binds K fd ps ds ∧ Vals dvs ds ∧ Defs P dus dvs
/-- the class C, x its name: it is called -/
structure GC (P' : Program) (w : World) (K : PySem.W.Frag) (mg : Str → Option Value) (base : Heap) (P : Par) (x : Str) (C lv k : Nat) (fi : FI) (dus : List U) : Prop where
  ex : ∃ (f : Addr) (fd : FuncData) (ps : List Str) (ds : List Value) (dvs : List V), Mk K (P.cA C) f ∧ FnOk P' w K mg base (L2.CX P' w) lv f fd ps (spI P C k fi) ∧ mg x = some (.ref (P.cA C)) ∧ Binds K fd ps ds ∧ Vals dvs ds ∧ Defs P dus dvs
/-- a method of the class C -/
structure GM' (P' : Program) (w : World) (K : PySem.W.Frag) (mg : Str → Option Value) (base : Heap) (P : Par) (C : Nat) (m : Str) (lv k : Nat) (fm : FM) (dus : List U) : Prop where
  ex : ∃ (f : Addr) (fd : FuncData) (ps : List Str) (ds : List Value) (dvs : List V), FnOk P' w K mg base (L2.CX P' w) lv f fd ps (spM P k fm) ∧ Cls K (P.cA C) ∧ Meth K (P.cA C) m f ∧ Binds K fd ps ds ∧ Vals dvs ds ∧ Defs P dus dvs
/-- a classmethod of the class C, x its name -/
structure GCM (P' : Program) (w : World) (K : PySem.W.Frag) (mg : Str → Option Value) (base : Heap) (P : Par) (x : Str) (C : Nat) (m : Str) (lv k : Nat) (fm : FM) (dus : List U) : Prop where
  ex : ∃ (mc : Value) (pp g : Addr) (fd : FuncData) (ps : List Str) (ds : List Value) (dvs : List V), FnOk P' w K mg base (L2.CX P' w) lv g fd ps (spM P k fm) ∧ mg x = some (.ref (P.cA C)) ∧ ClX.CRead K (P.cA C) mc ∧ ClX.CMet K (P.cA C) mc m pp g ∧ Binds K fd ps ds ∧ Vals dvs ds ∧ Defs P dus dvs
section
variable {P : Par} {X : Cx} {E : XK} {lv k C i : Nat} {fm : FM} {fi : FI} {dus : List U} {x m : Str} {p pos apos : Pos} {e o : Expr} {es : List Expr} {ma : MA} {mo : ME}
theorem tM_gf (F : GF X.prog X.w X.K X.mg X.base P x lv k fm dus) (hr : Room lv X.A) (hx : Passes (L2.CX X.prog X.w) X E) (hg : Gl X x) (ha : PA X (e :: es) (tMA P E ma)) (hdb : (x == ("__debug__" : Str)) = false) (he : starEach (e :: es) X.env = (false, eval e X.env) :: starEach es X.env) (hpl : (backTo pos (starEach es X.env)).any (·.1) = false) :
    PE X (.Call (.Name x p) (e :: es) [] pos) (tM P E (eCall k fm dus ma)) := by
  obtain ⟨f, fd, ps, ds, dvs, h1, h2, h3, h4, h5, h6⟩ := F.ex
  exact tM_call h1 hr hg h2 h3 h4 h5 h6 hx ha hdb he hpl
theorem tM_gf0 (F : GF X.prog X.w X.K X.mg X.base P x lv k fm dus) (hr : Room lv X.A) (hx : Passes (L2.CX X.prog X.w) X E) (hg : Gl X x) (hdb : (x == ("__debug__" : Str)) = false) : PE X (.Call (.Name x p) [] [] pos) (tM P E (eCall k fm dus aNil)) := by
  obtain ⟨f, fd, ps, ds, dvs, h1, h2, h3, h4, h5, h6⟩ := F.ex
  exact tM_call0 h1 hr hg h2 h3 h4 h5 h6 hx hdb
theorem tM_gc {g : RI → R} (hig : IsMk C g) (F : GC X.prog X.w X.K X.mg X.base P x C lv k fi dus) (hr : Room (lv + 1) X.A) (hx : Passes (L2.CX X.prog X.w) X E) (hg : Gl X x) (ha : PA X (e :: es) (tMA P E ma)) (hdb : (x == ("__debug__" : Str)) = false) (he : starEach (e :: es) X.env = (false, eval e X.env) :: starEach es X.env) (hpl : (backTo pos (starEach es X.env)).any (·.1) = false) :
    PE X (.Call (.Name x p) (e :: es) [] pos) (tM P E (eMake k g fi dus ma)) := by
  obtain ⟨f, fd, ps, ds, dvs, h0, h1, h2, h4, h5, h6⟩ := F.ex
  exact tM_make hig h0 h1 hr hg h2 h4 h5 h6 hx ha hdb he hpl
theorem tM_gc0 {g : RI → R} (hig : IsMk C g) (F : GC X.prog X.w X.K X.mg X.base P x C lv k fi dus) (hr : Room (lv + 1) X.A) (hx : Passes (L2.CX X.prog X.w) X E) (hg : Gl X x) (hdb : (x == ("__debug__" : Str)) = false) : PE X (.Call (.Name x p) [] [] pos) (tM P E (eMake k g fi dus aNil)) := by
  obtain ⟨f, fd, ps, ds, dvs, h0, h1, h2, h4, h5, h6⟩ := F.ex
  exact tM_make0 hig h0 h1 hr hg h2 h4 h5 h6 hx hdb
theorem tM_gcS {g : RI → R} (hig : IsMk C g) (F : GC X.prog X.w X.K X.mg X.base P x C lv k fi dus) (hr : Room (lv + 1) X.A) (hx : Passes (L2.CX X.prog X.w) X E) (hg : Gl X x) (ha : PA X (e :: es) (tMA P E ma)) (hdb : (x == ("__debug__" : Str)) = false) (he : starEach (e :: es) X.env = (false, eval e X.env) :: starEach es X.env) (hpl : (backTo pos (starEach es X.env)).any (·.1) = true) :
    PE X (.Call (.Name x p) (e :: es) [] pos) (tM P E (eMake k g fi dus ma)) := by
  obtain ⟨f, fd, ps, ds, dvs, h0, h1, h2, h4, h5, h6⟩ := F.ex
  exact tM_makeS hig h0 h1 hr hg h2 h4 h5 h6 hx ha hdb he hpl
theorem tM_gm {c mn : Nat} {pl : Sem Bool} (nmi : ∀ i j, P.nm i = P.nm j → i = j) (hmn : P.nm mn = m) (ho : PE X o (tM P E mo)) (F : GM' X.prog X.w X.K X.mg X.base P c m lv k fm dus) (hr : Room lv X.A) (hx : Passes (L2.CX X.prog X.w) X E) (ha : PA X (e :: es) (tMA P E ma))
    (hst : starEach (e :: es) X.env = (false, eval e X.env) :: starEach es X.env) (hpl : (backTo pos (starEach es X.env)).any (·.1) = false)
    (ht : eval (.Call (.Attribute o m apos) (e :: es) [] pos) X.env = (do
      let ov ← eval o X.env
      standAt apos.atName
      let (f, first) ← holding [ov] (getMethod ov m pl)
      callWith pos f first (backTo pos (starEach (e :: es) X.env)) (backToKw pos (keywordEach [] X.env)))) :
    PE X (.Call (.Attribute o m apos) (e :: es) [] pos) (tM P E (eMCall c mn k fm dus mo ma)) := by
  obtain ⟨f, fd, ps, ds, dvs, h1, h2, h3, h4, h5, h6⟩ := F.ex
  exact tM_mcall nmi hmn ho h2 h3 h1 hr h4 h5 h6 hx ha hst hpl ht
theorem tM_gm0 {c mn : Nat} {pl : Sem Bool} (nmi : ∀ i j, P.nm i = P.nm j → i = j) (hmn : P.nm mn = m) (ho : PE X o (tM P E mo)) (F : GM' X.prog X.w X.K X.mg X.base P c m lv k fm dus) (hr : Room lv X.A) (hx : Passes (L2.CX X.prog X.w) X E)
    (ht : eval (.Call (.Attribute o m apos) [] [] pos) X.env = (do
      let ov ← eval o X.env
      standAt apos.atName
      let (f, first) ← holding [ov] (getMethod ov m pl)
      callWith pos f first (backTo pos (starEach [] X.env)) (backToKw pos (keywordEach [] X.env)))) :
    PE X (.Call (.Attribute o m apos) [] [] pos) (tM P E (eMCall c mn k fm dus mo aNil)) := by
  obtain ⟨f, fd, ps, ds, dvs, h1, h2, h3, h4, h5, h6⟩ := F.ex
  exact tM_mcall0 nmi hmn ho h2 h3 h1 hr h4 h5 h6 hx ht
theorem tM_gcm {pl : Sem Bool} (F : GCM X.prog X.w X.K X.mg X.base P x C m lv k fm dus) (hr : Room lv X.A) (hx : Passes (L2.CX X.prog X.w) X E) (hg : Gl X x) (ha : PA X (e :: es) (tMA P E ma)) (hdb : (x == ("__debug__" : Str)) = false)
    (hst : starEach (e :: es) X.env = (false, eval e X.env) :: starEach es X.env) (hpl : (backTo pos (starEach es X.env)).any (·.1) = false)
    (ht : eval (.Call (.Attribute (.Name x p) m apos) (e :: es) [] pos) X.env = (do
      let ov ← eval (.Name x p) X.env
      standAt apos.atName
      let (f, first) ← holding [ov] (getMethod ov m pl)
      callWith pos f first (backTo pos (starEach (e :: es) X.env)) (backToKw pos (keywordEach [] X.env)))) :
    PE X (.Call (.Attribute (.Name x p) m apos) (e :: es) [] pos) (tM P E (eCm C k fm dus ma)) := by
  obtain ⟨mc, pp, g, fd, ps, ds, dvs, h1, h2, h3, h4, h5, h6, h7⟩ := F.ex
  exact tM_cm hg h2 hdb h3 h4 h1 hr h5 h6 h7 hx ha hst hpl ht
end
end M7
end

noncomputable section
namespace M7
open PySem PySem.Spec PyProof.Rows L2
section
variable {P : Par} {X : Cx} {E : XK} {pos : Pos}
theorem pe_strL {z : Str} {k : Nat} (lit : List Nat) (h : z = ⟨lit.toArray⟩ := by decide +kernel) : PE X (.Constant (.str z) k pos) (tC (.str ⟨lit.toArray⟩)) := by
  subst h
  exact pe_str
theorem tM_str {z : Str} {k : Nat} (lit : List Nat) (h : z = ⟨lit.toArray⟩ := by decide +kernel) : PE X (.Constant (.str z) k pos) (tM P E (eC (.str lit))) := tM_c (pe_strL lit h) fun _ _ _ => .str _
theorem hu1 {n : Nat} (h : n + 64 < cLine) : n + 1 < cLine := by omega
theorem tS_bad {st : Stmt} : PS X st (tS P E fun _ _ => .bad) := ⟨fun pins s σ H D I q => by
  obtain ⟨ρ, W0, W, σ', hp, rs, rh, po⟩ := q
  exact po.elim⟩
def gMulI : G2 := gII fun i j => if Nat.blt (i.natAbs.log2 + j.natAbs.log2) 1000000 = true then some (i * j) else none
def gMulA : G2 := gOr gMulI (gOr gMulL gMulT)
theorem oa_mul (hK : X.K = P.K) : OpM P X (binaryOp .Mult) gMulA := (om_ii op_mulW fun i j h => Nat.le_of_ble_eq_true h).or (om_mulL.or (om_mulT hK))
end
end M7
end

noncomputable section
namespace M7
open PySem PySem.Spec PyProof.Rows L2
/-! ### facts of the written part, as Bools -/
def clsB (K : PySem.W.Frag) (C : Addr) : Bool := PySem.W.plainGet K C Str.empty && (PySem.W.hasDictIn K C && (PySem.W.plainOver K C && He.eqO (PySem.W.findIn K (.ref C) "__setattr__") (some (some (.builtin "object.__setattr__")))))
theorem clsB_ok {K : PySem.W.Frag} {C : Addr} (h : clsB K C = true) : Cls K C := by
  obtain ⟨c1, c⟩ := He.ba h
  obtain ⟨c2, c⟩ := He.ba c
  obtain ⟨c3, c4⟩ := He.ba c
  exact ⟨c1, c2, c3, He.eqO_ok c4⟩
def insTB (K : PySem.W.Frag) (C : Addr) : Bool := clsB K C && (He.eqO (PySem.W.findIn K (.ref C) "__class__") (some (some (.builtin "object.__class__"))) && (He.eqO (PySem.W.specialIn K (.builtin "object.__class__") "__get__") (some (some (.builtin "getset_descriptor.__get__"))) &&
  (decide (PySem.W.takesIn K (.builtin "object.__class__") = some true) && decide (PySem.W.mroIn K C (.type "object") = some true))))
theorem insTB_ok {K : PySem.W.Frag} {C : Addr} (h : insTB K C = true) : InsT K C := by
  obtain ⟨c1, c⟩ := He.ba h
  obtain ⟨c2, c⟩ := He.ba c
  obtain ⟨c3, c⟩ := He.ba c
  obtain ⟨c4, c5⟩ := He.ba c
  exact ⟨clsB_ok c1, He.eqO_ok c2, He.eqO_ok c3, of_decide_eq_true c4, of_decide_eq_true c5⟩
def isiB (P : Par) (ask : Value → Option Bool) (l : List (Tg × Bool)) : Bool := l.all fun q => decide (ask (tgV P q.1) = some q.2) && (match q.1 with
  | .own C => insTB P.K (P.cA C)
  | _ => true)
theorem isiB_ok {P : Par} {ask : Value → Option Bool} {l : List (Tg × Bool)} (h : isiB P ask l = true) : IsiOk P ask l := fun t b hm => by
  have h1 := List.all_eq_true.mp h (t, b) hm
  obtain ⟨h2, h3⟩ := He.ba h1
  refine ⟨of_decide_eq_true h2, fun C e => ?_⟩
  subst e
  exact insTB_ok h3
def fldB (P : Par) (f : Nat) (Cs : List Nat) : Bool := Cs.all fun C => clsB P.K (P.cA C) && He.eqO (PySem.W.findIn P.K (.ref (P.cA C)) (P.nm f)) (some none)
theorem fldB_ok {P : Par} {f : Nat} {Cs : List Nat} (h : fldB P f Cs = true) : FldF P f Cs := fun C hC => by
  obtain ⟨h1, h2⟩ := He.ba (List.all_eq_true.mp h C hC)
  exact ⟨clsB_ok h1, He.eqO_ok h2⟩
/-- the module's tuple x of texts -/
def tupSB (K : PySem.W.Frag) (x : Str) (xs : List (List Nat)) : Bool := He.tupB K x (xs.map fun z => He.Dv.str ⟨z.toArray⟩)
theorem tupSB_ok {P : Par} {x : Str} {xs : List (List Nat)} (h : tupSB P.K x xs = true) (ρ : List Addr) (W : WS) (H : Hp) : RU P ρ W H (.tup (xs.map .str)) (.ref (He.ga P.K x)) := by
  have h2 := He.tupB_ok h (fun _ => none)
  refine .tup (vs := (xs.map fun z => He.Dv.str ⟨z.toArray⟩).map (He.Dv.v P.K)) (.inr (.inr ?_)) ?_
  · rcases h2 with h2 | h2
    · rcases h2 with e | ⟨_, e⟩ <;> cases e
    · exact h2
  · clear h h2
    induction xs with
    | nil => exact .nil
    | cons z zs ih => exact .cons (.str z) ih
end M7
end

noncomputable section
namespace M7
open PySem PySem.Spec PyProof.Rows L2
/-! ### a dict of the module with text keys: U.cls C stands for it (cA C its address) -/
def lookT : List (List Nat × U) → List Nat → Option U
  | [], _ => none
  | (k, u) :: r, x => match eqK (.s k) (.s x) with
    | true => some u
    | false => lookT r x
/-- what is known of it -/
structure KTab (P : Par) (w : World) (C : Nat) (kvs : List (List Nat × U)) : Prop where
  ex : ∃ es n, L2.KDict P.K w (P.cA C) es n
  all : ∀ x : List Nat, ∃ r, PySem.W.nsIn P.K (P.cA C) ⟨x.toArray⟩ = some r ∧ (match lookT kvs x with
    | none => r = none
    | some u => ∃ v0 v, r = some v0 ∧ RelV v v0 ∧ ∀ ρ W H, RU P ρ W H u v)
def gInT (C : Nat) (kvs : List (List Nat × U)) (neg : Bool) : G2 := fun _ a b => match a, b with
  | .str x, .cls D => match Nat.beq D C with
    | true => some (.bl (if neg then !(lookT kvs x).isSome else (lookT kvs x).isSome))
    | false => none
  | _, _ => none
def gIxT (C : Nat) (kvs : List (List Nat × U)) : G2 := fun _ a b => match a, b with
  | .cls D, .str x => match Nat.beq D C with
    | true => lookT kvs x
    | false => none
  | _, _ => none
section
variable {P : Par} {X : Cx} {E : XK} {pos : Pos} {C : Nat} {kvs : List (List Nat × U)}
theorem KTab.some? (T : KTab P X.w C kvs) (x : List Nat) : ∃ r, PySem.W.nsIn P.K (P.cA C) ⟨x.toArray⟩ = some r ∧ r.isSome = (lookT kvs x).isSome := by
  obtain ⟨r, h1, h2⟩ := T.all x
  refine ⟨r, h1, ?_⟩
  cases e : lookT kvs x with
  | none => rw [e] at h2; rw [h2]; rfl
  | some u =>
    rw [e] at h2
    obtain ⟨v0, v, h3, _⟩ := h2
    rw [h3]; rfl
theorem om_inT (hK : X.K = P.K) (T : KTab P X.w C kvs) : OpM P X (compareOp .In) (gInT C kvs false) := by
  obtain ⟨es, n, D⟩ := T.ex
  rw [← hK] at D
  refine OpM.of (op_in_kd D) fun H x y Q ρ W hp a b c rh ra rb e k => ?_
  unfold gInT at e
  split at e
  · rename_i z D'
    split at e
    · rename_i q
      have q := Nat.eq_of_beq_eq_true q
      subst q
      cases ra
      cases rb
      obtain ⟨r, h1, h2⟩ := T.some? z
      cases e
      refine ⟨_, r, rfl, rfl, by rw [hK]; exact h1, ?_⟩
      rw [h2]
      exact Cont.now k rh (.bl _)
    · cases e
  · cases e
theorem om_notInT (hK : X.K = P.K) (T : KTab P X.w C kvs) : OpM P X (compareOp .NotIn) (gInT C kvs true) := by
  obtain ⟨es, n, D⟩ := T.ex
  rw [← hK] at D
  refine OpM.of (op_notIn_kd D) fun H x y Q ρ W hp a b c rh ra rb e k => ?_
  unfold gInT at e
  split at e
  · rename_i z D'
    split at e
    · rename_i q
      have q := Nat.eq_of_beq_eq_true q
      subst q
      cases ra
      cases rb
      obtain ⟨r, h1, h2⟩ := T.some? z
      cases e
      refine ⟨_, r, rfl, rfl, by rw [hK]; exact h1, ?_⟩
      rw [h2]
      exact Cont.now k rh (.bl _)
    · cases e
  · cases e
def eIxT (C : Nat) (kvs : List (List Nat × U)) (ma mb : ME) : ME := eBin (gIxT C kvs) ma mb
theorem ix_T (hK : X.K = P.K) (T : KTab P X.w C kvs) : IxR X (rOf P (gIxT C kvs)) := fun value slice pins s σ H x y v u Q I rx ry h hs => by
  obtain ⟨ρ, W, hp, a, b, r, rh, ra, rb, e, k⟩ := h
  obtain ⟨es, n, D⟩ := T.ex
  unfold gIxT at e
  split at e
  · rename_i D' z
    split at e
    · rename_i q
      have q := Nat.eq_of_beq_eq_true q
      subst q
      cases ra
      cases rb
      obtain ⟨r0, h1, h2⟩ := T.all z
      rw [e] at h2
      obtain ⟨v0, v1, h3, h4, h5⟩ := h2
      subst h3
      exact ix_kdict value slice pins s σ H _ _ v u Q I rx ry ⟨_, _, v1, rfl, rfl, ⟨es, n, v0, by rw [hK]; exact D.at_, D.lit, by rw [hK]; exact h1, h4⟩, Cont.now k rh (h5 _ _ _)⟩ hs
    · cases e
  · cases e
theorem tM_ixT {a b : Expr} {ma mb : ME} (hK : X.K = P.K) (T : KTab P X.w C kvs) (ha : PE X a (tM P E ma)) (hb : PE X b (tM P E mb)) (hs : PlainIx b) : PE X (.Subscript a b pos) (tM P E (eIxT C kvs ma mb)) :=
  ⟨fun pins s σ H Q I q => (pe_ix (ix_T hK T) ha hb hs).run pins s σ H Q I (tOp_of q)⟩
theorem tM_tab {x : Str} {p : Pos} (hg : Gl X x) (hm : X.mg x = some (.ref (P.cA C))) (hd : (x == ("__debug__" : Str)) = false := by decide) : PE X (.Name x p) (tM P E (eC (.cls C))) := tM_c (pe_glob hg hm (show RelV (.ref (P.cA C)) (.ref (P.cA C)) from rfl) hd) fun _ _ _ => .cls C
theorem tM_bad {e : Expr} : PE X e (tM P E fun _ _ => .bad) := ⟨fun pins s σ H Q I q => by
  obtain ⟨ρ, W0, W, σ', hp, rs, rh, po⟩ := q
  exact po.elim⟩
end
end M7
end

noncomputable section
namespace M7
open PySem PySem.Spec PyProof.Rows L2
/-! ### the Hook with tables -/
abbrev MAl : Type := He.AlD × List (Option (List (Option (Str × Int))))
def obsMT (fn : List He5.DefA) (ex : List (PySem.W.Frag → Bool)) (ts : List He.Tab) (K : PySem.W.Frag) : MAl := (obsM fn ex K, ts.map fun t => He.dicW K (t.1 K))
def valMT (fn : List He5.DefA) (ts : List He.Tab) (w : World) : MAl := (valM fn, ts.map fun t => some (He.keysIn w.params t.2))
def SaysMT (fn : List He5.DefA) (ex : List (PySem.W.Frag → Bool)) (ts : List He.Tab) (w : World) (K : PySem.W.Frag) : Prop := obsMT fn ex ts K = valMT fn ts w
def obsMTG (n : Nat) (fn : List He5.DefA) (ex : List (PySem.W.Frag → Bool)) (ts : List He.Tab) (g : Addr → Option Obj) : MAl := frL (asF g n) fun as => frK (He.frG g as) fun K => obsMT fn ex ts K
theorem obsMTG_plain {n : Nat} {fn : List He5.DefA} {ex : List (PySem.W.Frag → Bool)} {ts : List He.Tab} {g : Addr → Option Obj} : obsMTG n fn ex ts g = obsMT fn ex ts (He.frG g (asF g n)) := by
  unfold obsMTG
  rw [frL_eq, frK_eq]
def hookMT (n : Nat) (fn : List He5.DefA) (ex : List (PySem.W.Frag → Bool)) (ts : List He.Tab) : PySem.W.Hook where
  α := MAl
  obs := fun s => obsMTG n fn ex ts s.heap.get?
  val := fun w => valMT fn ts w
  says := fun w h => ∃ K : PySem.W.Frag, K.In h ∧ SaysMT fn ex ts w K
  of := fun _ _ e => ⟨_, He.frG_in, Eq.trans obsMTG_plain.symm e⟩
  keeps := fun _ _ _ ⟨K, hK, c⟩ k => ⟨K, PySem.W.Frag.In.keeps hK k, c⟩
theorem obsMTG_eq {n : Nat} {fn : List He5.DefA} {ex : List (PySem.W.Frag → Bool)} {ts : List He.Tab} {g : Addr → Option Obj} {s : Shared} (h : ∀ a, g a = s.heap.get? a) : obsMTG n fn ex ts g = (hookMT n fn ex ts).obs s := by
  have e : g = s.heap.get? := funext h
  rw [e] <;> rfl
section
variable {fn : List He5.DefA} {ex : List (PySem.W.Frag → Bool)} {ts : List He.Tab} {w : World} {K : PySem.W.Frag}
theorem SaysMT.m (c : SaysMT fn ex ts w K) : SaysM fn ex K := congrArg (fun z : MAl => z.1) c
theorem SaysMT.ck (c : SaysMT fn ex ts w K) (i : Nat) {f : PySem.W.Frag → Bool} (h : ex[i]? = some f := by rfl) : f K = true := c.m.ck i h
theorem SaysMT.fd (c : SaysMT fn ex ts w K) (i : Nat) {d : He5.DefA} (h : fn[i]? = some d := by rfl) : ∃ fd, FunD K d.name d.qual d.params d.body d.scope (d.dvs K) (d.kws K) (d.at_ K) fd := c.m.fd i h
theorem SaysMT.tb (c : SaysMT fn ex ts w K) (i : Nat) {t : He.Tab} (h : ts[i]? = some t := by rfl) : He.dicW K (t.1 K) = some (He.keysIn w.params t.2) := by
  have e : ts.map (fun t => He.dicW K (t.1 K)) = ts.map fun t => some (He.keysIn w.params t.2) := congrArg (fun z : MAl => z.2) c
  have e2 : (ts.map fun t => He.dicW K (t.1 K))[i]? = (ts.map fun t => some (He.keysIn w.params t.2))[i]? := by rw [e]
  rw [List.getElem?_map, List.getElem?_map, h] at e2
  exact Option.some.inj e2
end
/-! ### a dict of the module, its values whole numbers -/
def kRow : List DictEntry → List (List Nat × U) → Bool
  | [], [] => true
  | e :: es, (k, u) :: r => (match e.key with
    | .str y _ => decide (y = ⟨k.toArray⟩)
    | _ => false) && ((match u, e.val with
    | .int i, .int j _ => decide (i = j)
    | _, _ => false) && kRow es r)
  | _, _ => false
def kTabB (K : PySem.W.Frag) (a : Addr) (kvs : List (List Nat × U)) : Bool := match K.lookup a with
  | some ⟨_, _, .dict es _, _⟩ => kRow es.toList kvs
  | _ => false
theorem str_list {x y : List Nat} : ((⟨x.toArray⟩ : Str) == ⟨y.toArray⟩) = decide (x = y) := by
  by_cases h : x = y
  · subst h; simp
  · have : (⟨x.toArray⟩ : Str) ≠ ⟨y.toArray⟩ := fun z => h (by
      injection z with z
      have := congrArg Array.toList z
      simpa using this)
    rw [beq_eq_false_iff_ne.mpr this, decide_eq_false h]
theorem kRow_ok (x : List Nat) : ∀ {es : List DictEntry} {kvs : List (List Nat × U)}, kRow es kvs = true → es.any (·.refKey) = false ∧ ((es.find? (·.key.isStr ⟨x.toArray⟩) = none ∧ lookT kvs x = none) ∨
    ∃ e i t, es.find? (·.key.isStr ⟨x.toArray⟩) = some e ∧ lookT kvs x = some (.int i) ∧ e.val = .int i t)
  | [], [], _ => ⟨rfl, .inl ⟨rfl, rfl⟩⟩
  | [], _ :: _, h => by cases h
  | _ :: _, [], h => by cases h
  | e :: es, (k, u) :: r, h => by
    unfold kRow at h
    obtain ⟨h1, h⟩ := He.ba h
    obtain ⟨h2, h3⟩ := He.ba h
    obtain ⟨q1, q2⟩ := kRow_ok x h3
    cases ek : e.key with
    | str y t =>
      rw [ek] at h1
      have ey := of_decide_eq_true h1
      subst ey
      have rk : e.refKey = false := by unfold DictEntry.refKey; rw [ek]
      refine ⟨by rw [List.any_cons, rk, q1]; rfl, ?_⟩
      have hi : e.key.isStr ⟨x.toArray⟩ = decide (k = x) := by rw [ek]; exact str_list
      by_cases hx : k = x
      · subst hx
        cases u with
        | int i =>
          cases ev : e.val with
          | int j t2 =>
            rw [ev] at h2
            have := of_decide_eq_true h2
            subst this
            refine .inr ⟨e, i, t2, ?_, ?_, ev⟩
            · rw [List.find?_cons, hi, decide_eq_true rfl]
            · unfold lookT
              rw [eqK_iff.mpr rfl]
          | _ => rw [ev] at h2; cases h2
        | _ => cases h2
      · have hf : decide (k = x) = false := decide_eq_false hx
        have hl : eqK (.s k) (.s x) = false := by
          cases z : eqK (.s k) (.s x) with
          | false => rfl
          | true => exact absurd (by have := eqK_iff.mp z; injection this) hx
        rw [List.find?_cons, hi, hf]
        unfold lookT
        rw [hl]
        exact q2
    | _ => rw [ek] at h1; cases h1
theorem kTab_ok {P : Par} {w : World} {C : Nat} {ks : List Str} {kvs : List (List Nat × U)} (h : He.dicW P.K (P.cA C) = some (He.keysIn w.params ks)) (hb : kTabB P.K (P.cA C) kvs = true) : KTab P w C kvs := by
  refine ⟨He.dicW_ok h, fun x => ?_⟩
  unfold kTabB at hb
  unfold PySem.W.nsIn
  split at hb
  · rename_i es n sl el
    rw [el]
    dsimp only
    obtain ⟨h1, h2⟩ := kRow_ok x hb
    rcases h2 with ⟨h3, h4⟩ | ⟨e, i, t, h3, h4, h5⟩
    · rw [h3, h4]
      refine ⟨none, ?_, rfl⟩
      dsimp only
      rw [h1]; rfl
    · rw [h3, h4]
      exact ⟨some e.val, rfl, e.val, .int i, rfl, ⟨t, h5⟩, fun _ _ _ => .int i⟩
  · cases hb
/-! ### a class's attributes, an empty tuple as a default -/
def creadB (K : PySem.W.Frag) (C : Addr) : Bool := PySem.W.readsIn K C (.type "type") && He.eqO (PySem.W.specialIn K (.ref C) "__getattribute__") (some (some (.builtin "type.__getattribute__")))
theorem creadB_ok {K : PySem.W.Frag} {C : Addr} (h : creadB K C = true) : ClX.CRead K C (.type "type") := by
  obtain ⟨h1, h2⟩ := He.ba h
  exact ⟨h1, He.eqO_ok h2⟩
def tup0B (K : PySem.W.Frag) (a : Addr) : Bool := match K.lookup a with
  | some ⟨.type c, _, .seq its _, _⟩ => decide (c = "tuple") && its.isEmpty
  | _ => false
theorem tup0_ok {P : Par} {a : Addr} (h : tup0B P.K a = true) (ρ : List Addr) (W : WS) (H : Hp) : RU P ρ W H (.tup []) (.ref a) := by
  unfold tup0B at h
  split at h
  · rename_i c d its n sl el
    obtain ⟨h1, h2⟩ := He.ba h
    have h1 := of_decide_eq_true h1
    have h2 := Array.isEmpty_iff.mp h2
    subst h1 h2
    exact .tup (vs := []) (.inr (.inr ⟨_, #[], n, el, rfl, rfl, Nat.zero_le _, .nil⟩)) .nil
  · cases h
section
variable {P : Par} {X : Cx} {E : XK} {lv k C i : Nat} {fm : FM} {fi : FI} {dus : List U} {x y m : Str} {p pos apos : Pos} {e o : Expr} {es : List Expr} {ma : MA} {mo : ME}
/-- x(e, ..), x a local name that holds the class y -/
theorem tM_gcL {g : RI → R} (hig : IsMk C g) (F : GC X.prog X.w X.K X.mg X.base P y C lv k fi dus) (hr : Room (lv + 1) X.A) (hx : Passes (L2.CX X.prog X.w) X E) (hN : X.N[i]? = some x) (hv : Vis X.env.scope x) (ha : PA X (e :: es) (tMA P E ma)) (hdb : (x == ("__debug__" : Str)) = false) (hcd : (x == ("__classdict__" : Str)) = false)
    (he : starEach (e :: es) X.env = (false, eval e X.env) :: starEach es X.env) (hpl : (backTo pos (starEach es X.env)).any (·.1) = false) :
    PE X (.Call (.Name x p) (e :: es) [] pos) (tM P E (eMakeL i C k g fi dus ma)) := by
  obtain ⟨f, fd, ps, ds, dvs, h0, h1, h2, h4, h5, h6⟩ := F.ex
  exact makeL_run hig h0 h1 hr hN hv h4 h5 h6 hx ha hdb hcd he hpl
theorem tM_gcL0 {g : RI → R} (hig : IsMk C g) (F : GC X.prog X.w X.K X.mg X.base P y C lv k fi dus) (hr : Room (lv + 1) X.A) (hx : Passes (L2.CX X.prog X.w) X E) (hN : X.N[i]? = some x) (hv : Vis X.env.scope x) (hdb : (x == ("__debug__" : Str)) = false) (hcd : (x == ("__classdict__" : Str)) = false) :
    PE X (.Call (.Name x p) [] [] pos) (tM P E (eMakeL i C k g fi dus aNil)) := by
  obtain ⟨f, fd, ps, ds, dvs, h0, h1, h2, h4, h5, h6⟩ := F.ex
  exact makeL0_run hig h0 h1 hr hN hv h4 h5 h6 hx hdb hcd
end
/-! ### the checks of the written part, of no world -/
def fldK (K : PySem.W.Frag) (cA : Nat → Addr) (nm : Nat → Str) (f : Nat) (Cs : List Nat) : Bool := Cs.all fun C => clsB K (cA C) && He.eqO (PySem.W.findIn K (.ref (cA C)) (nm f)) (some none)
theorem fldK_ok {P : Par} {f : Nat} {Cs : List Nat} (h : fldK P.K P.cA P.nm f Cs = true) : FldF P f Cs := fldB_ok h
def tgK (cA : Nat → Addr) : Tg → Value
  | .non => .type "NoneType"
  | .bl => .type "bool"
  | .int => .type "int"
  | .str => .type "str"
  | .lst => .type "list"
  | .tup => .type "tuple"
  | .dct => .type "dict"
  | .own C => .ref (cA C)
def isiK (K : PySem.W.Frag) (cA : Nat → Addr) (ask : Value → Option Bool) (l : List (Tg × Bool)) : Bool := l.all fun q => decide (ask (tgK cA q.1) = some q.2) && (match q.1 with
  | .own C => insTB K (cA C)
  | _ => true)
theorem isiK_ok {P : Par} {ask : Value → Option Bool} {l : List (Tg × Bool)} (h : isiK P.K P.cA ask l = true) : IsiOk P ask l := by
  refine isiB_ok ?_
  have e : tgV P = tgK P.cA := by
    funext t
    cases t <;> rfl
  unfold isiB
  rw [e]
  exact h
/-! ### the law's end -/
/-- the law's script as data -/
def scrU (ns : List Int) : U := .lsx (ns.map .int)
theorem law_sp {P : Par} {f : FM} {H : Hp} {a : Addr} {ns : List Int} (hO : Only H) (hS : SqL P.K H a (ns.map V.int)) (hf : ∃ h, f [scrU ns] HP.empty = .ok (.bl true) h) : spM P 1 f [.ref a] H (fun v _ => v = .bl true) fun _ _ _ => False := by
  obtain ⟨h, hf⟩ := hf
  have ri : ∀ l : List Int, RUs P [] (fun _ => False) H (l.map U.int) (l.map V.int) := by
    intro l
    induction l with
    | nil => exact .nil
    | cons x l ih => exact .cons (.int x) ih
  have la : LAt P [] (fun _ => False) H a (ns.map V.int) := by
    rcases hS with (h1 | ⟨o, h1⟩) | h1
    · rcases hO a with h2 | ⟨o, xs, h2⟩
      · rw [h1] at h2; cases h2
      · rw [h1] at h2; cases h2
    · exact .inl ⟨o, h1, by simp, fun z => z⟩
    · exact .inr h1
  refine ⟨rfl, [], fun _ => False, [scrU ns], HP.empty, .cons (.lsx la (ri ns)) .nil, ⟨rfl, .nil, (by intro a h; cases h), (by intro a h; cases h), (by intro a h; cases h), (by intro i o h; cases h)⟩, ?_⟩
  rw [hf]
  intro ρ' H' v _ _ rv
  cases rv
  rfl
theorem walk_M {l : PySem.W.OpenLaw} {q : Program} {ls : List Str} {A : (Str → Option Value) → Heap → Prop} {B : World → Heap → Prop} {d : DefRec} {z : Str} {n k : Nat} (h1 : l.most = some n) (h2 : n ≤ sizeLine) (h3 : d.params.defaults = []) (h4 : Room k callerA)
    (h5 : ∀ (u : World) (mg : Str → Option Value) (f : Addr) (hp : Heap), B u hp → hp.Ns mainGlobals mg → mg d.name = some (.ref f) → ∃ (K : PySem.W.Frag) (fd : FuncData) (sp : Sp), K.In hp ∧ (∀ (t : Shared) (y : Value), BindsTo t fd ⟨[y], []⟩ [(z, y)]) ∧
      (∀ (H : Hp) (b : Addr) (is : List Int), is.length ≤ n → (∀ i ∈ is, Builtin.Int.intBits i ≤ 1048576) → Only H → SqL K H b (is.map V.int) → sp [.ref b] H (fun v _ => v = .bl true) fun _ _ _ => False) ∧
      ∀ bs : Heap, K.In bs → bs.Ns mainGlobals mg → FnOk l.prog u K mg bs (L2.CX l.prog u) k f fd [z] sp) :
    PySem.W.WalkO q ls A B l.row.toRowW d [] (fun f ys => PySem.call f ys) := by
  refine Att.attach_callB h1 h3 fun u t0 t1 mg mb f o pm cd dc b ys is G Y a1 a2 a3 a4 a5 a6 a7 a8 a9 => ?_
  obtain ⟨K, fd, sp, x1, x2, x3, x4⟩ := h5 u mg f _ Y G.T.g a4
  exact law_call x1 G.T.g G.T.b G.T.builtins G.T.nolimit a9 a5 a6 (Nat.le_trans a7 h2) h4 x4 x2 (fun H y1 y2 => x3 H b is a7 a8 y1 y2) fun H e t' ⟨_, _, _, _, _, _, _, _, _, _, _, _, y⟩ => y
end M7
end

noncomputable section
namespace M7
open PySem PySem.Spec PyProof.Rows L2
section
variable {P : Par} {X : Cx} {E : XK} {k : Nat}
theorem hu2 {A : Around} (r : Room k A) : A.units + 65 < cLine := by
  have := r.un
  omega
/-! ### x in l, all of them data of any depth -/
def gInL (neg : Bool) : G2 := fun h a b => match toPy deep h a, toPy deep h b with
  | some d, some (.list ds) => if (SeqAt.shaped d && SeqAt.shaped (.list ds)) = true then some (.bl (if neg then !ds.any fun z => PyData.eqv z d else ds.any fun z => PyData.eqv z d)) else none
  | _, _ => none
def gInU (neg : Bool) : G2 := fun h a b => match toPy deep h a, toPy deep h b with
  | some d, some (.tuple ds) => if (SeqAt.shaped d && SeqAt.shaped (.tuple ds)) = true then some (.bl (if neg then !ds.any fun z => PyData.eqv z d else ds.any fun z => PyData.eqv z d)) else none
  | _, _ => none
theorem om_inL (hK : X.K = P.K) (hu : X.A.units + 65 < cLine) : OpM P X (compareOp .In) (gInL false) := OpM.of (op_inD hu) fun H x y Q ρ W hp a b c rh ra rb e k => by
  unfold gInL at e
  split at e
  · rename_i d ds ea eb
    split at e
    · rename_i hs
      cases e
      simp only [Bool.and_eq_true] at hs
      rw [hK]
      exact ⟨d, ds, toPy_ok rh _ ra ea, toPy_ok rh _ rb eb, hs.1, hs.2, k.now rh (.bl _)⟩
    · cases e
  · cases e
theorem om_notInL (hK : X.K = P.K) (hu : X.A.units + 65 < cLine) : OpM P X (compareOp .NotIn) (gInL true) := OpM.of (op_notInD hu) fun H x y Q ρ W hp a b c rh ra rb e k => by
  unfold gInL at e
  split at e
  · rename_i d ds ea eb
    split at e
    · rename_i hs
      cases e
      simp only [Bool.and_eq_true] at hs
      rw [hK]
      exact ⟨d, ds, toPy_ok rh _ ra ea, toPy_ok rh _ rb eb, hs.1, hs.2, k.now rh (.bl _)⟩
    · cases e
  · cases e
def rInU (K : PySem.W.Frag) (neg : Bool) : R2 := fun x y H Q => ∃ d ds, Dp K H x d ∧ Dp K H y (.tuple ds) ∧ SeqAt.shaped d = true ∧ SeqAt.shaped (.tuple ds) = true ∧ Q (.bl (if neg then !ds.any fun z => PyData.eqv z d else ds.any fun z => PyData.eqv z d)) H
theorem op_inU (hu : X.A.units + 65 < cLine) : OpR X (compareOp .In) (rInU X.K false) := by
  intro pins s σ H x y v u Q I rx ry ⟨d, ds, hd, he, sd, se, q⟩
  obtain ⟨a1, r1⟩ := Dp.reads I d x v hd rx
  obtain ⟨a2, r2⟩ := Dp.reads I _ y u he ry
  refine SeqAt.in_tuple_reads r2 r1 (SeqAt.canLay_of_shaped se) (SeqAt.canLay_of_shaped sd) (room_in_shaped sd hu) ?_
  exact ⟨.bl _, H, I, rfl, q⟩
theorem op_notInU (hu : X.A.units + 65 < cLine) : OpR X (compareOp .NotIn) (rInU X.K true) := by
  intro pins s σ H x y v u Q I rx ry ⟨d, ds, hd, he, sd, se, q⟩
  obtain ⟨a1, r1⟩ := Dp.reads I d x v hd rx
  obtain ⟨a2, r2⟩ := Dp.reads I _ y u he ry
  refine SeqAt.notIn_tuple_reads r2 r1 (SeqAt.canLay_of_shaped se) (SeqAt.canLay_of_shaped sd) (room_in_shaped sd hu) ?_
  exact ⟨.bl _, H, I, rfl, q⟩
theorem om_inUx {neg : Bool} {op : CmpOp} (hK : X.K = P.K) (ho : OpR X (compareOp op) (rInU X.K neg)) : OpM P X (compareOp op) (gInU neg) := OpM.of ho fun H x y Q ρ W hp a b c rh ra rb e k => by
  unfold gInU at e
  split at e
  · rename_i d ds ea eb
    split at e
    · rename_i hs
      cases e
      simp only [Bool.and_eq_true] at hs
      rw [hK]
      exact ⟨d, ds, toPy_ok rh _ ra ea, toPy_ok rh _ rb eb, hs.1, hs.2, k.now rh (.bl _)⟩
    · cases e
  · cases e
def gInAll : G2 := gOr gInAny (gOr (gInN false) (gOr (gInL false) (gInU false)))
def gNotInAll : G2 := gOr gNotInAny (gOr (gInN true) (gOr (gInL true) (gInU true)))
theorem ob_in (hK : X.K = P.K) (hW : X.w = P.w) (hP : X.prog = P.pg) (hr : Room k X.A) : OpM P X (compareOp .In) gInAll := (oa_in hK (Room.units hr)).or ((om_inN (neg := false) rfl hK hW hP (Room.units hr)).or ((om_inL hK (hu2 hr)).or (om_inUx hK (op_inU (hu2 hr)))))
theorem ob_notIn (hK : X.K = P.K) (hW : X.w = P.w) (hP : X.prog = P.pg) (hr : Room k X.A) : OpM P X (compareOp .NotIn) gNotInAll := (oa_notIn hK (Room.units hr)).or ((om_inN (neg := true) rfl hK hW hP (Room.units hr)).or ((om_notInL hK (hu2 hr)).or (om_inUx hK (op_notInU (hu2 hr)))))
end
end M7
namespace M7
/-! ### a closed law -/
def isT : R → Bool
  | .ok (.bl true) _ => true
  | _ => false
theorem isT_ok {r : R} (h : isT r = true) : ∃ h, r = .ok (.bl true) h := by
  unfold isT at h
  split at h
  · exact ⟨_, rfl⟩
  · cases h
end M7
end

noncomputable section
namespace M7
open PySem PySem.Spec PyProof.Rows L2
section
variable {P : Par} {ρ ρ1 ρ' ρ'' : List Addr} {W W' W'' : WS} {W0 : FW} {H H1 H' H'' : Hp} {hp hp' : HP} {E : XK} {Q : VK} {X : Cx} {pos : Pos}
/-! ### zip of two lists that nobody changes, of two tuples -/
def fzL : U → Option (List U)
  | .lst us => some us
  | .lsx us => some us
  | _ => none
theorem fzL_ok (hK : X.K = P.K) {u : U} {v : V} {us : List U} (r : RU P ρ W H u v) (e : fzL u = some us) : ∃ a vs, v = .ref a ∧ RUs P ρ W H us vs ∧ ∀ ρ' W' H', Stay ρ W H ρ' W' H' → SqL X.K H' a vs := by
  cases r with
  | @lst xs a vs h r => cases e; exact ⟨a, vs, rfl, r, fun ρ' W' H' st => SqL.of (st.fz h).1⟩
  | @lsx xs a vs h r => cases e; exact ⟨a, vs, rfl, r, fun ρ' W' H' st => lat_sq hK (st.lat h)⟩
  | _ => cases e
def srcZZ (us ws : List U) : Src := fun _ i => match nthF us i, nthF ws i with
  | some u, some w => some (some (.tup [u, w]))
  | _, _ => some none
theorem zipJ {J : It} {us ws : List U} {vs ys : List V} (hs : ∀ ρ' W' H', Stay ρ W H ρ' W' H' → (∀ i, vs.length ≤ i ∨ ys.length ≤ i → J.stop i H') ∧ ∀ i v y, vs[i]? = some v → ys[i]? = some y →
      J.go i H' ∧ ∀ x H'', J.yld i H' x H'' → ∃ T, x = .ref T ∧ H' T = none ∧ H'' = upd H' T (.tup [v, y])) (r : RUs P ρ W H us vs) (r2 : RUs P ρ W H ws ys) : JOk P ρ W H J (srcZZ us ws) := by
  intro ρ' W' H' hp' i st fk rh'
  obtain ⟨h1, h2⟩ := hs ρ' W' H' st
  have ra := RUs.stay st r
  have rb := RUs.stay st r2
  have la := ra.length
  have lb := rb.length
  unfold srcZZ
  simp only [nthF_eq]
  cases e1 : us[i]? with
  | none =>
    refine ⟨fun _ => h1 i (.inl ?_), fun u e => by cases e⟩
    have := List.getElem?_eq_none_iff.mp e1
    omega
  | some u =>
    cases e2 : ws[i]? with
    | none =>
      refine ⟨fun _ => h1 i (.inr ?_), fun u e => by cases e⟩
      have := List.getElem?_eq_none_iff.mp e2
      omega
    | some z =>
      obtain ⟨v, hv, rv⟩ := RUs.get ra e1
      obtain ⟨y, hy, ry⟩ := RUs.get rb e2
      obtain ⟨g, k⟩ := h2 i v y hv hy
      refine ⟨(fun e => by cases e), fun u' e => ?_⟩
      cases e
      refine ⟨g, fun x H'' q => ?_⟩
      obtain ⟨T, rfl, hn, rfl⟩ := k x H'' q
      exact ⟨Ext.fresh hn, rh'.fresh hn, RU.newTup rh' hn (.cons rv (.cons ry .nil))⟩
def jZip (ma : MA) : MJ := fun σ h => (ma σ h).bindJ fun us h1 => match us with
  | [.tup xs, .tup ys] => .ok (srcZZ xs ys) xs.length h1
  | [u, w] => match fzL u, fzL w with
    | some xs, some ys => .ok (srcZZ xs ys) xs.length h1
    | _, _ => .bad
  | _ => .bad
theorem tI_zip {e e2 : Expr} {ma : MA} {p tpos : Pos} {elts : List Expr} {kk : Nat} (hK : X.K = P.K) (hg : Gl X "zip") (hm : X.mg "zip" = none) (h : PA X [e, e2] (tMA P E ma))
    (hs : starEach [e, e2] X.env = (false, eval e X.env) :: starEach [e2] X.env) (hpl : (backTo pos (starEach [e2] X.env)).any (·.1) = false) :
    PI X (.Tuple elts kk tpos) (.Call (.Name "zip" p) [e, e2] [] pos) (tI P E (jZip ma)) := ⟨fun pins s σ H R' I q => by
  obtain ⟨ρ, W0, W, σ', hp, rs, rh, po⟩ := q
  refine (RZ.pi_zipA hg hm h hs hpl).run pins s σ H R' I (tMA_thenJ rs rh po fun ρ1 H1 us vs hp1 rs1 rh1 ru1 x1 po1 => ?_)
  split at po1
  · rename_i xs ys
    cases ru1 with
    | cons ra t =>
      cases t with
      | cons rb t =>
        cases t
        cases ra with
        | @tup _ a vs ha r1 =>
          cases rb with
          | @tup _ b ws hb r2 =>
            refine ⟨a, b, vs, ws, rfl, .inr ⟨tat_sq hK ha, tat_sq hK hb, po1 ρ1 H1 _ Ext.refl rh1 (zipJ (fun ρ' W' H' st => ?_) r1 r2)⟩⟩
            have qa := tat_sq hK (st.tat ha)
            have qb := tat_sq hK (st.tat hb)
            refine ⟨fun i l => ⟨vs, ws, qa, qb, l⟩, fun i v y e1 e2 => ⟨⟨vs, ws, v, y, qa, qb, e1, e2⟩, fun x H'' k => ?_⟩⟩
            obtain ⟨T, v', y', k1, k2, k3, k4, k5⟩ := k
            have z1 := k4 vs qa
            have z2 := k5 ws qb
            rw [e1] at z1
            rw [e2] at z2
            cases z1
            cases z2
            exact ⟨T, k1, k2, k3⟩
  · split at po1
    · rename_i xs ys ex ey
      cases ru1 with
      | cons ra t =>
        cases t with
        | cons rb t =>
          cases t
          obtain ⟨a, vs, rfl, r1, sa⟩ := fzL_ok hK ra ex
          obtain ⟨b, ws, rfl, r2, sb⟩ := fzL_ok hK rb ey
          refine ⟨a, b, vs, ws, rfl, .inl ⟨sa _ _ _ Stay.refl, sb _ _ _ Stay.refl, po1 ρ1 H1 _ Ext.refl rh1 (zipJ (fun ρ' W' H' st => ?_) r1 r2)⟩⟩
          have qa := sa _ _ _ st
          have qb := sb _ _ _ st
          refine ⟨fun i l => ⟨vs, ws, qa, qb, l⟩, fun i v y e1 e2 => ⟨⟨vs, ws, v, y, qa, qb, e1, e2⟩, fun x H'' k => ?_⟩⟩
          obtain ⟨T, v', y', k1, k2, k3, k4, k5⟩ := k
          have z1 := k4 vs qa
          have z2 := k5 ws qb
          rw [e1] at z1
          rw [e2] at z2
          cases z1
          cases z2
          exact ⟨T, k1, k2, k3⟩
    · exact po1.elim
  · exact po1.elim⟩
end
end M7
end

noncomputable section
namespace M7
open PySem PySem.Spec PyProof.Rows L2
section
variable {P : Par} {X : Cx} {E : XK}
/-! ### a text times a number, two or more -/
theorem repeat_cps (a : Array Nat) : ∀ (n : Nat) (acc : Array Nat), (List.replicate n a).foldl (· ++ ·) acc = (acc.toList ++ (List.replicate n a.toList).flatten).toArray
  | 0, acc => by simp
  | n + 1, acc => by
    rw [List.replicate_succ, List.foldl_cons, repeat_cps a n, List.replicate_succ, List.flatten_cons]
    simp
def rRepS : R2 := fun x y H Q => ∃ (z : List Nat) (n : Nat), x = .str ⟨z.toArray⟩ ∧ y = .int (n : Int) ∧ 2 ≤ n ∧ n ≤ 1000 ∧ 1 ≤ z.length ∧ z.length ≤ 1000 ∧ Q (.str ⟨(List.replicate n z).flatten.toArray⟩) H
theorem op_repS : OpR X (binaryOp .Mult) rRepS := by
  intro pins s σ H x y v u Q I rx ry ⟨z, n, e1, e2, h1, h2, h3, h4, q⟩
  subst e1 e2
  obtain ⟨t, rfl⟩ := rx
  obtain ⟨t', rfl⟩ := ry
  have hz : (⟨z.toArray⟩ : Str).length = z.length := by simp [Str.length]
  have b : z.length * n ≤ 1000 * 1000 := Nat.mul_le_mul h4 h2
  have b2 : n * z.length ≤ 1000 * 1000 := Nat.mul_le_mul h2 h4
  refine PySem.P.mul_str ?_ (fun _ _ => ?_) (fun _ _ => ?_) ?_
  · rw [decide_eq_false (by omega), decide_eq_false (by omega)]; rfl
  · rw [hz]
    have : (1000 : Int) ≤ (2 ^ 63 - 1) / (n : Int) := by
      rw [Int.le_ediv_iff_mul_le (by omega)]
      omega
    omega
  · unfold PySem.Builtin.Str.tooLong
    rw [hz, sizeLine_eq]
    simp only [Int.toNat_natCast, decide_eq_false_iff_not]
    omega
  · rw [if_neg (by omega), hz]
    have c : ((n : Int) == 1 || z.length == 0) = false := by
      rw [Bool.or_eq_false_iff]
      exact ⟨beq_eq_false_iff_ne.mpr (by omega), beq_eq_false_iff_ne.mpr (by omega)⟩
    rw [c, if_neg (by decide)]
    have e : (List.replicate (n : Int).toNat z.toArray).foldl (· ++ ·) #[] = (List.replicate n z).flatten.toArray := by
      rw [repeat_cps]
      simp
    refine ⟨?_, ?_⟩
    · show Str.length _ ≤ _
      rw [e, sizeLine_eq]
      simp [Str.length]
      omega
    · rw [e]
      exact ⟨.str _, H, I.tok _, ⟨_, rfl⟩, q⟩
def gMulS : G2 := fun _ a b => match a, b with
  | .str z, .int i => match decide (2 ≤ i.toNat ∧ i.toNat ≤ 1000 ∧ 1 ≤ z.length ∧ z.length ≤ 1000) with
    | true => some (.str (List.replicate i.toNat z).flatten)
    | false => none
  | _, _ => none
theorem om_mulS : OpM P X (binaryOp .Mult) gMulS := OpM.of op_repS fun H x y Q ρ W hp a b c rh ra rb e k => by
  unfold gMulS at e
  split at e
  · rename_i z i
    split at e
    · rename_i hf
      have hf := of_decide_eq_true hf
      cases e
      cases ra
      cases rb
      refine ⟨z, i.toNat, rfl, ?_, hf.1, hf.2.1, hf.2.2.1, hf.2.2.2, k.now rh (.str _)⟩
      congr 1
      omega
    · cases e
  · cases e
def gMulE : G2 := gOr gMulA gMulS
theorem ob_mul (hK : X.K = P.K) : OpM P X (binaryOp .Mult) gMulE := (oa_mul hK).or om_mulS
end
end M7
end

noncomputable section
namespace M7
open PySem PySem.Spec PyProof.Rows L2
/-! ### what the search needs -/
/-- {k: v} -/
def d1U (k v : U) (h : HP) : R := match k with
  | .tup xs => match toNk 8 (.tup xs) with
    | some _ => .ok (.ref h.n) (h.new (.dN [.tup xs] [v]))
    | none => .bad
  | _ => .bad
def eDisp1 (mk mv : ME) : ME := fun σ h => (mk σ h).bind fun k h1 => (mv σ h1).bind fun v h2 => d1U k v h2
/-- o.setdefault(k, v), numbers and texts -/
def eSetD (mo mk mv : ME) : ME := fun σ h => (mo σ h).bind fun w h1 => match w with
  | .ref n => match h1.m n with
    | some (.dK _ _) => (mk σ h1).bind fun k h2 => (mv σ h2).bind fun v h3 => match h3.m n with
      | some (.dK ks us) => match keyU k with
        | some kk => match Nat.blt ks.length 16777216 with
          | true => match lookK ks us kk with
            | some u => .ok u h3
            | none => .ok v (h3.set n (.dK (putKU ks us kk v).1 (putKU ks us kk v).2))
          | false => .bad
        | none => .bad
      | _ => .bad
    | _ => .bad
  | _ => .bad
/-- e[::-1] -/
def eRev (m : ME) : ME := fun σ h => (m σ h).bind fun u h1 => match asLst h1 u with
  | some us => .ok (.lst us.reverse) h1
  | none => .bad
def numU : Nat → List U → List (KU × U)
  | _, [] => []
  | i, u :: us => (.i (i : Nat), u) :: numU (i + 1) us
/-- dict(enumerate(e)), e a tuple -/
def eDictEn (m : ME) : ME := fun σ h => (m σ h).bind fun u h1 => match u with
  | .tup us => .ok (.ref h1.n) (h1.new (.dK (foldK (numU 0 us) [] []).1 (foldK (numU 0 us) [] []).2))
  | _ => .bad
/-- {k: v for ..}, the keys tuples -/
def bPairN (mk mv : ME) : BodyL := fun acc σ h => match mk σ h with
  | .ok k h1 => match mv σ h1 with
    | .ok u h2 => match putO2 acc k u with
      | some o => .ok o h2
      | none => .bad
    | _ => .bad
  | _ => .bad
/-- the pairs of a dict of numbers and texts -/
def srcI (ks : List KU) (us : List U) : Src := fun _ i => match nthF ks i, nthF us i with
  | some k, some u => some (some (.tup [uOfK k, u]))
  | _, _ => some none
def jItems (m : ME) : MJ := fun σ h => (m σ h).bindJ fun u h1 => match u with
  | .ref n => match h1.m n with
    | some (.dK ks us) => .ok (srcI ks us) ks.length h1
    | _ => .bad
  | _ => .bad
/-- repr of a bool -/
def gReprB : HP → U → Option U := fun _ u => match u with
  | .bl true => some (.str [84, 114, 117, 101])
  | .bl false => some (.str [70, 97, 108, 115, 101])
  | _ => none
end M7
namespace M7
/-- len(e), an instance of C -/
def lenOk (r : U) (h : HP) : R := match r with
  | .int i => match decide (0 ≤ i ∧ i < 9223372036854775808) with
    | true => .ok (.int i) h
    | false => .bad
  | _ => .bad
def lenO (C : Nat) (f : FM) (u : U) (h : HP) : R := match u with
  | .obj D ns us => match Nat.beq D C with
    | true => (f [.obj D ns us] h).bind lenOk
    | false => .bad
  | _ => .bad
def eLenO (C : Nat) (f : FM) (m : ME) : ME := fun σ h => (m σ h).bind (lenO C f)
/-- f(e, .., k = v, ..), the keywords last in order -/
def eCallK (k : Nat) (f : FM) (ma mb : MA) : ME := fun σ h => match ma σ h with
  | .ok us h1 => match mb σ h1 with
    | .ok ws h2 => match Nat.beq (us ++ ws).length k with
      | true => f (us ++ ws) h2
      | false => .bad
    | _ => .bad
  | _ => .bad
def gAddI : G2 := gII fun i j => some (i + j)
end M7
namespace M7
open PySem PySem.Spec PyProof.Rows L2
section
variable {P : Par} {X : Cx} {E : XK}
def gLenD : HP → U → Option U := fun h u => match u with
  | .ref n => match h.m n with
    | some (.dK ks _) => some (.int ks.length)
    | _ => none
  | _ => none
theorem cr_lenD : CallR X (.builtin "len") (cOf P (g1 gLenD)) := callM call_lenD fun H xs Q ρ W hp us c rh rs e k => by
  obtain ⟨u, v, rfl, ru, e⟩ := g1_ok rs e
  unfold gLenD at e
  split at e
  · split at e
    · rename_i n ks us eo
      cases e
      obtain ⟨a, kvs, rfl, hn, h, rk⟩ := dictRef rh ru eo
      refine ⟨a, kvs, rfl, h, ?_⟩
      rw [RKV.len rk]
      exact k.now rh (.int _)
    · cases e
  · cases e
def gLenA : GA := gaOr (g1 gLen) (g1 gLenD)
theorem cr_lenA (hK : X.K = P.K) : CallR X (.builtin "len") (cOf P gLenA) := callOr (cr_len hK) cr_lenD
end
end M7
end

noncomputable section
namespace M7
open PySem PySem.Spec PyProof.Rows L2
section
variable {P : Par} {ρ ρ1 ρ' ρ'' : List Addr} {W W' W'' : WS} {W0 : FW} {H H1 H' H'' : Hp} {hp hp' : HP} {E : XK} {Q : VK} {X : Cx} {pos : Pos} {D : Ends} {σ' : SS} {σ : L2.St}
theorem om_iaddI : OpM P X (inplaceOp .Add) gAddI := om_ii0 iop_add
/-- x, y, z = a, b, c -/
theorem tS_par3 {i j l : Nat} {x y z : Str} {a b c : Expr} {ma : MA} {px py pz pt : Pos} {kt k2 pt2} (hc : X.calm = true) (hN : X.N.Nodup) (hi : X.N[i]? = some x) (hj : X.N[j]? = some y) (hl : X.N[l]? = some z) (hij : i ≠ j) (hil : i ≠ l) (hjl : j ≠ l)
    (hx : X.env.scope.names.lookup x = some .local) (hy : X.env.scope.names.lookup y = some .local) (hz : X.env.scope.names.lookup z = some .local) (ha : PA X [a, b, c] (tMA P E ma))
    (hw : swappedStores [.Tuple [.Name x px, .Name y py, .Name z pz] kt pt] (.Tuple [a, b, c] k2 pt2) X.env = pure (some [x, y, z]))
    (hs : swapsWithSole [.Tuple [.Name x px, .Name y py, .Name z pz] kt pt] (.Tuple [a, b, c] k2 pt2) pos.line X.env = pure false) :
    PS X (.Assign [.Tuple [.Name x px, .Name y py, .Name z pz] kt pt] (.Tuple [a, b, c] k2 pt2) pos) (tS P E (sPar [i, j, l] ma)) := ⟨fun pins s σ H D I q => by
  obtain ⟨ρ, W0, W, σ', hp, rs, rh, po⟩ := q
  refine (ps_par3 hc hN hi hj hl hij hil hjl hx hy hz ha hw hs).run pins s σ H D I (tMA_thenS rs rh po fun ρ1 H1 us vs hp1 rs1 rh1 ru1 x1 po1 => ?_)
  split at po1
  · rename_i e1; cases e1
  · rename_i i' j' l' u w v e1
    cases e1
    cases ru1 with
    | cons r1 t =>
      cases t with
      | cons r2 t =>
        cases t with
        | cons r3 t =>
          cases t
          exact ⟨_, _, _, rfl, po1 ρ1 W H1 _ ExtS.refl (((rs1.setValF r1).setValF r2).setValF r3) rh1⟩
  · exact po1.elim⟩
/-- name = [.. for k in d] on one line -/
theorem tA_lcK {elt tg iter : Expr} {ifs : List Expr} {scope : Scope} {own : List (Str × Nat)} {is : List Nat} {g : GT} {tt : MT} {m e : ME} {i : Nat} {y : Str} {py spos : Pos} (hc : X.calm = true) (hN : X.N.Nodup) (hy : X.N[i]? = some y) (hyl : X.env.scope.names.lookup y = some .local)
    (hsw : swapsWith (.ListComp elt [⟨tg, iter, ifs, 0⟩] scope pos) (some (.Name y py)) spos.line X.env = pure true) (hi : PE X iter (tM P E m)) (ok : BlkOk X.N X.env.scope scope own) (his : ∀ i ∈ is, i ∈ own.map (·.2))
    (hg : ∀ (s : Shared) (H : Hp) (C : Addr) (cl : List (Str × Addr)) (fp : List Addr), PG (X.blk s H scope (compEnvC scope cl C X.env) fp) tg (tG P is g)) (ht : ∀ (s : Shared) (H : Hp) (C : Addr) (cl : List (Str × Addr)) (fp : List Addr), PTs (X.blk s H scope (compEnvC scope cl C X.env) fp) ifs (tMT P noE tt))
    (he : ∀ (s : Shared) (H : Hp) (C : Addr) (cl : List (Str × Addr)) (fp : List Addr), PE (X.blk s H scope (compEnvC scope cl C X.env) fp) elt (tM P noE e)) (hs : ∀ x, foldedSetIterable iter X.env x = pure x) :
    PS X (.Assign [.Name y py] (.ListComp elt [⟨tg, iter, ifs, 0⟩] scope pos) spos) (tAsg (tMC P E (cLcK m g tt (bElt e) (own.map (·.2)))) (gName i)) := ⟨fun pins s σ H D I q =>
  (ps_lock (ps_setLc hc hN hy hyl hsw (tI_keys hi) ok hg ht he hs)).run pins s σ H D I (tLcK_of his q)⟩
/-- d.setdefault(k, v) -/
theorem tM_setd {o e f : Expr} {apos cpos : Pos} {mo mk mv : ME} (hu : X.A.units + 64 < cLine) (ho : PE X o (tM P E mo)) (he : PE X e (tM P E mk)) (hf : PE X f (tM P E mv)) (hm : M2 X o "setdefault" apos e f cpos) : PE X (.Call (.Attribute o "setdefault" apos) [e, f] [] cpos) (tM P E (eSetD mo mk mv)) := ⟨fun pins s σ H Q I q => by
  refine (pe_dsetd ho he hf hm).run pins s σ H Q I ?_
  obtain ⟨ρ, W0, W, σ', hp, rs, rh, po⟩ := q
  refine tM_then rs rh po fun ρ1 H1 u v hp1 rs1 rh1 ru1 x1 po1 => ?_
  split at po1
  · rename_i n
    split at po1
    · rename_i k0 u0 e0
      obtain ⟨a, kv0, rfl, hn0, h0, _⟩ := dictRef rh1 ru1 e0
      refine ⟨a, rfl, .inl ⟨_, .inl h0⟩, tM_then rs1 rh1 po1 fun ρ2 H2 k y hp2 rs2 rh2 ru2 x2 po2 => tM_then rs2 rh2 po2 fun ρ3 H3 w z hp3 rs3 rh3 ru3 x3 po3 => ?_⟩
      split at po3
      · rename_i ks us e1
        split at po3
        · rename_i kk ek
          split at po3
          · rename_i hl
            obtain ⟨b, kvs, eb, hn, hb, rk⟩ := dictRef rh3 ((ru1.ext x2).ext x3) e1
            cases eb
            have := keyU_ok (ru2.ext x3) ek
            subst this
            refine ⟨kvs, kk.key, hb, rfl, ?_, fun v' hv => ?_, fun hv => ?_⟩
            · rw [RKV.len rk, sizeLine_eq]
              exact Nat.le_of_ble_eq_true hl
            · cases el : lookK ks us kk with
              | none => rw [(lookK_ok (x := kk) rk).1 el] at hv; cases hv
              | some u' =>
                rw [el] at po3
                obtain ⟨v2, e2, r2⟩ := (lookK_ok (x := kk) rk).2 _ el
                rw [hv] at e2
                cases e2
                exact po3.pure rh3 r2
            · cases el : lookK ks us kk with
              | some u' =>
                obtain ⟨v2, e2, r2⟩ := (lookK_ok (x := kk) rk).2 _ el
                rw [hv] at e2
                cases e2
              | none =>
                rw [el] at po3
                have hm := List.mem_of_getElem? hn
                have q1 := putKU_ok (x := kk) ru3 rk
                have st : Stay ρ3 W H3 ρ3 W (upd H3 a (.dK (putK kvs kk.key z))) := stay_at (.inl hm)
                exact po3 ρ3 _ z (Ext.refSet hb hm) (rh3.refSet hn hb (.dK upd_same q1.1 (RUs.stay st q1.2))) (ru3.stay st)
          · exact po3.elim
        · exact po3.elim
      · exact po3.elim
    · exact po1.elim
  · exact po1.elim⟩
theorem valsRev {xs : List V} {us : List Value} (h : Vals xs us) : Vals xs.reverse us.reverse := h.reverse
theorem rusRev {us : List U} {vs : List V} (h : RUs P ρ W H us vs) : RUs P ρ W H us.reverse vs.reverse := by
  induction h with
  | nil => exact .nil
  | cons r t ih => rw [List.reverse_cons, List.reverse_cons]; exact RUs.append ih (.cons r .nil)
/-- e[::-1] -/
theorem tM_rev {e st : Expr} {m : ME} {p2 : Pos} (hK : X.K = P.K) (he : PE X e (tM P E m)) (hst : PE X st (tM P E (eNeg (eC (.int 1))))) {ops : Value → Value → List Value} (hb : ∀ v u : Value, subscripted (.Slice none none (some st) p2) false v u = operate (ops v u) (getItem v u)) : PE X (.Subscript e (.Slice none none (some st) p2) pos) (tM P E (eRev m)) := ⟨fun pins s σ H Q I q => by
  obtain ⟨ρ, W0, W, σ', hp, rs, rh, po⟩ := q
  refine Subscript_ (thn (he.run pins s σ H (fun x H1 => ∃ a, x = .ref a ∧ tM P E (eNeg (eC (.int 1))) σ H1 fun y H2 => y = .int (-1) ∧ ∃ vs, SqL X.K H2 a vs ∧ ∀ p, H2 p = none → Q (.ref p) (upd H2 p (.lst vs.reverse))) I
    (tM_then rs rh po fun ρ1 H1 u v hp1 rs1 rh1 ru1 x1 po1 => ?_)) fun v s1 ⟨x, H1, I1, r1, a, ex, q1⟩ => ?_)
  · split at po1
    · rename_i us eu
      obtain ⟨a, vs, rfl, hq, r⟩ := asLst_ok rh1 ru1 eu
      refine ⟨a, rfl, ρ1, W0, W, σ', hp1, rs1, rh1, fun ρ2 H2 y x2 rh2 ry => ?_⟩
      cases ry
      obtain ⟨a2, vs2, e2, hq2, r2⟩ := asLst_ok rh2 (ru1.ext x2) eu
      cases e2
      refine ⟨rfl, vs2, by rw [hK]; exact hq2, fun p hn => ?_⟩
      exact po1 ρ2 _ _ (x2.trans (Ext.fresh hn)) (rh2.fresh hn) (RU.newLst rh2 hn (rusRev r2))
    · exact po1.elim
  · subst ex
    cases (show v = .ref a from r1)
    refine wpAny_Slice (thn ((po_none (X := X)).run pins s1 σ H1 (fun o H2 => o = none ∧ H2 = H1) I1 ⟨rfl, rfl⟩) fun vl s2 ⟨l, H2, I2, pl, el, eH⟩ => thn ((po_none (X := X)).run pins s2 σ H2 (fun o H3 => o = none ∧ H3 = H2) I2 ⟨rfl, rfl⟩) fun vu s3 ⟨l2, H3, I3, pu, el2, eH3⟩ => ?_)
    subst el el2 eH3 eH
    rw [evalPart_some]
    refine thn (hst.run pins s3 σ _ _ I3 q1) fun w s4 ⟨y, H4, I4, r4, ey, vs, hq, qq⟩ => ?_
    subst ey
    obtain ⟨t, rfl⟩ := r4
    have I5 : Inv X pins σ H4 { s4 with heap := s4.heap.push { cls := .type "slice", data := .fields #[vl, vu, .int (-1) t] } } := I4.kept (t' := s4.toks) fun b ob q => Heap.get?_push_of_some _ q
    obtain ⟨its, r, ht, hz⟩ := I5.list hq
    have hlen := r.length
    show wpAny (model X.prog X.w) X.A (subscriptTail e (.Slice none none (some st) p2) (.ref a) (.ref s4.heap.objs.size)) (EP X pins σ Q) X.xe { s4 with heap := s4.heap.push { cls := .type "slice", data := .fields #[vl, vu, .int (-1) t] } }
    refine tail_any ht.isList.typeIs slot_list_getitem.lookup ?_ (hb _ _)
    refine wpAny_getItem_list_slice ht.isList (Heap.IsSliceOf.new ..) pl pu (.int _ _) (by decide) ?_ (by rw [List.size_toArray] <;> omega)
    rw [PySem.W.krv_pick]
    refine ⟨.ref _, _, I5.laid (t' := s4.toks) (o := .lst vs.reverse) (fun b ob q => Heap.get?_push_of_some _ q) (Nat.le_refl _) ?_, rfl, qq _ (I5.hok.fresh (Nat.le_refl _))⟩
    exact ⟨by rw [List.length_reverse]; exact hz, _, 0, by simpa using r.reverse, Heap.get?_push_size _ rfl⟩⟩
/-- {k: v}, k a tuple -/
def afterD1 (P : Par) (p : Addr) (Q : VK) (ps : List (V × V)) (H2 : Hp) : Prop := ∃ x y, ps = [(x, y)] ∧ H2 p = some (.dK []) ∧ ∃ (ρ : List Addr) (W : WS) (u : U) (q : NestedKey) (b : Addr), x = .ref b ∧ toNk 8 u = some q ∧ RU P ρ W H2 u (.ref b) ∧
  ∀ z : Value, RelV y z → Q (.ref p) (upd H2 p (.ext (rawN P.w p [(q, b, z)])))
def tD1 (P : Par) (tk tv : TE) : TE := fun σ H Q => ∀ p, H p = none → tPairs [(tk, tv)] σ (upd H p (.dK [])) (afterD1 P p Q)
theorem pe_d1 {k v : Expr} {tk tv : TE} (hK : X.K = P.K) (hW : X.w = P.w) (hu : X.A.units + 64 < cLine) (hk : PE X k tk) (hv : PE X v tv) : PE X (.Dict [some k] [v] pos) (tD1 P tk tv) := by
  refine ⟨fun pins s σ H Q I q => ?_⟩
  have hn := I.hok.fresh (Nat.le_refl s.heap.objs.size)
  have I1 := I.laid (a := s.heap.objs.size) (o := .dK []) (h' := s.heap.push { cls := .type "dict", data := .dict #[] }) (t' := s.toks) (fun _ _ q => Heap.get?_push_of_some _ q) (Nat.le_refl _) (dk_empty s.heap I.big)
  rw [arm_eval_Dict, show (evalEachOpt [some k] X.env).zip ((evalEach [v] X.env).map fun z => do let y ← z; standAt pos; pure y) = (pairTrees [some k] [v] X.env pos).map fun p => (some p.1, p.2) from rfl,
    dictDisplay_pairs (pairTrees [some k] [v] X.env pos) (by intro z; cases z) (by show 1 < 17; decide)]
  refine wpAny_bind (wpAny_standAt (wpAny_bind (wpAny_subDictH (knd := nestedKind X.prog X.w) (by show X.A.units + 8 < cLine; omega) (by show 1 ≤ 15; decide)
    (thn ((pps_cons hk hv pps_nil).run pins _ σ _ _ I1 (q _ hn)) fun ws s2 ⟨ps, H2, I2, rel, x, y, ep, hd0, ρ, W, u, q0, b, ex, hq, ru, k0⟩ => ?_))))
  subst ep ex
  cases rel with
  | @cons _ z _ _ r0 t =>
    cases t
    obtain ⟨z1, z2⟩ := z
    obtain ⟨ra, rb⟩ := r0
    cases (show z1 = .ref b from ra)
    obtain ⟨_, hsys, vs, rv, o, es, ep, ho, hc, hdat, _, hp, _⟩ := (show ([] : List (Key × V)).length ≤ sizeLine ∧ (s.heap.objs.size == sysModules) = false ∧ ∃ vs, KV [] vs ∧ s2.heap.DictOf (mixKind X.prog X.w) s.heap.objs.size vs from I2.hok _ _ hd0)
    cases rv
    have he : es.toList = [] := by
      generalize es.toList = l at hp
      cases hp
      rfl
    have hi : (nestedKind X.prog X.w).is s2.heap q0 b := ⟨nk_is hK I2 8 u _ q0 _ hq ru rfl, toNk_depth 8 u q0 hq⟩
    refine ⟨[(q0, b, z2)], ⟨rfl, rfl, hi, True.intro⟩, ⟨o, es, ep, ho, hc, hdat, he, (by intro x hx; cases hx), .nil⟩, fun h' tk' dd hs => wpAny_pure ?_⟩
    obtain ⟨o', es', ep', ho', hc', hdat', he', _, _⟩ := dd
    refine ⟨.ref s.heap.objs.size, _, d_write I2 (by rw [hd0]; exact True.intro) hs ⟨o', ho'⟩ (ob := .ext (rawN P.w s.heap.objs.size [(q0, b, z2)])) ?_, rfl, k0 z2 rb⟩
    refine rawN_ok ⟨hsys, (by rw [sizeLine_eq]; show 1 ≤ 16777216; decide), o', es', ep', ho', hc', hdat', ?_⟩
    rw [he', ← hW]
    rfl
theorem tM_disp1 {k v : Expr} {mk mv : ME} (hK : X.K = P.K) (hW : X.w = P.w) (hu : X.A.units + 64 < cLine) (hk : PE X k (tM P E mk)) (hv : PE X v (tM P E mv)) : PE X (.Dict [some k] [v] pos) (tM P E (eDisp1 mk mv)) := ⟨fun pins s σ H Q I q => by
  refine (pe_d1 hK hW hu hk hv).run pins s σ H Q I fun b hb => ?_
  obtain ⟨ρ, W0, W, σ', hp, rs, rh, po⟩ := q
  have e0 : (upd H b (.dK [])) b = some (.dK []) := upd_same
  have d0 : del (upd H b (.dK [])) b = H := del_fresh hb
  have rs2 : RSl P ρ (W0.more b) (WA W b) (upd H b (.dK [])) σ' σ := rsl_in e0 (by rw [d0]; exact rh) (by rw [d0]; exact rs)
  have rh2 : RH P ρ (WA W b) hp (upd H b (.dK [])) := rh_in e0 (by rw [d0]; exact rh)
  have nb : b ∉ ρ := rh.notin hb
  unfold eDisp1 at po
  show tM P E mk σ _ fun x H1 => tM P E mv σ H1 fun y H2 => afterD1 P b Q [(x, y)] H2
  refine ⟨ρ, W0.more b, WA W b, σ', hp, rs2, rh2, ?_⟩
  cases ek : mk σ' hp with
  | bad => rw [ek] at po; exact po.elim
  | exc x h1 => rw [ek] at po; exact fun ρ1 H1 c d x1 rh1 rx => po ρ1 H1 c d ((Ext.fresh hb).trans x1) (rh1.weak fun a z => .inl z) (rx.weak fun a z => .inl z)
  | ok u h1 =>
    rw [ek] at po
    intro ρ1 H1 x x1 rh1 ru1
    refine ⟨ρ1, W0.more b, WA W b, σ', h1, rs2.ext rh2 x1, rh1, ?_⟩
    have po : PostE P E ρ W H Q ((mv σ' h1).bind fun v h2 => d1U u v h2) := po
    cases ev : mv σ' h1 with
    | bad => rw [ev] at po; exact po.elim
    | exc x h2 => rw [ev] at po; exact fun ρ2 H2 c d x2 rh3 rx => po ρ2 H2 c d (((Ext.fresh hb).trans x1).trans x2) (rh3.weak fun a z => .inl z) (rx.weak fun a z => .inl z)
    | ok w h2 =>
      rw [ev] at po
      intro ρ2 H2 y x2 rh3 ru2
      have po : PostE P E ρ W H Q (d1U u w h2) := po
      unfold d1U at po
      split at po
      · rename_i xs
        split at po
        · rename_i q0 hq
          have ru3 := ru1.ext x2
          obtain ⟨c, rfl⟩ := nk_ref hq ru3 rfl
          have hb2 : H2 b = some (.dK []) := (x1.trans x2).keep b _ e0 nb
          refine ⟨_, _, rfl, hb2, ρ2, WA W b, _, q0, c, rfl, hq, ru3, fun z rz => ?_⟩
          have nb2 : b ∉ ρ2 := (x1.trans x2).notin e0 nb
          have d2 : Ext ρ H ρ2 (del H2 b) := by
            have := ext_out nb (x1.trans x2)
            rw [d0] at this
            exact this
          have rh4 : RH P ρ2 W h2 (del H2 b) := rh_out (rh.notW hb) rh3
          have hn : (del H2 b) b = none := del_same
          have e3 : upd H2 b (.ext (rawN P.w b [(q0, c, z)])) = upd (del H2 b) b (.ext (rawN P.w b [(q0, c, z)])) := by
            funext d
            by_cases hc : d = b
            · subst hc; rw [upd_same, upd_same]
            · rw [upd_ne hc, upd_ne hc, del_ne hc]
          rw [e3]
          have st : Stay ρ2 (WA W b) H2 ρ2 W (del H2 b) := stay_out
          refine po _ _ _ (d2.trans (Ext.newRef hn)) (rh4.newRef hn (.dN upd_same (kv := [(q0, y)]) (.cons ⟨rfl, rz⟩ .nil) (.cons ⟨hq, (ru3.stay st).ext (Ext.newRef hn)⟩ .nil) (by simp) (.cons ((ru2.stay st).ext (Ext.newRef hn)) .nil))) (.ref rh4.lastIx)
        · exact po.elim
      · exact po.elim⟩
end
end M7
end

noncomputable section
namespace M7
open PySem PySem.W PySem.Spec PyProof.Rows
section
variable {prog : Program} {w : World} {A : Around} {E : Value → Shared → Prop} {s : Shared}
/-! ### enumerate over a tuple, its pairs put into a dict (the steps turned from those over a list) -/
theorem enT_item_held {e it l T : Addr} {i : Nat} {its : Array Value} {x o0 : Value} {f : Bool} {ob : Obj} {Q : Value → Shared → Prop}
    (w0 : IsEnumHeld s.heap e it i o0 T f) (w5 : s.heap.get? T = some ob) (w6 : T ≠ e) (w7 : T ≠ it) (w1 : s.heap.IsTupleIter it l i) (w2 : s.heap.IsTuple l its) (w3 : its[i]? = some x) (w4 : e ≠ it)
    (kk : ∀ h', IsEnumHeld h' e it ((i : Int) + 1) o0 T true → h'.IsTupleIter it l (i + 1) →
      h'.get? s.heap.objs.size = some { cls := .type "tuple", data := .seq #[.int i s.toks, x] } → h'.objs.size = s.heap.objs.size + 1 →
      (∀ b o, b ≠ e → b ≠ it → s.heap.get? b = some o → h'.get? b = some o) → Q (.ref s.heap.objs.size) { s with heap := h', toks := s.toks + 1 }) :
    wpAny (model prog w) A (Builtin.«enumerate.__next__» ⟨[.ref e], []⟩) (fun fn0 s' => ∃ v, fn0 = .done (.ret v) ∧ Q v s') E s := by
  obtain ⟨qh, g, d, tkk, os⟩ := s
  show wpAny _ _ (field (.ref e) 2 >>= _) _ _ _
  refine wpAny_bind (wpAny_field w0 rfl (x := .ref it) rfl ?_)
  refine wpAny_bind (wpAny_nextOf_tuple_item w1 w2 w3 fun a1 z1 y1 => ?_)
  replace y1 : Heap.SameBut it qh a1 := y1
  have x1 : IsEnumHeld a1 e it i o0 T f := (y1.2 e w4).trans w0
  show wpAny _ _ (field (.ref e) 3 >>= _) _ _ ⟨a1, g, d, tkk, os⟩
  refine wpAny_bind (wpAny_field x1 rfl (x := rawInt i) rfl ?_)
  show wpAny _ _ (field (.ref e) 4 >>= _) _ _ ⟨a1, g, d, tkk, os⟩
  refine wpAny_bind (wpAny_field x1 rfl (x := .none) rfl ?_)
  show wpAny _ _ (mkInt i >>= _) _ _ ⟨a1, g, d, tkk, os⟩
  refine wpAny_bind (wpAny_mkInt ?_)
  show wpAny _ _ (setField (.ref e) 3 (rawInt ((i : Int) + 1)) >>= _) _ _ ⟨a1, g, d, tkk + 1, os⟩
  refine wpAny_bind (wpAny_setField_rec x1 (by simp) fun a2 x2 y2 => ?_)
  replace y2 : Heap.SameBut e a1 a2 := y2
  replace x2 : IsEnumHeld a2 e it ((i : Int) + 1) o0 T f := x2
  show wpAny _ _ (setField (.ref e) 4 .none >>= _) _ _ ⟨a2, g, d, tkk + 1, os⟩
  refine wpAny_bind (wpAny_setField_rec x2 (by simp) fun a3 x3 y3 => ?_)
  replace y3 : Heap.SameBut e a2 a3 := y3
  replace x3 : IsEnumHeld a3 e it ((i : Int) + 1) o0 T f := x3
  show wpAny _ _ (newTuple [.int i tkk, x] >>= _) _ _ ⟨a3, g, d, tkk + 1, os⟩
  refine wpAny_bind (wpAny_newTuple ?_)
  have x4 : IsEnumHeld (a3.push { cls := .type "tuple", data := .seq #[.int i tkk, x] }) e it ((i : Int) + 1) o0 T f := Heap.get?_push_of_some _ x3
  generalize g4 : a3.push { cls := .type "tuple", data := .seq #[.int i tkk, x] } = a4 at x4
  have sz : a3.objs.size = qh.objs.size := by rw [y3.1, y2.1, y1.1]
  have el : e < qh.objs.size := Heap.lt_size w0
  have t4 : a4.get? qh.objs.size = some { cls := .type "tuple", data := .seq #[.int i tkk, x] } := by rw [← g4, ← sz]; exact Heap.get?_push_size _ rfl
  have u4 : a4.objs.size = qh.objs.size + 1 := by rw [← g4, Heap.size_push, sz]
  have v4 : ∀ b o, b ≠ e → b ≠ it → qh.get? b = some o → a4.get? b = some o := fun b o hbe hbi hb => by
    rw [← g4]; exact Heap.get?_push_of_some _ (y3.extBut b o hbe (y2.extBut b o hbe (y1.extBut b o hbi hb)))
  have z4 : a4.IsTupleIter it l (i + 1) := by
    rw [← g4]; obtain ⟨o, ho, r⟩ := (z1.extBut y2.extBut (Ne.symm w4)).extBut y3.extBut (Ne.symm w4); exact ⟨o, Heap.get?_push_of_some _ ho, r⟩
  show wpAny _ _ (Builtin.SmallTypes.ownedTupleIsFree (.ref e) >>= _) _ _ ⟨a4, g, d, tkk + 1, os⟩
  rw [sz]
  clear g4 x3 y3 x2 y2 x1 y1 z1 sz a3 a2 a1
  refine wpAny_bind (wpAny_tupleHeld_enum (s := ⟨a4, g, d, tkk + 1, os⟩) x4 (v4 T ob w6 w7 w5) fun a5 x5 y5 => ?_)
  replace y5 : Heap.SameBut e a4 a5 := y5
  simp only [Bool.false_eq_true, if_false]
  refine wpAny_pure ⟨_, rfl, kk a5 x5 (z4.extBut y5.extBut (Ne.symm w4)) (y5.extBut _ _ (Nat.ne_of_gt el) t4) ?_ fun b o hbe hbi hb => y5.extBut b o hbe (v4 b o hbe hbi hb)⟩
  show a5.objs.size = qh.objs.size + 1
  rw [y5.1, u4]
theorem nxT_item_held {e it l T : Addr} {i : Nat} {its : Array Value} {x o0 : Value} {f : Bool} {ob : Obj} {Q : Option Value → Shared → Prop}
    (w0 : IsEnumHeld s.heap e it i o0 T f) (w5 : s.heap.get? T = some ob) (w6 : T ≠ e) (w7 : T ≠ it) (w1 : s.heap.IsTupleIter it l i) (w2 : s.heap.IsTuple l its) (w3 : its[i]? = some x) (w4 : e ≠ it)
    (kk : ∀ h', IsEnumHeld h' e it ((i : Int) + 1) o0 T true → h'.IsTupleIter it l (i + 1) →
      h'.get? s.heap.objs.size = some { cls := .type "tuple", data := .seq #[.int i s.toks, x] } → h'.objs.size = s.heap.objs.size + 1 →
      (∀ b o, b ≠ e → b ≠ it → s.heap.get? b = some o → h'.get? b = some o) → Q (some (.ref s.heap.objs.size)) { s with heap := h', toks := s.toks + 1 }) :
    wpAny (model prog w) A (pyNext (.ref e)) Q E s := by
  have ty0 : s.TypeIs (.ref e) "enumerate" := ⟨_, w0, rfl⟩
  unfold pyNext
  exact wpAny_bind (wpAny_attempt (wpAny_callSpecial?_slot (name := Str.ofString "__next__") ty0 F.slot_enumerate_next
    (wpAny_call_entry F.slot_enumerate_next ty0 F.entry_enumerate_next
      (enT_item_held w0 w5 w6 w7 w1 w2 w3 w4 fun h' a1 a2 a3 a4 a5 => wpAny_pure (kk h' a1 a2 a3 a4 a5)) (F.args_enumerate_next_1 _))))
theorem nxT_end_held {e it l T : Addr} {i : Nat} {its : Array Value} {o0 : Value} {f : Bool} {Q : Option Value → Shared → Prop} (wh : A.handled = none)
    (w0 : IsEnumHeld s.heap e it i o0 T f) (w1 : s.heap.IsTupleIter it l i) (w2 : s.heap.IsTuple l its) (w3 : its[i]? = none)
    (kk : ∀ h', Heap.ExtBut it s.heap h' → Q none { s with heap := h' }) : wpAny (model prog w) A (pyNext (.ref e)) Q E s := by
  have ty0 : s.TypeIs (.ref e) "enumerate" := ⟨_, w0, rfl⟩
  unfold pyNext
  refine wpAny_bind (wpAny_attempt (wpAny_callSpecial?_slot (name := Str.ofString "__next__") ty0 F.slot_enumerate_next
    (wpAny_call_entry F.slot_enumerate_next ty0 F.entry_enumerate_next ?_ (F.args_enumerate_next_1 _))))
  show wpAny _ _ (field (.ref e) 2 >>= _) _ _ _
  refine wpAny_bind (wpAny_field w0 rfl (x := .ref it) rfl ?_)
  refine wpAny_bind (wpAny_nextOf_tuple_end wh w1 w2 w3 fun h' x he' hx' => ?_)
  obtain ⟨o, ho, hc⟩ := hx'
  refine wpAny_bind (wpAny_isInstance (T := "StopIteration") (b := true) ⟨o, ho, hc⟩ isSubtype_stop ?_)
  exact wpAny_pure (kk _ he')
theorem pairArg_enT (e it l : Addr) (c1 : e ≠ it) (c2 : l ≠ e) (c3 : l ≠ it) (its : Array Value) :
    PairArg prog w "enumerate" e [e, it, l] [e, it] its.size (fun i k v => (∃ t, k = .int i t) ∧ its[i]? = some v)
      (fun h => (∃ o0, IsEnum h e it 0 o0) ∧ h.IsTupleIter it l 0 ∧ h.IsTuple l its) where
  type := fun s okk => let ⟨⟨_, w0⟩, _⟩ := okk; ⟨_, w0, rfl⟩
  notDict := by decide
  keep := fun h h' okk hk => by
    obtain ⟨⟨o0, w0⟩, w1, w2⟩ := okk
    exact ⟨⟨o0, hk _ _ w0⟩, w1.at fun o x => hk _ o x, w2.at fun o x => hk _ o x⟩
  there := fun h okk b hb => by
    obtain ⟨⟨o0, w0⟩, ⟨o1, h1, _⟩, ⟨o2, h2, _⟩⟩ := okk
    simp only [List.mem_cons, List.not_mem_nil, or_false] at hb
    rcases hb with rfl | rfl | rfl
    all_goals first | exact ⟨_, w0⟩ | exact ⟨_, h1⟩ | exact ⟨_, h2⟩
  sub := fun b hb => by simp at hb ⊢; rcases hb with rfl | rfl <;> simp
  noKeys := fun A s Q E dA okk h => let ⟨⟨_, w0⟩, _⟩ := okk; getAttrOr_miss_enumerate w0 rfl rfl rfl enumerate_no_keys (by decide +kernel) dA h
  iter := fun A s d Q E dA okk hd df h => by
    obtain ⟨⟨o0, w0⟩, w1, w2⟩ := okk
    simp only [List.mem_cons, List.not_mem_nil, or_false, not_or] at df
    obtain ⟨de, dit, dl⟩ := df
    refine wpAny_pyIter_enum w0 (h e [e, it] (fun i h => h.IsTupleIter it l i ∧ h.IsTuple l its ∧ ((∃ o0, IsEnum h e it i o0) ∨ ∃ o0 T f ob, IsEnumHeld h e it i o0 T f ∧ h.get? T = some ob ∧ T ≠ e ∧ T ≠ it ∧ T ≠ d)) s.heap s.toks ?_
      ⟨w1, w2, .inl ⟨o0, w0⟩⟩ (fun _ _ e => e) fun b hb => .inl hb)
    exact {
      off := fun hm => by
        simp only [List.mem_cons, List.not_mem_nil, or_false] at hm
        rcases hm with x | x
        · exact de x
        · exact dit x
      frame := fun i a1 a2 st hk => by
        obtain ⟨w1, w2, w0⟩ := st
        refine ⟨w1.at fun o x => hk _ o (Ne.symm dit) x, w2.at fun o x => hk _ o (Ne.symm dl) x, ?_⟩
        rcases w0 with ⟨o0, w0⟩ | ⟨o0, T, f, ob, w0, w5, r1, r2, r3⟩
        · exact .inl ⟨o0, hk _ _ (Ne.symm de) w0⟩
        · exact .inr ⟨o0, T, f, ob, hk _ _ (Ne.symm de) w0, hk _ _ r3 w5, r1, r2, r3⟩
      item := fun i s₁ Q₁ E₁ hi st dsz kk => by
        obtain ⟨w1, w2, w0⟩ := st
        have ex := Array.getElem?_eq_getElem hi
        have ec : ((i + 1 : Nat) : Int) = (i : Int) + 1 := by omega
        have nit : s₁.heap.objs.size ≠ it := let ⟨_, x, _⟩ := w1; Nat.ne_of_gt (Heap.lt_size x)
        rcases w0 with ⟨o0, w0⟩ | ⟨o0, T, f, ob, w0, w5, r1, r2, r3⟩
        · have na : l ≠ it := c3
          refine wpAny_pyNext_enum_itemD (Draws.tuple (A := A.in1) (show A.in1.handled = none from dA) it l na its) w0 ⟨w1, w2⟩ hi c1 (by simp [c1, Ne.symm c2]) fun x h' tkk hPx ho hst' hT' hsz' hk => ?_
          have exi : its[i]? = some x := hPx
          exact kk s₁.heap.objs.size _ _ h' (tkk + 1) ⟨⟨_, rfl⟩, exi⟩ (.inl ⟨_, hT', rfl, _, rfl⟩)
            ⟨hst'.1, hst'.2, .inr ⟨_, s₁.heap.objs.size, false, _, (by rw [ec]; exact ho), hT', Nat.ne_of_gt (Heap.lt_size w0), nit, Nat.ne_of_gt dsz⟩⟩
            fun b o hb x => hk b o (fun y => hb (by simp [y])) (fun y => hb (by simp [y])) x
        · refine nxT_item_held w0 w5 r1 r2 w1 w2 ex c1 fun h' ho hit' hT' sz hk => ?_
          exact kk s₁.heap.objs.size _ _ h' (s₁.toks + 1) ⟨⟨_, rfl⟩, ex⟩ (.inl ⟨_, hT', rfl, _, rfl⟩)
            ⟨hit', w2.at fun o x => hk l o c2 c3 x, .inr ⟨o0, T, true, ob, (by rw [ec]; exact ho), hk _ _ r1 r2 w5, r1, r2, r3⟩⟩
            fun b o hb x => hk b o (fun y => hb (by simp [y])) (fun y => hb (by simp [y])) x
      done := fun s₁ Q₁ E₁ st kk => by
        obtain ⟨w1, w2, w0⟩ := st
        have w3 : its[its.size]? = none := Array.getElem?_eq_none (Nat.le_refl _)
        rcases w0 with ⟨o0, w0⟩ | ⟨o0, T, f, ob, w0, w5, r1, r2, r3⟩
        · exact wpAny_pyNext_enum_endD (Draws.tuple (A := A.in1) (show A.in1.handled = none from dA) it l c3 its) w0 ⟨w1, w2⟩ fun h' hk => kk h' s₁.toks fun b o hb x => hk b o (fun y => hb (by simp [y])) x
        · exact nxT_end_held dA w0 w1 w2 w3 fun h' hk => kk h' s₁.toks fun b o hb x => hk b o (fun y => hb (by simp [y])) x }

end
end M7
end

noncomputable section
namespace M7
open PySem PySem.Spec PyProof.Rows L2
def numV : Nat → List V → List (Key × V)
  | _, [] => []
  | i, v :: vs => (.inl (i : Nat), v) :: numV (i + 1) vs
def numW : Nat → List Value → List (Key × Value)
  | _, [] => []
  | i, v :: vs => (.inl (i : Nat), v) :: numW (i + 1) vs
theorem numW_len : ∀ (i : Nat) (vs : List Value), (numW i vs).length = vs.length
  | _, [] => rfl
  | i, v :: vs => by rw [numW, List.length_cons, List.length_cons, numW_len]
theorem numV_len : ∀ (i : Nat) (vs : List V), (numV i vs).length = vs.length
  | _, [] => rfl
  | i, v :: vs => by rw [numV, List.length_cons, List.length_cons, numV_len]
theorem numW_at : ∀ (i : Nat) (vs : List Value) (j : Nat) (v : Value), vs[j]? = some v → (numW i vs)[j]? = some (.inl ((i + j : Nat) : Int), v)
  | _, [], _, _, h => by simp at h
  | i, w :: vs, 0, v, h => by
    have : w = v := by simpa using h
    subst this
    rfl
  | i, w :: vs, j + 1, v, h => by
    have := numW_at (i + 1) vs j v (by simpa using h)
    rw [numW, List.getElem?_cons_succ, this, show i + 1 + j = i + (j + 1) by omega]
theorem numKV : ∀ (i : Nat) {vs : List V} {ws : List Value}, Vals vs ws → KV (numV i vs) (numW i ws)
  | _, _, _, .nil => .nil
  | i, _, _, .cons r t => .cons ⟨rfl, r⟩ (numKV (i + 1) t)
section
variable {P : Par} {ρ ρ1 ρ' ρ'' : List Addr} {W W' W'' : WS} {W0 : FW} {H H1 H' H'' : Hp} {hp hp' : HP} {E : XK} {Q : VK} {X : Cx} {pos : Pos} {σ' : SS} {σ : L2.St}
theorem numRKV : ∀ (i : Nat) {us : List U} {vs : List V}, RUs P ρ W H us vs → RKV P ρ W H ((numU i us).map (·.1)) ((numU i us).map (·.2)) (numV i vs)
  | _, _, _, .nil => .nil
  | i, _, _, .cons r t => by
    have z := numRKV (i + 1) t
    exact ⟨by rw [numV, numU, List.map_cons, List.map_cons, List.map_cons, z.1]; rfl, by rw [numV, numU, List.map_cons, List.map_cons]; exact .cons r z.2⟩
theorem tM_dictEn {e : Expr} {m : ME} {p p2 cpos : Pos} (hK : X.K = P.K) (hc : X.calm = true) (g1 : Gl X "dict") (m1 : X.mg "dict" = none) (v1 : bootBuiltins "dict" = some (.type "dict")) (g2 : Gl X "enumerate") (m2 : X.mg "enumerate" = none) (he : PE X e (tM P E m))
    (q1 : starEach [e] X.env = (false, eval e X.env) :: starEach [] X.env) (q2 : (backTo cpos (starEach [] X.env)).any (·.1) = false)
    (q3 : starEach [.Call (.Name "enumerate" p2) [e] [] cpos] X.env = (false, eval (.Call (.Name "enumerate" p2) [e] [] cpos) X.env) :: starEach [] X.env) (q4 : (backTo pos (starEach [] X.env)).any (·.1) = false) (q5 : starEach [] X.env = []) :
    PE X (.Call (.Name "dict" p) [.Call (.Name "enumerate" p2) [e] [] cpos] [] pos) (tM P E (eDictEn m)) := ⟨fun pins s σ H Q I q => by
  refine wpAny_Call_Name_kw (ld_blt I g1 m1 v1 ?_)
  refine PyProof.Rows.callWith_type1 ?_ q3 q4
  rw [q3, q5]
  refine Calls.spliced_cons ?_
  obtain ⟨ρ, W0, W, σ', hp, rs, rh, po⟩ := q
  refine wpAny_Call_Name_kw (ld_blt I g2 m2 boot_enumerate (PyProof.Rows.callWith_type1 (thn ((pa_cons he pa_nil q1).run cpos pins s σ H (fun vs H1 => ∃ a xs, vs = [.ref a] ∧ SqT X.K H1 a xs ∧ ∀ p, H1 p = none → Q (.ref p) (upd H1 p (.dK (mergeK [] (numV 0 xs))))) I
    (tM_then rs rh po fun ρ1 H1 u v hp1 rs1 rh1 ru1 x1 po1 => ?_)) fun us s1 ⟨vs, H1, I1, r1, a, xs, ev, hq, qq⟩ => ?_) q1 q2))
  · split at po1
    · rename_i us
      cases ru1 with
      | @tup _ a vs ht r =>
        refine ⟨a, vs, rfl, tat_sq hK ht, fun p hn => ?_⟩
        have fk := foldK_ok (ps := numU 0 us) (numRKV 0 r) (RKV.nil (P := P) (ρ := ρ1) (W := W) (H := H1))
        exact po1 _ _ _ (Ext.newRef hn) (rh1.newRef hn (.dK upd_same fk.1 (RUs.ext (Ext.newRef hn) fk.2))) (.ref rh1.lastIx)
    · exact po1.elim
  · subst ev
    cases r1 with
    | cons r rr =>
      cases rr
      cases r
      obtain ⟨its, rv, p', hz⟩ := I1.tuple hq
      refine call_enumerate_tup (show s1.heap.IsTuple a its.toArray from p') fun h' hen hit hk => ?_
      refine Calls.spliced_nil ?_
      have I2 : Inv X pins σ H1 { s1 with heap := h' } := I1.kept (t' := s1.toks) hk
      have p2 : h'.IsTuple a its.toArray := let ⟨o, ho, r⟩ := p'; ⟨o, hk _ _ ho, r⟩
      obtain ⟨oi, hoi, hci, hdi⟩ := id hit
      have n1 : a ≠ s1.heap.objs.size + 1 := tup_apart p2 hen rfl (by decide)
      have n2 : a ≠ s1.heap.objs.size := tup_apart p2 hoi hci (by decide)
      have fp : ∀ b ∈ [s1.heap.objs.size + 1, s1.heap.objs.size], FpOk X pins H1 b := fun b hb => by
        have e' : b = s1.heap.objs.size + 1 ∨ b = s1.heap.objs.size := by simpa using hb
        have hle : s1.heap.objs.size ≤ b := by rcases e' with z | z <;> omega
        exact I1.fpOk hle (I1.hok.fresh hle)
      refine call_dict_pairs (knd := mixKind X.prog X.w) (kvs := numW 0 its) (pairArg_enT (s1.heap.objs.size + 1) s1.heap.objs.size a (Nat.succ_ne_self _) n1 n2 its.toArray) (show X.A.handled = none from I2.ok.hd hc) ⟨⟨.none, hen⟩, hit, p2⟩ ⟨by rw [numW_len]; simp, fun i key v ⟨⟨t, ek⟩, ev⟩ => ?_⟩ (by rw [List.size_toArray, ← rv.length]; exact hz) fun h'' tk dd keep => ?_
      · refine ⟨.inl (i : Int), ?_, ?_⟩
        · have := numW_at 0 its i v (by simpa using ev)
          rw [Nat.zero_add] at this
          exact this
        · rw [ek]
          exact mixKind_int _ _ _ _
      · have hl : (mergeK [] (numV 0 xs)).length ≤ sizeLine := by
          have z := length_mergeK (numV 0 xs) []
          rw [List.length_nil, numV_len] at z
          omega
        have hs : (h'.objs.size == sysModules) = false := beq_eq_false_iff_ne.mpr (Ne.symm (Nat.ne_of_lt I2.big))
        have I3 := I2.turnedNew (t' := tk) (ch := [s1.heap.objs.size + 1, s1.heap.objs.size]) (T := h'.objs.size) (ob := .dK (mergeK [] (numV 0 xs))) (h' := h'') keep fp (Nat.le_refl _) (dk_new hl hs ((numKV 0 rv).merge .nil) dd)
        exact ⟨.ref h'.objs.size, _, I3, rfl, qq _ (I2.hok.fresh (Nat.le_refl _))⟩⟩
end
end M7
end

noncomputable section
namespace M7
open PySem PySem.Spec PyProof.Rows L2
section
variable {P : Par} {ρ ρ1 ρ' ρ'' : List Addr} {W W' W'' : WS} {W0 : FW} {H H1 H' H'' : Hp} {hp hp' : HP} {E : XK} {Q : VK} {X : Cx} {pos : Pos} {σ' : SS} {σ : L2.St} {pins : List (Addr × Obj)} {s : Shared}
variable {CX : CXT} {lv k C : Nat} {f : Addr} {fd : FuncData} {ps : List Str} {sp : Sp} {ds : List Value} {dvs : List V}
/-! ### special methods: a def called from within a built-in -/
theorem run_in1 {us : List Value} {vs : List V} (F : FnOk X.prog X.w X.K X.mg X.base CX k f fd ps sp) (hr : Room (k + 1) X.A) (hb : Binds X.K fd ps ds) (hd : Vals dvs ds) (hx : Passes CX X E)
    (I : Inv X pins σ H s) (r : Vals vs us) (h : sp (vs ++ dvs) H Q E) : wpAny (model X.prog X.w) X.A.in1 (call (.ref f) us) (EP X pins σ Q) X.xe s := by
  have rr : Vals (vs ++ dvs) (us ++ ds) := r.append hd
  have ln : (us ++ ds).length = ps.length := by rw [← rr.length]; exact F.len _ _ _ _ h
  refine wpAny_call (codeAny_mono (F.run X.A.in1 X.stack s H ⟨us, []⟩ (us ++ ds) (vs ++ dvs) Q E hr.in1 I.env0.in1 (hb s us I.kIn ln) rr h) fun g t hq => ?_)
  cases g with
  | error e => exact hx pins σ H s e t I hq
  | ok fl =>
    cases fl with
    | ret u => exact I.after hq
    | next => exact False.elim hq
    | brk => exact False.elim hq
    | cont => exact False.elim hq
/-- len(x), x an instance with its own __len__ -/
def rLenO (P : Par) (E : XK) (C : Nat) (sp : Sp) : List V → Hp → VK → Prop := fun xs H Q => ∃ a dx fs, xs = [.ref a] ∧ H a = some (.ins (P.cA C) dx fs) ∧ sp [.ref a] H (fun v H1 => ∃ i : Int, v = .int i ∧ 0 ≤ i ∧ i < 2 ^ 63 ∧ Q (.int i) H1) E
theorem call_lenO (hK : X.K = P.K) (hm : Meth X.K (P.cA C) "__len__" f) (F : FnOk X.prog X.w X.K X.mg X.base CX k f fd ps sp) (hr : Room (k + 1) X.A) (hb : Binds X.K fd ps ds) (hd : Vals dvs ds) (hv : dvs = []) (hx : Passes CX X E) : CallR X (.builtin "len") (rLenO P E C sp) := by
  subst hv
  intro pins s σ H xs us Q I rv ⟨a, dx, fs, e1, e2, h⟩
  subst e1
  cases rv with
  | cons r0 t =>
    cases t
    cases r0
    obtain ⟨mA, O, _⟩ := ins_get I.hok e2
    obtain ⟨od, J, _⟩ := O.look
    refine Calls.call_function_entry kind_len plain_len entry_len (args_len1 _) ?_
    unfold Builtin.«len»
    refine wpAny_bind (m := oneArg "len" _) (wpAny_pure ?_)
    refine wpAny_bind (m := callSpecial? (.ref a) (Str.ofString "__len__")) (PySem.W.special_fn I.kIn J hm.at_ (beq_iff_eq.mp hm.fn) (wpAny_mono (run_in1 F hr hb hd hx I (vs := [.ref a]) (.cons rfl .nil) h) (fun z s1 hz => ?_) fun _ _ y => y))
    obtain ⟨v, H1, I1, rz, i, ei, h0, h1, q⟩ := hz
    subst ei
    obtain ⟨t, rfl⟩ := rz
    refine wpAny_bind (wpAny_holding (wpAny_pure ?_))
    refine wpAny_bind (wpAny_letGo ?_)
    show wpAny _ _ (if i < 0 then _ else _) _ _ _
    rw [if_neg (by omega)]
    show wpAny _ _ (if i ≥ 2 ^ 63 then _ else _) _ _ _
    rw [if_neg (by omega)]
    exact wpAny_bind (wpAny_mkInt (wpAny_pure ⟨_, rfl, .int i, H1, I1.tok _, ⟨_, rfl⟩, q⟩))
theorem tM_lenO {e : Expr} {m : ME} {fm : FM} {p : Pos} (hK : X.K = P.K) (hm : X.mg "len" = none) (he : PE X e (tM P E m)) (G : GM' X.prog X.w X.K X.mg X.base P C "__len__" lv 1 fm []) (hr : Room (lv + 1) X.A) (hx : Passes (L2.CX X.prog X.w) X E) (hg : Gl X "len")
    (q1 : starEach [e] X.env = (false, eval e X.env) :: starEach [] X.env) (q2 : (backTo pos (starEach [] X.env)).any (·.1) = false) : PE X (.Call (.Name "len" p) [e] [] pos) (tM P E (eLenO C fm m)) := by
  obtain ⟨f, fd, ps, ds, dvs, h1, h2, h3, h4, h5, h6⟩ := G.ex
  have hv : dvs = [] := by
    have := h6 [] (fun _ => False) (fun _ => none)
    cases this
    rfl
  refine ⟨fun pins s σ H Q I q => (pe_callB (call_lenO hK h3 h1 hr h4 h5 hv hx) hg hm boot_len (pa_cons he pa_nil q1) (by decide) (by decide) q1 q2).run pins s σ H Q I ?_⟩
  obtain ⟨ρ, W0, W, σ', hp, rs, rh, po⟩ := q
  refine tM_then rs rh po fun ρ1 H1 u v hp1 rs1 rh1 ru1 x1 po1 => ?_
  unfold lenO at po1
  split at po1
  · rename_i D ns us
    split at po1
    · rename_i hD
      have hD := Nat.eq_of_beq_eq_true hD
      subst hD
      have ru2 := ru1
      cases ru1 with
      | @obj _ _ _ a dx fs h hn r =>
        refine ⟨a, dx, fs, rfl, h.1, rfl, ρ1, W, [.obj D ns us], hp1, .cons ru2 .nil, rh1, ?_⟩
        cases ef : fm [.obj D ns us] hp1 with
        | bad => rw [ef] at po1; exact po1.elim
        | exc x h2 => rw [ef] at po1; exact po1
        | ok w h2 =>
          rw [ef] at po1
          replace po1 : PostE P E ρ1 W H1 Q (lenOk w h2) := po1
          intro ρ2 H2 z x2 rh2 rz
          unfold lenOk at po1
          split at po1
          · rename_i i
            split at po1
            · rename_i hi
              obtain ⟨h0, h1⟩ := of_decide_eq_true hi
              cases rz
              exact ⟨i, rfl, h0, by omega, po1 ρ2 H2 _ x2 rh2 (.int i)⟩
            · exact po1.elim
          · exact po1.elim
    · exact po1.elim
  · exact po1.elim
end
end M7
namespace M7
open PySem PySem.Spec PyProof.Rows L2
/-- the keyword default x of the def at f, if it is an object -/
def kwAt (f : Addr) (x : Str) (K : PySem.W.Frag) : Addr := match K.lookup f with
  | some ⟨_, _, .func fd, _⟩ => (match fd.kwdefaults with
    | .ref D => (match PySem.W.nsIn K D x with
      | some (some (.ref a)) => a
      | _ => 0)
    | _ => 0)
  | _ => 0
end M7
end

noncomputable section
namespace M7
open PySem PySem.Spec PyProof.Rows L2
/-! ### calls of values alone: the callee starts with no logical heap; its answers by a table -/
def nr1 (f : U → Bool) : U → Bool
  | .tup xs => xs.all f
  | .lst xs => xs.all f
  | .lsx xs => xs.all f
  | .obj _ _ us => us.all f
  | .ref _ => false
  | _ => true
def noRef : Nat → U → Bool
  | 0 => fun _ => false
  | n + 1 => nr1 (noRef n)
def eqU1 (f : U → U → Bool) (a b : U) : Bool := match a with
  | .non => match b with
    | .non => true
    | _ => false
  | .bl x => match b with
    | .bl y => x == y
    | _ => false
  | .int i => match b with
    | .int j => eqZ i j
    | _ => false
  | .str x => match b with
    | .str y => scalU.listEq x y
    | _ => false
  | .tup xs => match b with
    | .tup ys => all2 f xs ys
    | _ => false
  | .lst xs => match b with
    | .lst ys => all2 f xs ys
    | _ => false
  | .lsx xs => match b with
    | .lsx ys => all2 f xs ys
    | _ => false
  | .cls C => match b with
    | .cls D => Nat.beq C D
    | _ => false
  | .obj C ns us => match b with
    | .obj D ms vs => match Nat.beq C D with
      | true => match scalU.listEq ns ms with
        | true => all2 f us vs
        | false => false
      | false => false
    | _ => false
  | .ref _ => false
def eqUf : Nat → U → U → Bool
  | 0 => fun _ _ => false
  | n + 1 => eqU1 (eqUf n)
theorem all2_ok {α : Type} {f : α → α → Bool} (h : ∀ a b, f a b = true → a = b) : ∀ as bs : List α, all2 f as bs = true → as = bs
  | [], [], _ => rfl
  | [], _ :: _, e => by cases e
  | _ :: _, [], e => by cases e
  | a :: as, b :: bs, e => by
    unfold all2 at e
    split at e
    · rename_i q
      rw [h a b q, all2_ok h as bs e]
    · cases e
theorem eqU1_ok {f : U → U → Bool} (hf : ∀ a b, f a b = true → a = b) (u v : U) (h : eqU1 f u v = true) : u = v := by
  have ih := all2_ok hf
  unfold eqU1 at h
  cases u with
  | ref n => cases h
  | non =>
    dsimp only at h
    split at h
    · rfl
    · cases h
  | bl x =>
    dsimp only at h
    split at h
    · rw [beq_iff_eq.mp h]
    · cases h
  | int i =>
    dsimp only at h
    split at h
    · rw [eqZ_eq] at h; rw [of_decide_eq_true h]
    · cases h
  | str x =>
    dsimp only at h
    split at h
    · rw [listEq_iff] at h; rw [of_decide_eq_true h]
    · cases h
  | tup xs =>
    dsimp only at h
    split at h
    · rw [ih _ _ h]
    · cases h
  | lst xs =>
    dsimp only at h
    split at h
    · rw [ih _ _ h]
    · cases h
  | lsx xs =>
    dsimp only at h
    split at h
    · rw [ih _ _ h]
    · cases h
  | cls C =>
    dsimp only at h
    split at h
    · rw [Nat.eq_of_beq_eq_true h]
    · cases h
  | obj C ns us =>
    dsimp only at h
    split at h
    · split at h
      · rename_i hC
        split at h
        · rename_i hn
          rw [listEq_iff] at hn
          rw [Nat.eq_of_beq_eq_true hC, of_decide_eq_true hn, ih _ _ h]
        · cases h
      · cases h
    · cases h
theorem eqUf_ok : ∀ (n : Nat) (u v : U), eqUf n u v = true → u = v
  | 0, _, _, h => by cases h
  | n + 1, u, v, h => eqU1_ok (eqUf_ok n) u v h
section
variable {P : Par} {ρ ρ1 ρ' ρ'' : List Addr} {W W' W'' : WS} {W0 : FW} {H H1 H' H'' : Hp} {hp hp' : HP} {E : XK} {Q : VK} {X : Cx}
theorem rus_move {n : Nat} (ih : ∀ (u : U) (v : V), noRef n u = true → RU P ρ' W' H u v → RU P ρ W H u v) : ∀ {us : List U} {vs : List V}, us.all (noRef n) = true → RUs P ρ' W' H us vs → RUs P ρ W H us vs
  | _, _, _, .nil => .nil
  | _, _, h, .cons r t => by
    rw [List.all_cons, Bool.and_eq_true] at h
    exact .cons (ih _ _ h.1 r) (rus_move ih h.2 t)
theorem ru_move (hw : ∀ a, ¬ W' a → a ∉ ρ' → a ∉ ρ ∧ ¬ W a) : ∀ (n : Nat) (u : U) (v : V), noRef n u = true → RU P ρ' W' H u v → RU P ρ W H u v
  | 0, _, _, h, _ => by cases h
  | n + 1, u, v, h, r => by
    have ih : ∀ {us : List U} {vs : List V}, us.all (noRef n) = true → RUs P ρ' W' H us vs → RUs P ρ W H us vs := fun h r => rus_move (ru_move hw n) h r
    have fz : ∀ {a : Addr} {o : HO}, Fz ρ' W' H a o → Fz ρ W H a o := fun f => ⟨f.1, hw _ f.2.2 f.2.1⟩
    cases r with
    | non => exact .non
    | bl b => exact .bl b
    | int i => exact .int i
    | str x => exact .str x
    | cls C => exact .cls C
    | ref e => cases h
    | tup ht r =>
      refine .tup ?_ (ih h r)
      rcases ht with q | ⟨o, q⟩ | q
      · exact .inl (fz q)
      · exact .inr (.inl ⟨o, fz q⟩)
      · exact .inr (.inr q)
    | lst ht r => exact .lst (fz ht) (ih h r)
    | lsx ht r =>
      refine .lsx ?_ (ih h r)
      rcases ht with ⟨o, q⟩ | q
      · exact .inl ⟨o, fz q⟩
      · exact .inr q
    | obj ht hn r => exact .obj (fz ht) hn (ih h r)
abbrev Tb := List (List U × U)
def lookTb : Tb → List U → Option U
  | [], _ => none
  | (us, u) :: r, xs => match all2 (eqUf 12) us xs with
    | true => some u
    | false => lookTb r xs
def tabF (t : Tb) : FM := fun us h => match lookTb t us with
  | some u => .ok u h
  | none => .bad
/-- what the table says is what the def does, from no heap -/
def tabOk (f : FM) (t : Tb) : Prop := ∀ p ∈ t, p.1.all (noRef 12) = true ∧ noRef 12 p.2 = true ∧ ∃ h, f p.1 HP.empty = .ok p.2 h
theorem lookTb_ok {t : Tb} {xs : List U} {u : U} (h : lookTb t xs = some u) : (xs, u) ∈ t := by
  induction t with
  | nil => cases h
  | cons p r ih =>
    obtain ⟨us, w⟩ := p
    unfold lookTb at h
    split at h
    · rename_i q
      cases h
      rw [all2_ok (eqUf_ok 12) _ _ q]
      exact List.mem_cons_self
    · exact List.mem_cons_of_mem _ (ih h)
theorem tab_sp {f : FM} {t : Tb} {k : Nat} (ok : tabOk f t) (vs : List V) (H : Hp) (Q : VK) (E : XK) (h : spM P k (tabF t) vs H Q E) : spM P k f vs H Q E := by
  obtain ⟨hl, ρ, W, us, hp, ru, rh, po⟩ := h
  unfold tabF at po
  split at po
  · rename_i u el
    obtain ⟨n1, n2, h', ef⟩ := ok _ (lookTb_ok el)
    have hin : ∀ a, (W a ∨ a ∈ ρ) → ∃ o, H a = some o := fun a z => z.elim (rh.wt a) (rh.there a)
    refine ⟨hl, [], fun a => W a ∨ a ∈ ρ, us, HP.empty, rus_move (ru_move (ρ' := ρ) (W' := W) (ρ := []) (W := fun a => W a ∨ a ∈ ρ) (fun a z1 z2 => ⟨by simp, fun z => z.elim z1 z2⟩) 12) n1 ru, ⟨rfl, .nil, (by intro a z; cases z), (by intro a z; cases z), hin, (by intro i o z; cases z)⟩, ?_⟩
    rw [ef]
    intro ρ' H' v x rh' ru'
    have keep : ∀ a o, H a = some o → H' a = some o := fun a o e => x.keep a o e (by simp)
    have x2 : Ext ρ H ρ H' := ⟨⟨[], by simp, by simp⟩, fun a o e _ => keep a o e, x.there, x.frz⟩
    have st : Stay ρ W H ρ W H' := x2.stay
    refine po ρ H' v x2 ⟨rh.len, rh.nd, rh.own, fun a z => x.there a _ (rh.there a z).choose_spec, fun a z => x.there a _ (rh.wt a z).choose_spec, fun i o e => ?_⟩ ?_
    · obtain ⟨a, h1, r⟩ := rh.obj i o e
      exact ⟨a, h1, r.stayAt st fun o e => keep a o e⟩
    · exact ru_move (ρ' := ρ') (W' := fun a => W a ∨ a ∈ ρ) (fun a z1 z2 => ⟨fun z => z1 (.inr z), fun z => z1 (.inl z)⟩) 12 u v n2 ru'
  · exact po.elim
theorem GF.tab {P' : Program} {w : World} {K : PySem.W.Frag} {mg : Str → Option Value} {base : Heap} {x : Str} {lv k : Nat} {f : FM} {dus : List U} {t : Tb} (F : GF P' w K mg base P x lv k f dus) (ok : tabOk f t) : GF P' w K mg base P x lv k (tabF t) dus := by
  obtain ⟨g, fd, ps, ds, dvs, h1, h2, h3, h4, h5, h6⟩ := F.ex
  exact ⟨⟨g, fd, ps, ds, dvs, h1.imp fun vs H Q E h => tab_sp ok vs H Q E h, h2, h3, h4, h5, h6⟩⟩
end
/-- one entry, by the kernel -/
def chkR (u : U) : R → Bool
  | .ok v _ => eqUf 12 v u
  | _ => false
theorem chkR_ok {u : U} {r : R} (h : chkR u r = true) : ∃ hp, r = .ok u hp := by
  unfold chkR at h
  split at h
  · rename_i v hp
    rw [eqUf_ok 12 _ _ h]
    exact ⟨hp, rfl⟩
  · cases h
theorem tabOk.nil {f : FM} : tabOk f [] := fun p h => by cases h
theorem tabOk.cons {f : FM} {us : List U} {u : U} {t : Tb} (h0 : (us.all (noRef 12) && noRef 12 u) = true) (h1 : chkR u (f us HP.empty) = true) (r : tabOk f t) : tabOk f ((us, u) :: t) := fun p h => by
  rcases List.mem_cons.mp h with e | e
  · subst e
    rw [Bool.and_eq_true] at h0
    exact ⟨h0.1, h0.2, chkR_ok h1⟩
  · exact r p e
end M7
namespace M7
open PySem PySem.Spec PyProof.Rows L2
/-- by the table where it tells, else by running -/
def tabO (t : Tb) (f : FM) : FM := fun us h => match lookTb t us with
  | some u => .ok u h
  | none => f us h
theorem tabO_sp {P : Par} {f : FM} {t : Tb} {k : Nat} (ok : tabOk f t) (vs : List V) (H : Hp) (Q : VK) (E : XK) (h : spM P k (tabO t f) vs H Q E) : spM P k f vs H Q E := by
  have h0 := h
  obtain ⟨hl, ρ, W, us, hp, ru, rh, po⟩ := h
  unfold tabO at po
  split at po
  · rename_i u el
    refine tab_sp ok vs H Q E ⟨hl, ρ, W, us, hp, ru, rh, ?_⟩
    unfold tabF
    rw [el]
    exact po
  · exact ⟨hl, ρ, W, us, hp, ru, rh, po⟩
theorem GF.tabo {P : Par} {P' : Program} {w : World} {K : PySem.W.Frag} {mg : Str → Option Value} {base : Heap} {x : Str} {lv k : Nat} {f : FM} {dus : List U} {t : Tb} (F : GF P' w K mg base P x lv k f dus) (ok : tabOk f t) : GF P' w K mg base P x lv k (tabO t f) dus := by
  obtain ⟨g, fd, ps, ds, dvs, h1, h2, h3, h4, h5, h6⟩ := F.ex
  exact ⟨⟨g, fd, ps, ds, dvs, h1.imp fun vs H Q E h => tabO_sp ok vs H Q E h, h2, h3, h4, h5, h6⟩⟩
def objR : R → U
  | .ok u _ => u
  | _ => .non
end M7
end

noncomputable section
namespace M7
open PySem PySem.Spec PyProof.Rows L2
/-! ### keywords at calls -/
def pick {α : Type} (xs : List α) : List Nat → List α
  | [] => []
  | i :: is => match xs[i]? with
    | some x => x :: pick xs is
    | none => pick xs is
theorem pick_vals {vs : List V} {us : List Value} (r : Vals vs us) : ∀ is : List Nat, Vals (pick vs is) (pick us is)
  | [] => .nil
  | i :: is => by
    unfold pick
    cases e : vs[i]? with
    | none => rw [Vals.none_of r e]; exact pick_vals r is
    | some v =>
      obtain ⟨u, e1, e2⟩ := r.get e
      rw [e1]
      exact .cons e2 (pick_vals r is)
section
variable {P : Par} {ρ : List Addr} {W : WS} {H : Hp}
theorem RUs.none_of : ∀ {us : List U} {vs : List V} {i : Nat}, RUs P ρ W H us vs → us[i]? = none → vs[i]? = none := fun {us vs i} r e => by
  have h1 := r.length
  have h2 : us.length ≤ i := List.getElem?_eq_none_iff.mp e
  exact List.getElem?_eq_none_iff.mpr (by omega)
theorem pick_rus {us : List U} {vs : List V} (r : RUs P ρ W H us vs) : ∀ is : List Nat, RUs P ρ W H (pick us is) (pick vs is)
  | [] => .nil
  | i :: is => by
    unfold pick
    cases e : us[i]? with
    | none => rw [RUs.none_of r e]; exact pick_rus r is
    | some v =>
      obtain ⟨u, e1, e2⟩ := RUs.get r e
      rw [e1]
      exact .cons e2 (pick_rus r is)
end
def gPick (is : List Nat) {α : Type} (us ws ds : List α) : List α := pick (us ++ ws ++ ds) is
theorem gPick_vals (is : List Nat) {vs zs ds : List V} {us ws its : List Value} (r1 : Vals vs us) (r2 : Vals zs ws) (r3 : Vals ds its) : Vals (gPick is vs zs ds) (gPick is us ws its) := pick_vals ((r1.append r2).append r3) is
/-- the keywords' way: binding -/
structure KB (K : PySem.W.Frag) (fd : FuncData) (P : Par) (ps : List Str) (n : Nat) (ks : List Str) (is : List Nat) (dus : List U) : Prop where
  ex : ∃ (ds : List Value) (dvs : List V), KBn K fd ps n ks (fun us ws => gPick is us ws ds) (fun vs zs => gPick is vs zs dvs) ∧ Defs P dus dvs
section
variable {K : PySem.W.Frag} {x qual : Str} {params : Arguments} {body : List Stmt} {scope : Scope} {dvs : List V} {kws : List (Str × V)} {f : Addr} {fd : FuncData} {ps : List Str} {P : Par} {dus : List U}
/-- no defaults at all -/
theorem FunDkb (F : FunD K x qual params body scope [] kws f fd) (n : Nat) (ks : List Str) (is : List Nat)
    (h : ∀ (kV doc pm : Value) (an : Option Addr) (cdv ct : Value) (us ws : List Value), us.length = n → ws.length = ks.length → bindArgs (PySem.W.fnOf x qual params body scope .none kV doc pm an cdv ct) ⟨us, ks.zip ws⟩ = pure (ps.zip (gPick is us ws []))) : KB K fd P ps n ks is [] := by
  obtain ⟨oc, od, dV, kV, doc, pm, an, cdv, ct, osl, rfl, lk, hcd, hD, hK⟩ := F.ex
  rcases hD with ⟨_, rfl⟩ | ⟨e, _⟩
  · exact ⟨[], [], ⟨fun s us ws X l1 l2 => .of_eq (h kV doc pm an cdv ct us ws l1 l2), fun r1 r2 => gPick_vals is r1 r2 .nil⟩, Defs.nil⟩
  · exact absurd rfl e
/-- positional defaults -/
theorem FunDkbD (F : FunD K x qual params body scope dvs kws f fd) (n : Nat) (ks : List Str) (is : List Nat) (hd : dvs ≠ []) (hD : Defs P dus dvs)
    (h : ∀ (T : Addr) (kV doc pm : Value) (an : Option Addr) (cdv ct : Value) (us its ws : List Value), us.length = n → its.length = dvs.length → ws.length = ks.length →
      ∃ k, bindArgs (PySem.W.fnOf x qual params body scope (.ref T) kV doc pm an cdv ct) ⟨us, ks.zip ws⟩ = seqItems? (.ref T) >>= k ∧ k (some its.toArray) = pure (ps.zip (gPick is us ws its))) : KB K fd P ps n ks is dus := by
  obtain ⟨its, hb⟩ := F.kbindsD n ks (fun us ds ws => gPick is us ws ds) hd (fun r1 r2 r3 => gPick_vals is r1 r3 r2) h
  exact ⟨its, dvs, hb, hD⟩
/-- keyword-only defaults: ms lack -/
theorem FunDkb0 (F : FunD K x qual params body scope [] kws f fd) (n : Nat) (ks : List Str) (ms : List (Str × V)) (is : List Nat) (hk : kws ≠ []) (hms : ∀ q ∈ ms, q ∈ kws) (hD : Defs P dus (ms.map (·.2)))
    (h : ∀ (D : Addr) (doc pm : Value) (an : Option Addr) (cdv ct : Value) (us mv ws : List Value), us.length = n → mv.length = ms.length → ws.length = ks.length →
      KwChain D ((ms.map (·.1)).zip mv) (bindArgs (PySem.W.fnOf x qual params body scope .none (.ref D) doc pm an cdv ct) ⟨us, ks.zip ws⟩) (ps.zip (gPick is us ws mv))) : KB K fd P ps n ks is dus := by
  obtain ⟨mv, hb⟩ := F.kbinds0 n ks ms (fun us mz zs => gPick is us zs mz) hk hms (fun r1 r2 r3 => gPick_vals is r1 r3 r2) h
  exact ⟨mv, _, hb, hD⟩
end
structure GFK (P' : Program) (w : World) (K : PySem.W.Frag) (mg : Str → Option Value) (base : Heap) (P : Par) (x : Str) (lv n : Nat) (ks : List Str) (is : List Nat) (k : Nat) (fm : FM) (dus : List U) : Prop where
  ex : ∃ (f : Addr) (fd : FuncData) (ps : List Str), FnOk P' w K mg base (L2.CX P' w) lv f fd ps (spM P k fm) ∧ mg x = some (.ref f) ∧ PySem.W.keepIn K (.ref f) = true ∧ KB K fd P ps n ks is dus
structure GCK (P' : Program) (w : World) (K : PySem.W.Frag) (mg : Str → Option Value) (base : Heap) (P : Par) (x : Str) (C lv n : Nat) (ks : List Str) (is : List Nat) (k : Nat) (fi : FI) (dus : List U) : Prop where
  ex : ∃ (f : Addr) (fd : FuncData) (ps : List Str), Mk K (P.cA C) f ∧ FnOk P' w K mg base (L2.CX P' w) lv f fd ps (spI P C k fi) ∧ mg x = some (.ref (P.cA C)) ∧ KB K fd P ps (n + 1) ks is dus
theorem GFK.tabo {P : Par} {P' : Program} {w : World} {K : PySem.W.Frag} {mg : Str → Option Value} {base : Heap} {x : Str} {lv n k : Nat} {ks : List Str} {is : List Nat} {f : FM} {dus : List U} {t : Tb} (F : GFK P' w K mg base P x lv n ks is k f dus) (ok : tabOk f t) : GFK P' w K mg base P x lv n ks is k (tabO t f) dus := by
  obtain ⟨g, fd, ps, h1, h2, h3, h4⟩ := F.ex
  exact ⟨⟨g, fd, ps, h1.imp fun vs H Q E h => tabO_sp ok vs H Q E h, h2, h3, h4⟩⟩
/-- a call with keywords on data: n positional values, m keywords -/
def eCallKw (n m k : Nat) (is : List Nat) (f : FM) (dus : List U) (ma mk : MA) : ME := fun σ h => (ma σ h).bind fun us h1 => (mk σ h1).bind fun ws h2 => match Nat.beq us.length n && Nat.beq ws.length m && Nat.beq (gPick is us ws dus).length k with
  | true => f (gPick is us ws dus) h2
  | false => .bad
section
variable {P : Par} {X : Cx} {E : XK} {kpos : Pos} {kw : Option Str}
theorem pk_nilM : PK X [] (tMA P E aNil) := ⟨fun pos pins s σ H Q I q => by
  obtain ⟨ρ, W0, W, σ', hp, rs, rh, po⟩ := q
  exact (pk_nil (X := X)).run pos pins s σ H Q I (po ρ H [] Ext.refl rh .nil)⟩
theorem pk_consM {e : Expr} {kws : List Keyword} {m : ME} {ma : MA} (he : PE X e (tM P E m)) (hs : PK X kws (tMA P E ma)) : PK X (⟨kw, e, kpos⟩ :: kws) (tMA P E (aCons m ma)) :=
  ⟨fun pos pins s σ H Q I q => by
  obtain ⟨ρ, W0, W, σ', hp, rs, rh, po⟩ := q
  refine (pk_cons he hs).run pos pins s σ H Q I ?_
  unfold aCons at po
  refine ⟨ρ, W0, W, σ', hp, rs, rh, ?_⟩
  cases e1 : m σ' hp with
  | bad => rw [e1] at po; exact po
  | exc x hp1 => rw [e1] at po; exact po
  | ok u hp1 =>
    rw [e1] at po
    intro ρ1 H1 v x1 rh1 ru1
    refine ⟨ρ1, W0, W, σ', hp1, rs.ext rh x1, rh1, ?_⟩
    dsimp only at po
    cases e2 : ma σ' hp1 with
    | bad => rw [e2] at po; exact po
    | exc x hp2 => rw [e2] at po; exact fun ρ2 H2 c d x2 rh2 rx => po ρ2 H2 c d (x1.trans x2) rh2 rx
    | ok us hp2 =>
      rw [e2] at po
      exact fun ρ2 H2 vs x2 rh2 rus => po ρ2 H2 (v :: vs) (x1.trans x2) rh2 (.cons (ru1.ext x2) rus)⟩
end
section
variable {P : Par} {X : Cx} {E : XK} {CX : CXT} {lv n k m C : Nat} {f : Addr} {fd : FuncData} {ps ks : List Str} {is : List Nat} {fm : FM} {fi : FI} {dus : List U} {x : Str} {p pos : Pos} {e : Expr} {es : List Expr} {kws : List Keyword} {ma mk : MA} {σ : L2.St} {H : Hp} {Q : VK}
theorem b3 {a b c : Bool} (h : (a && b && c) = true) : a = true ∧ b = true ∧ c = true := by
  rw [Bool.and_eq_true, Bool.and_eq_true] at h
  exact ⟨h.1.1, h.1.2, h.2⟩
theorem nil_run {R' : List V → Hp → Prop} (q : tMA P E aNil σ H R') : R' [] H := by
  obtain ⟨ρ, W0, W, σ', hp, rs, rh, po⟩ := q
  exact po ρ H [] Ext.refl rh .nil
theorem callK_read {dvs : List V} (q : tM P E (eCallKw n m k is fm dus ma mk) σ H Q) (hD : Defs P dus dvs) : tCallN n m (spM P k fm) (fun vs zs => gPick is vs zs dvs) E (tMA P E ma) (tMA P E mk) σ H Q := by
  obtain ⟨ρ, W0, W, σ', hp, rs, rh, po⟩ := q
  refine tMA_then rs rh po fun ρ1 H1 us vs hp1 rs1 rh1 ru1 x1 po1 => ?_
  refine tMA_then rs1 rh1 po1 fun ρ2 H2 ws zs hp2 rs2 rh2 ru2 x2 po2 => ?_
  have ru1' := ru1.ext x2
  have r : RUs P ρ2 W H2 (gPick is us ws dus) (gPick is vs zs dvs) := pick_rus ((ru1'.append ru2).append (hD ρ2 W H2)) is
  split at po2
  · rename_i hl
    obtain ⟨l1, l2, l3⟩ := b3 hl
    exact ⟨by rw [← ru1'.length]; exact Nat.eq_of_beq_eq_true l1, by rw [← ru2.length]; exact Nat.eq_of_beq_eq_true l2, by rw [← r.length]; exact Nat.eq_of_beq_eq_true l3, ρ2, W, _, hp2, r, rh2, po2⟩
  · exact po2.elim
theorem tM_gfK (F : GFK X.prog X.w X.K X.mg X.base P x lv n ks is k fm dus) (hr : Room lv X.A) (hx : Passes (L2.CX X.prog X.w) X E) (hg : Gl X x) (ha : PA X (e :: es) (tMA P E ma)) (hkw : PK X kws (tMA P E mk))
    (hall : (backToKw pos (keywordEach kws X.env)).all (·.1.isSome) = true) (hks : (backToKw pos (keywordEach kws X.env)).filterMap (·.1) = ks) (hm : Nat.beq ks.length m = true)
    (hdb : (x == ("__debug__" : Str)) = false) (he : starEach (e :: es) X.env = (false, eval e X.env) :: starEach es X.env)
    (hpl : ((backTo pos (starEach (e :: es) X.env)).any (·.1) || (backToKw pos (keywordEach kws X.env)).any (·.1.isNone)) = false) :
    PE X (.Call (.Name x p) (e :: es) kws pos) (tM P E (eCallKw n m k is fm dus ma mk)) := by
  obtain ⟨f, fd, ps, h1, h2, h3, h4⟩ := F.ex
  obtain ⟨ds, dvs, hb, hD⟩ := h4.ex
  have hm := Nat.eq_of_beq_eq_true hm
  subst hm
  exact ⟨fun pins s σ H Q I q => (pe_callN h1 hr hg h2 h3 hb hx ha hkw hall hks hdb he hpl).run pins s σ H Q I (callK_read q hD)⟩
theorem tM_gfK0 (F : GFK X.prog X.w X.K X.mg X.base P x lv 0 ks is k fm dus) (hr : Room lv X.A) (hx : Passes (L2.CX X.prog X.w) X E) (hg : Gl X x) (hkw : PK X kws (tMA P E mk))
    (hall : (backToKw pos (keywordEach kws X.env)).all (·.1.isSome) = true) (hks : (backToKw pos (keywordEach kws X.env)).filterMap (·.1) = ks) (hm : Nat.beq ks.length m = true)
    (hdb : (x == ("__debug__" : Str)) = false)
    (hpl : ((backTo pos (starEach [] X.env)).any (·.1) || (backToKw pos (keywordEach kws X.env)).any (·.1.isNone)) = false) :
    PE X (.Call (.Name x p) [] kws pos) (tM P E (eCallKw 0 m k is fm dus aNil mk)) := by
  obtain ⟨f, fd, ps, h1, h2, h3, h4⟩ := F.ex
  obtain ⟨ds, dvs, hb, hD⟩ := h4.ex
  have hm := Nat.eq_of_beq_eq_true hm
  subst hm
  refine ⟨fun pins s σ H Q I q => ?_⟩
  have q2 := nil_run (callK_read q hD)
  refine wpAny_Call_Name_kw (ld_glob I hg h2 ?_ hdb)
  refine PySem.W.callWith_KW0 (h₀ := X.base) I.ok.mod.kin h3 hall ?_ hpl
  refine thn (hkw.run pos pins s σ H _ I q2) fun ws s2 ⟨zs, H2, I2, rz, l1, l2, q3⟩ => ⟨I2.kIn, ?_⟩
  rw [hks]
  exact run_fnN (us := []) (vs := []) h1 hr hb hx I2 .nil rz rfl l2 q3
/-! ### a class called with keywords -/
def eMakeKw (n m k : Nat) (is : List Nat) (g : RI → R) (f : FI) (dus : List U) (ma mk : MA) : ME := fun σ h => (ma σ h).bind fun us h1 => (mk σ h1).bind fun ws h2 => match Nat.beq us.length n && Nat.beq ws.length m && Nat.beq (gPick is us ws dus).length k with
  | true => g (f (gPick is us ws dus) h2)
  | false => .bad
/-- a place behind the new instance itself -/
theorem gPick_self (is : List Nat) {α : Type} (a : α) (us ws ds : List α) : gPick (0 :: is.map (· + 1)) (a :: us) ws ds = a :: gPick is us ws ds := by
  unfold gPick
  have e : ∀ (l : List α) (is : List Nat), pick (a :: l) (is.map (· + 1)) = pick l is := fun l is => by
    induction is with
    | nil => rfl
    | cons i r ih =>
      show (match (a :: l)[i + 1]? with | some x => x :: pick (a :: l) (r.map (· + 1)) | none => pick (a :: l) (r.map (· + 1))) = _
      rw [List.getElem?_cons_succ, ih]
      rfl
  show a :: pick (a :: (us ++ ws ++ ds)) (is.map (· + 1)) = _
  rw [e]
theorem makeK_read {g : RI → R} (hig : IsMk C g) {dvs : List V} (q : tM P E (eMakeKw n m k is g fi dus ma mk) σ H Q) (hD : Defs P dus dvs) :
    tMakeN (P.cA C) n m (spI P C k fi) (fun vs zs => gPick (0 :: is.map (· + 1)) vs zs dvs) E (tMA P E ma) (tMA P E mk) σ H Q := by
  obtain ⟨ρ, W0, W, σ', hp, rs, rh, po⟩ := q
  refine tMA_then rs rh po fun ρ1 H1 us vs hp1 rs1 rh1 ru1 x1 po1 => ?_
  refine tMA_then rs1 rh1 po1 fun ρ2 H2 ws zs hp2 rs2 rh2 ru2 x2 po2 => ?_
  have ru1' := ru1.ext x2
  have r : RUs P ρ2 W H2 (gPick is us ws dus) (gPick is vs zs dvs) := pick_rus ((ru1'.append ru2).append (hD ρ2 W H2)) is
  split at po2
  · rename_i hl
    obtain ⟨l1, l2, l3⟩ := b3 hl
    refine ⟨by rw [← ru1'.length]; exact Nat.eq_of_beq_eq_true l1, by rw [← ru2.length]; exact Nat.eq_of_beq_eq_true l2, fun y dx hy hdx hne => ?_⟩
    show spI P C k fi (gPick (0 :: is.map (· + 1)) (.ref y :: vs) zs dvs) _ _ _
    rw [gPick_self]
    exact post_make hig (Nat.eq_of_beq_eq_true l3) rh2 r po2 y dx hy hdx hne
  · exact po2.elim
theorem tM_gcK {g : RI → R} (hig : IsMk C g) (F : GCK X.prog X.w X.K X.mg X.base P x C lv n ks (0 :: is.map (· + 1)) k fi dus) (hr : Room (lv + 1) X.A) (hx : Passes (L2.CX X.prog X.w) X E) (hg : Gl X x) (ha : PA X (e :: es) (tMA P E ma)) (hkw : PK X kws (tMA P E mk))
    (hall : (backToKw pos (keywordEach kws X.env)).all (·.1.isSome) = true) (hks : (backToKw pos (keywordEach kws X.env)).filterMap (·.1) = ks) (hm : Nat.beq ks.length m = true)
    (hdb : (x == ("__debug__" : Str)) = false) (he : starEach (e :: es) X.env = (false, eval e X.env) :: starEach es X.env)
    (hpl : ((backTo pos (starEach (e :: es) X.env)).any (·.1) || (backToKw pos (keywordEach kws X.env)).any (·.1.isNone)) = false) :
    PE X (.Call (.Name x p) (e :: es) kws pos) (tM P E (eMakeKw n m k is g fi dus ma mk)) := by
  obtain ⟨f, fd, ps, h0, h1, h2, h4⟩ := F.ex
  obtain ⟨ds, dvs, hb, hD⟩ := h4.ex
  have hm := Nat.eq_of_beq_eq_true hm
  subst hm
  exact ⟨fun pins s σ H Q I q => (pe_makeN h0 h1 hr hg h2 hb hx ha hkw hall hks hdb he hpl).run pins s σ H Q I (makeK_read hig q hD)⟩
theorem tM_gcK0 {g : RI → R} (hig : IsMk C g) (F : GCK X.prog X.w X.K X.mg X.base P x C lv 0 ks (0 :: is.map (· + 1)) k fi dus) (hr : Room (lv + 1) X.A) (hx : Passes (L2.CX X.prog X.w) X E) (hg : Gl X x) (hkw : PK X kws (tMA P E mk))
    (hall : (backToKw pos (keywordEach kws X.env)).all (·.1.isSome) = true) (hks : (backToKw pos (keywordEach kws X.env)).filterMap (·.1) = ks) (hm : Nat.beq ks.length m = true)
    (hdb : (x == ("__debug__" : Str)) = false)
    (hpl : ((backTo pos (starEach [] X.env)).any (·.1) || (backToKw pos (keywordEach kws X.env)).any (·.1.isNone)) = false) :
    PE X (.Call (.Name x p) [] kws pos) (tM P E (eMakeKw 0 m k is g fi dus aNil mk)) := by
  obtain ⟨f, fd, ps, h0, h1, h2, h4⟩ := F.ex
  obtain ⟨ds, dvs, hb, hD⟩ := h4.ex
  have hm := Nat.eq_of_beq_eq_true hm
  subst hm
  exact ⟨fun pins s σ H Q I q => by
    have q2 := nil_run (makeK_read hig q hD)
    refine wpAny_Call_Name_kw (ld_glob I hg h2 ?_ hdb)
    refine PySem.W.callWith_KW0 (h₀ := X.base) I.ok.mod.kin h0.kp hall ?_ hpl
    refine thn (hkw.run pos pins s σ H _ I q2) fun ws s2 ⟨zs, H2, I2, rz, l1, l2, q3⟩ => ⟨I2.kIn, ?_⟩
    rw [hks]
    exact run_makeN (us := []) (vs := []) h0 h1 hr hb hx I2 .nil rz rfl l2 q3⟩
end
end M7
end

namespace M7
open PySem PySem.Spec PyProof.Rows L2
section
variable {P : Par} {ρ ρ1 ρ' ρ'' : List Addr} {W W' W'' : WS} {W0 : FW} {H H1 H' H'' : Hp} {hp hp' : HP} {E : XK} {Q : VK} {X : Cx} {pos : Pos} {σ' : SS} {σ : L2.St} {pins : List (Addr × Obj)} {s : Shared} {a : Addr} {XE : Value → Shared → Prop}
/-! ### d[k] = v by a comprehension, keys None or tuples -/
theorem room8' {A : Around} (hu : A.units + 64 < cLine) (pg : Program) (w : World) : (nestedKind pg w).room A := by
  show A.units + 8 < cLine
  omega
theorem setV_semD (hW : X.w = P.w) (hP : X.prog = P.pg) {kv : List (NestedKey × V)} {kvs : List (NestedKey × Value)} (h : H a = some (.ext (rawV P.pg P.w a kvs))) (hv : KV kv kvs) (hz : kvs.length + 1 ≤ sizeLine) (I : Inv X pins σ H s) {q : NestedKey} {iv u : Value} {v : V} (hi : NvS q iv) (rv : RelV v u)
    {Q : Hp → Prop} (k : ∀ kvs', KV (putK kv q v) kvs' → Q (upd H a (.ext (rawV P.pg P.w a kvs')))) : wpAny (model X.prog X.w) X.A (dictSet a iv u) (fun (_ : Unit) s' => ∃ H', Inv X pins σ H' s' ∧ Q H') XE s := by
  obtain ⟨hd, hz0, dd⟩ := nV_at hW hP I h
  refine wpAny_dictSet_pairs (hsz := hz0) (nv_of hi) dd fun h' dd' hs => ⟨_, d_write I (by rw [h]; exact True.intro) hs ?_ (ob := .ext (rawV P.pg P.w a (stored kvs q u))) ?_, k _ (hv.put q rv)⟩
  · obtain ⟨o, es, ep, ho, _⟩ := dd'
    exact ⟨o, ho⟩
  · refine rawV_ok ⟨hd, Nat.le_trans (stored_length_le kvs q u) hz, ?_⟩
    rw [← hP, ← hW]
    exact dd'
theorem setN_semD (hK : X.K = P.K) (hW : X.w = P.w) (hu : X.A.units + 64 < cLine) {ks : List U} {xs : List (NestedKey × Addr × Value)} (h : H a = some (.ext (rawN P.w a xs))) (hk : Paired (fun u (q : NestedKey × Addr × Value) => toNk 8 u = some q.1 ∧ RU P ρ W H u (.ref q.2.1)) ks xs) (nd : (xs.map (·.1)).Nodup) (hz : xs.length + 1 ≤ sizeLine) (I : Inv X pins σ H s)
    {i : U} {q : NestedKey} {b : Addr} {u : Value} (hq : toNk 8 i = some q) (ri : RU P ρ W H i (.ref b)) {Q : Hp → Prop} (k : ((storedH xs q b u).map (·.1)).Nodup → Q (upd H a (.ext (rawN P.w a (storedH xs q b u))))) :
    wpAny (model X.prog X.w) X.A (dictSet a (.ref b) u) (fun (_ : Unit) s' => ∃ H', Inv X pins σ H' s' ∧ Q H') XE s := by
  obtain ⟨hd, hz0, dd⟩ := nN_at hK hW I h hk nd
  have hi : (nestedKind X.prog X.w).is s.heap q b := ⟨nk_is hK I 8 i _ q _ hq ri rfl, toNk_depth 8 i q hq⟩
  refine wpAny_dictSet_heap (hsz := hz0) (room8' hu _ _) hi dd fun h' dd' hs => ?_
  obtain ⟨o, es, ep, ho, hc, hdat, he, _, nd'⟩ := dd'
  refine ⟨_, d_write I (by rw [h]; exact True.intro) hs ⟨o, ho⟩ (ob := .ext (rawN P.w a (storedH xs q b u))) ?_, k nd'⟩
  refine rawN_ok ⟨hd, Nat.le_trans (storedH_len xs q b u) hz, o, es, ep, ho, hc, hdat, ?_⟩
  rw [he, ← hW]
  rfl
theorem setC_semD (hW : X.w = P.w) (hP : X.prog = P.pg) {kv : List (Key × V)} (h : H a = some (.dK kv)) (hz : kv.length + 1 ≤ sizeLine) (I : Inv X pins σ H s) {q : NestedKey} {iv u : Value} {v : V} (hi : NvS q iv) (rv : RelV v u)
    {Q : Hp → Prop} (k : ∀ kvs', KV (putK (kv.map fun p => (nkOf p.1, p.2)) q v) kvs' → Q (upd H a (.ext (rawV P.pg P.w a kvs')))) : wpAny (model X.prog X.w) X.A (dictSet a iv u) (fun (_ : Unit) s' => ∃ H', Inv X pins σ H' s' ∧ Q H') XE s := by
  obtain ⟨_, hd, vs, rel, dd0⟩ := (show kv.length ≤ sizeLine ∧ (a == sysModules) = false ∧ ∃ vs, KV kv vs ∧ s.heap.DictOf (mixKind X.prog X.w) a vs from I.hok a _ h)
  have dd := dictOf_nk dd0
  have hl : vs.length = kv.length := (KV.length rel).symm
  have rel2 := kv_nk rel
  refine wpAny_dictSet_pairs (hsz := by rw [List.length_map]; omega) (nv_of hi) dd fun h' dd' hs => ⟨_, d_write I (by rw [h]; exact True.intro) hs ?_ (ob := .ext (rawV P.pg P.w a (stored (vs.map fun q => (nkOf q.1, q.2)) q u))) ?_, k _ (rel2.put q rv)⟩
  · obtain ⟨o, es, ep, ho, _⟩ := dd'
    exact ⟨o, ho⟩
  · refine rawV_ok ⟨hd, Nat.le_trans (stored_length_le _ q u) (by rw [List.length_map]; omega), ?_⟩
    rw [← hP, ← hW]
    exact dd'
theorem setE_semD (hK : X.K = P.K) (hW : X.w = P.w) (hu : X.A.units + 64 < cLine) (h : H a = some (.dK [])) (I : Inv X pins σ H s) {i : U} {q : NestedKey} {b : Addr} {u : Value} (hq : toNk 8 i = some q) (ri : RU P ρ W H i (.ref b))
    {Q : Hp → Prop} (k : Q (upd H a (.ext (rawN P.w a [(q, b, u)])))) : wpAny (model X.prog X.w) X.A (dictSet a (.ref b) u) (fun (_ : Unit) s' => ∃ H', Inv X pins σ H' s' ∧ Q H') XE s := by
  obtain ⟨_, hd, vs, rel, o, es, ep, ho, hc, hdat, _, hp, _⟩ := (show ([] : List (Key × V)).length ≤ sizeLine ∧ (a == sysModules) = false ∧ ∃ vs, KV [] vs ∧ s.heap.DictOf (mixKind X.prog X.w) a vs from I.hok a _ h)
  cases rel
  have he : es.toList = [] := by
    generalize es.toList = l at hp
    cases hp
    rfl
  have dd : s.heap.DictOfH (nestedKind X.prog X.w) a [] := ⟨o, es, ep, ho, hc, hdat, he, (by intro x hx; cases hx), .nil⟩
  have hi : (nestedKind X.prog X.w).is s.heap q b := ⟨nk_is hK I 8 i _ q _ hq ri rfl, toNk_depth 8 i q hq⟩
  refine wpAny_dictSet_heap (hsz := Nat.zero_le _) (room8' hu _ _) hi dd fun h' dd' hs => ?_
  obtain ⟨o, es, ep, ho, hc, hdat, he, _, nd'⟩ := dd'
  refine ⟨_, d_write I (by rw [h]; exact True.intro) hs ⟨o, ho⟩ (ob := .ext (rawN P.w a [(q, b, u)])) ?_, k⟩
  refine rawN_ok ⟨hd, (by rw [sizeLine_eq]; show 1 ≤ 16777216; decide), o, es, ep, ho, hc, hdat, ?_⟩
  rw [he, ← hW]
  rfl
theorem set2D_ok (hK : X.K = P.K) (hW : X.w = P.w) (hP : X.prog = P.pg) (hu : X.A.units + 64 < cLine) {o o' : O} {y z : V} {i v : U} {Q' : Hp → Prop} (ro : RO P ρ W H a o) (ri : RU P ρ W H i y) (rv : RU P ρ W H v z) (e : putO2 o i v = some o')
    (sty : ∀ ho, Stay ρ W H ρ W (upd H a ho)) (k : ∀ ho, RO P ρ W (upd H a ho) a o' → Q' (upd H a ho)) {iv u : Value} (I : Inv X pins σ H s) (r2 : RelV y iv) (r3 : RelV z u) :
    wpAny (model X.prog X.w) X.A (dictSet a iv u) (fun (_ : Unit) s' => ∃ H', Inv X pins σ H' s' ∧ Q' H') XE s := by
  unfold putO2 at e
  split at e
  · rename_i ks us
    split at e
    · rename_i hl
      cases ro with
      | @dK _ _ kvs h hk r =>
        have hlen : kvs.length = ks.length := by simpa using congrArg List.length hk
        have hz : kvs.length + 1 ≤ sizeLine := by rw [sizeLine_eq, hlen]; exact Nat.le_of_ble_eq_true hl
        split at e
        · cases e
          cases ri
          cases (show iv = .none from r2)
          refine setC_semD hW hP h hz I (q := .none) .non r3 fun kvs' hv' => ?_
          have nk0 : NK (ks.map uOfK) (kvs.map fun p => (nkOf p.1, p.2)) := by
            clear r h hz hlen hl k hv'
            induction ks generalizing kvs with
            | nil =>
              cases kvs with
              | nil => exact .nil
              | cons p q => cases hk
            | cons c cs ih =>
              cases kvs with
              | nil => cases hk
              | cons p q =>
                rw [List.map_cons, List.map_cons] at hk
                injection hk with e1 e2
                exact .cons (by rw [uOfK_nk]; exact congrArg (fun z => some (nkOf z)) e1.symm) (ih e2)
          have r0 : RUs P ρ W H us ((kvs.map fun p => (nkOf p.1, p.2)).map (·.2)) := by
            rw [List.map_map]
            exact r
          have st : Stay ρ W H ρ W (upd H a (.ext (rawV P.pg P.w a kvs'))) := sty _
          obtain ⟨g1, g2⟩ := putN_ok (x := .non) (k := .none) rfl rv nk0 r0
          have fl : ∀ u ∈ (putN (ks.map uOfK) us .non v).1, isTupU u = false := fun u hu => by
            rcases putN_mem hu with z | z
            · obtain ⟨c, _, rfl⟩ := List.mem_map.mp z
              cases c <;> rfl
            · subst z; rfl
          exact k _ (.dV upd_same hv' (g1.flat fl) (RUs.stay st g2))
        · rename_i xs
          split at e
          · split at e
            · rename_i q hq
              cases e
              cases kvs with
              | cons p r => cases hk
              | nil =>
                obtain ⟨b, rfl⟩ := nk_ref hq ri rfl
                cases (show iv = .ref b from r2)
                refine setE_semD hK hW hu h I hq ri ?_
                have st : Stay ρ W H ρ W (upd H a (.ext (rawN P.w a [(q, b, u)]))) := sty _
                exact k _ (.dN upd_same (kv := [(q, z)]) (.cons ⟨rfl, r3⟩ .nil) (.cons ⟨hq, ri.stay st⟩ .nil) (by simp) (.cons (rv.stay st) .nil))
            · cases e
          · cases e
        · cases e
    · cases e
  · rename_i ks us
    split at e
    · rename_i hs
      split at e
      · rename_i hl
        cases e
        obtain ⟨_, _, _, _, q, hq⟩ := sortN_ok hs
        rcases ro.cut hs hq with ⟨ht, kv, kvs, h, hv, hk, r⟩ | ⟨ht, kv, xs, h, hx, hk, nd, r⟩
        · have hlen : kvs.length = ks.length := by
            rw [← KV.length hv, Paired.length hk, List.length_map]
          have hz : kvs.length + 1 ≤ sizeLine := by rw [sizeLine_eq, hlen]; exact Nat.le_of_ble_eq_true hl
          have hi : NvS q iv := nk_nv (nk_is hK I 8 i y q iv hq ri r2) (nk_flat hq ht)
          refine setV_semD hW hP h hv hz I hi r3 fun kvs' hv' => ?_
          have st : Stay ρ W H ρ W (upd H a (.ext (rawV P.pg P.w a kvs'))) := sty _
          obtain ⟨g1, g2⟩ := putN_ok hq rv (NK.ofV hk) r
          have fl : ∀ u ∈ (putN ks us i v).1, isTupU u = false := fun u hu => by
            rcases putN_mem hu with z | z
            · exact flat_of hk u z
            · subst z; exact ht
          exact k _ (.dV upd_same hv' (g1.flat fl) (RUs.stay st g2))
        · have hlen : xs.length = ks.length := (Paired.length hk).symm
          have hz : xs.length + 1 ≤ sizeLine := by rw [sizeLine_eq, hlen]; exact Nat.le_of_ble_eq_true hl
          obtain ⟨b, rfl⟩ := nk_ref hq ri ht
          cases (show iv = .ref b from r2)
          refine setN_semD hK hW hu h hk nd hz I hq ri fun nd' => ?_
          have st : Stay ρ W H ρ W (upd H a (.ext (rawN P.w a (storedH xs q b u)))) := sty _
          obtain ⟨g1, g2⟩ := putN_ok hq rv (NK.ofN (F := fun u b => RU P ρ W H u (.ref b)) hx hk) r
          have g3 := storedN_keys (F := fun u b => RU P ρ W H u (.ref b)) (w := v) (us := us) hq ri u hx hk
          exact k _ (.dN upd_same (storedN hx q b r3) (Paired.mapP g3 fun _ _ z => ⟨z.1, z.2.stay st⟩) nd' (RUs.stay st g2))
      · cases e
    · cases e
  · cases e
end
section
variable {X : Cx}
def tDcS (SP : Addr → V → V → Hp → (Hp → Prop) → Prop) (wi : TI) (g : TG) (tt : TT) (tk tv : TE) (vs : List Nat) : TE := fun σ H Q => wi σ H fun J H1 => ∀ D, H1 D = none → ∃ W : Nat → Nat → Hp → Prop, (∃ m, W 0 m (upd H1 D (.dK []))) ∧ ∀ i m H, W i m H →
  (J.stop i H ∧ Q (.ref D) H) ∨ (J.go i H ∧ ∃ Nx : Hp → Prop, (∀ H', Nx H' → ∃ m', m' < m ∧ W (i + 1) m' H') ∧ ∀ x H', J.yld i H x H' → g x (wipe σ vs) H' fun σ2 H2 => wipe σ2 vs = wipe σ vs ∧ tt σ2 H2 fun b H3 =>
    if b = true then tk σ2 H3 fun y H4 => tv σ2 H4 fun z H5 => SP D y z H5 Nx else Nx H3)
theorem dcS_core {pins : List (Addr × Obj)} {s : Shared} {σ : L2.St} {H : Hp} {Q : VK} {kx vx tg iter : Expr} {ifs : List Expr} {scope : Scope} {own : List (Str × Nat)} {pos pos' : Pos} {wi : TI} {g : TG} {tt : TT} {tk tv : TE} {SP : Addr → V → V → Hp → (Hp → Prop) → Prop} {use : Option (Value → Sem Unit)} {Qf : Value → Shared → Prop}
    (hSP : ∀ (s0 : Shared) (H0 : Hp) (scope : Scope) (ce : Env) (fp : List Addr) (pins : List (Addr × Obj)) (σ : L2.St) (H : Hp) (s : Shared) (D : Addr) (y z : V) (u r : Value) (Nx : Hp → Prop) (Er : Value → Shared → Prop), Inv (X.blk s0 H0 scope ce fp) pins σ H s → RelV y u → RelV z r → SP D y z H Nx → wpAny (model X.prog X.w) X.A (dictSet D u r) (fun _ s' => ∃ H', Inv (X.blk s0 H0 scope ce fp) pins σ H' s' ∧ Nx H') Er s)
    (hc : X.calm = true) (hN : X.N.Nodup) (I : Inv X pins σ H s) (hi : PI X tg iter wi) (ok : BlkOk X.N X.env.scope scope own)
    (hg : ∀ (s : Shared) (H : Hp) (C : Addr) (cl : List (Str × Addr)) (fp : List Addr), PG (X.blk s H scope (compEnvC scope cl C X.env) fp) tg g) (ht : ∀ (s : Shared) (H : Hp) (C : Addr) (cl : List (Str × Addr)) (fp : List Addr), PTs (X.blk s H scope (compEnvC scope cl C X.env) fp) ifs tt)
    (hk : ∀ (s : Shared) (H : Hp) (C : Addr) (cl : List (Str × Addr)) (fp : List Addr), PE (X.blk s H scope (compEnvC scope cl C X.env) fp) kx tk)
    (he : ∀ (s : Shared) (H : Hp) (C : Addr) (cl : List (Str × Addr)) (fp : List Addr), PE (X.blk s H scope (compEnvC scope cl C X.env) fp) vx tv) (hs : ∀ x, foldedSetIterable iter X.env x = pure x)
    (h : tDcS SP wi g tt tk tv (own.map (·.2)) σ H Q)
    (hRR : ∀ D C s' m H', Inv X pins σ H' s' → Q (.ref D) H' → s'.heap.Ns C m → FpOk X pins H' C → compPost (model X.prog X.w) X.A X.xe use Qf (.ref D) C (.ok .next) s') :
    wpAny (model X.prog X.w) X.A (comprehension (.DictComp kx vx [⟨tg, iter, ifs, 0⟩] scope pos) scope X.env pos' newDict false (eval iter X.env) use) Qf X.xe s := by
  have hfree : ∀ y ∈ scope.names, y.2 = .free → ∃ c, X.env.cells.lookup y.1 = some c := fun y hy e => by
    rcases ok.free y hy e with k | k
    · exact I.ok.has _ (.inl k)
    · exact I.ok.has _ (.inr k)
  refine wpAny_comprehension_free (use := use) rfl hs (closure_ok hfree) ok.kind (fun y hy e => by rw [ok.uniq y hy, e])
    (thn (hi.run pins s σ H _ I h) fun xv s1 hx => thn hx fun itv s2 h2 => ?_)
  obtain ⟨it, fp, tn, J, H2, e, I2, T, st2, f2, q⟩ := h2
  subst e
  refine wpAny_newObj_type (newEnv_comp ?_)
  generalize hD : s2.heap.objs.size = D
  have hDn : H2 D = none := I2.hok.fresh (Nat.le_of_eq hD)
  obtain ⟨W, ⟨m0, w0⟩, turn⟩ := q D hDn
  -- the new list
  generalize hs3 : ({ s2 with heap := s2.heap.push { cls := .type "dict", data := .dict #[] } } : Shared) = s3
  have I3 : Inv X pins σ (upd H2 D (.dK [])) s3 := by
    rw [← hs3]
    refine I2.laid (t' := s2.toks) (fun b o e => Heap.get?_push_of_some _ e) (Nat.le_of_eq hD) ?_
    rw [← hD]
    exact dk_empty s2.heap I2.big
  have h3 : s3.heap = s2.heap.push { cls := .type "dict", data := .dict #[] } := by rw [← hs3]
  have sz : ∀ b ∈ fp, b < s2.heap.objs.size := fun b hb => by
    obtain ⟨o, e, _⟩ := T.obj _ _ st2 b hb
    exact Heap.lt_size e
  have f3 : ∀ b ∈ fp, FpOk X pins (upd H2 D (.dK [])) b ∧ b < s3.heap.objs.size := fun b hb => by
    have hlt := sz b hb
    refine ⟨⟨?_, (f2 b hb).2⟩, by rw [h3, Heap.size_push]; exact Nat.lt_succ_of_lt hlt⟩
    rw [upd_ne (by rw [← hD]; exact Nat.ne_of_lt hlt)]
    exact (f2 b hb).1
  have st3 : tn 0 s3.heap := T.keep _ _ _ st2 fun b _ o e => by rw [h3]; exact Heap.get?_push_of_some _ e
  have I4 := block_start I3 ok hN f3
  have pg := hg s3 (upd H2 D (.dK [])) s3.heap.objs.size (cellsFrom (s3.heap.objs.size + 1) scope.names (cloFrom X.env.cells scope.names [])) fp
  have pt := ht s3 (upd H2 D (.dK [])) s3.heap.objs.size (cellsFrom (s3.heap.objs.size + 1) scope.names (cloFrom X.env.cells scope.names [])) fp
  have pk := hk s3 (upd H2 D (.dK [])) s3.heap.objs.size (cellsFrom (s3.heap.objs.size + 1) scope.names (cloFrom X.env.cells scope.names [])) fp
  have pe := he s3 (upd H2 D (.dK [])) s3.heap.objs.size (cellsFrom (s3.heap.objs.size + 1) scope.names (cloFrom X.env.cells scope.names [])) fp
  show codeAny _ _ (.compStart (.DictComp kx vx [⟨tg, iter, ifs, 0⟩] scope pos) 0 (.ref it) (.ref D) (compEnvC scope (cellsFrom (s3.heap.objs.size + 1) scope.names (cloFrom X.env.cells scope.names [])) s3.heap.objs.size X.env)) (compPost (model X.prog X.w) X.A X.xe use Qf (.ref D) s3.heap.objs.size) { s3 with heap := pushCells (s3.heap.push { cls := .type "dict", data := .dict #[] }) scope.names }
  have nfp : ∀ b ∈ fp, (upd H2 D (.dK [])) b = none := fun b hb => (f3 b hb).1.1
  generalize hce : compEnvC scope (cellsFrom (s3.heap.objs.size + 1) scope.names (cloFrom X.env.cells scope.names [])) s3.heap.objs.size X.env = ce at I4 pg pt pk pe ⊢
  have cL : ce.locals = s3.heap.objs.size := by subst hce; rfl
  generalize hH3 : upd H2 D (.dK []) = H3 at I3 I4 pg pt pk pe w0 nfp f3
  generalize hs4 : ({ s3 with heap := pushCells (s3.heap.push { cls := .type "dict", data := .dict #[] }) scope.names } : Shared) = s4 at I4 ⊢
  have st4 : tn 0 s4.heap := T.keep _ _ _ st3 fun b _ o e => by rw [← hs4]; exact pushCells_keeps _ _ _ _ (Heap.get?_push_of_some _ e)
  have stat : ∀ {σ' : L2.St} {H' : Hp} {s' : Shared}, Inv (X.blk s3 H3 scope ce fp) [] σ' H' s' → (∀ b ∈ fp, H' b = none) → ∀ b ∈ fp, FpOk (X.blk s3 H3 scope ce fp) [] H' b := fun {σ' H' s'} I' hn b hb =>
    ⟨hn b hb, (I'.ok.exf b hb).1, I'.ok.exfs b hb, .inl hb, fun x c e => (I'.ok.exf b hb).2 x c e, fun p hp => absurd (show p ∈ ([] : List (Addr × Obj)) ++ [] from hp) (by simp)⟩
  have loop : codeAny (model X.prog X.w) X.A (.compLoop (.DictComp kx vx [⟨tg, iter, ifs, 0⟩] scope pos) 0 (.ref it) (.ref D) ce) (compPost (model X.prog X.w) X.A X.xe use Qf (.ref D) s3.heap.objs.size) s4 := by
    refine L2.compLoop_anyD (fun n s' => ∃ i H', Inv (X.blk s3 H3 scope ce fp) [] (wipe σ (own.map (·.2))) H' s' ∧ tn i s'.heap ∧ (∀ b ∈ fp, H' b = none) ∧ W i n H') ?_ m0 ⟨0, H3, I4, st4, nfp, w0⟩
    rintro n s5 ⟨i, H5, I5, st5, n5, w5⟩
    rcases turn i n H5 w5 with ⟨stop, qq⟩ | ⟨go, Nx, hNx, step⟩
    · have td := T.done (X.blk s3 H3 scope ce fp) rfl rfl rfl hc i [] s5 _ H5 (fun _ _ => False) I5 (stat I5 n5) st5 stop
      refine thnF td fun r s6 ⟨hr, I6⟩ => ?_
      subst hr
      -- back in the def's context
      have I7 : Inv X pins σ H5 s6 := I3.call' (ch := fp) I6.os I6.base I6.hok I6.bare fun b hb => ⟨(f3 b hb).1.2.2.2.1, (f3 b hb).1.2.1, (f3 b hb).1.2.2.2.2.1, (f3 b hb).1.2.2.2.2.2⟩
      have nC : H5 s3.heap.objs.size = none := by
        have z : H5 ce.locals = none := I6.free
        rw [cL] at z
        exact z
      obtain ⟨m, hn, _⟩ := I6.loc
      have hn : s6.heap.Ns ce.locals m := hn
      rw [cL] at hn
      exact hRR D s3.heap.objs.size s6 m H5 I7 qq hn (I3.fpOk (Nat.le_refl _) nC)
    · have ti := T.item (X.blk s3 H3 scope ce fp) rfl rfl rfl hc i [] s5 _ H5 (fun _ _ => False) I5 (stat I5 n5) st5 go
      refine thnF ti fun r s6 ⟨u, hr, h6⟩ => ?_
      subst hr
      refine thnF h6 fun _ s7 ⟨x, H7, I7, r7, y7, st7, n7⟩ => ?_
      have I7' := I7.pinned (stat I7 n7) (T.obj _ _ st7)
      refine thnF (pg.run _ s7 _ H7 x u _ I7' r7 (step x H7 y7)) fun _ s8 ⟨σ8, H8, I8, hw8, q8⟩ => ?_
      refine thnF (pt.run _ s8 σ8 H8 _ I8 q8) fun b s9 ⟨H9, I9, q9⟩ => ?_
      -- the turn's end
      have fin : ∀ {s' : Shared} {H' : Hp}, Inv (X.blk s3 H3 scope ce fp) ([] ++ pinsAt fp s7.heap) σ8 H' s' → Nx H' → ∃ m, m < n ∧ ∃ i H', Inv (X.blk s3 H3 scope ce fp) [] (wipe σ (own.map (·.2))) H' s' ∧ tn i s'.heap ∧ (∀ b ∈ fp, H' b = none) ∧ W i m H' := fun {s' H'} I' nx => by
        obtain ⟨m', hm, w'⟩ := hNx H' nx
        have pin' : ∀ b ∈ fp, ∀ o, s7.heap.get? b = some o → s'.heap.get? b = some o ∧ H' b = none := fun b hb o e =>
          let z := I'.pin (b, o) (List.mem_append_right _ (List.mem_append_right _ (mem_pinsAt hb e)))
          ⟨z.1, z.2.1⟩
        have hl : (wipe σ (own.map (·.2))).length = σ8.length := by rw [← hw8, wipe_length]
        refine ⟨m', hm, i + 1, H', (I'.unpinned (pins := [])).weak hl (fun j v e => ?_), T.keep _ _ _ st7 fun b hb o e => (pin' b hb o e).1, fun b hb => ?_, w'⟩
        · rw [← hw8] at e
          exact (wipe_some e).1
        · obtain ⟨o, e, _⟩ := T.obj _ _ st7 b hb
          exact (pin' b hb o e).2
      cases b with
      | false =>
        simp only [Bool.false_eq_true, if_false] at q9 ⊢
        exact fin I9 q9
      | true =>
        simp only [if_true] at q9 ⊢
        refine thnF (pk.run _ s9 σ8 H9 _ I9 q9) fun z s10 ⟨yk, H10, I10, r10, q10⟩ => ?_
        refine thnF (pe.run _ s10 σ8 H10 _ I10 q10) fun z2 s11 ⟨yv, H11, I11, r11, sp⟩ => ?_
        exact thnF (hSP _ _ _ _ _ _ _ _ _ _ _ _ _ _ _ _ I11 r10 r11 sp) fun _ s12 ⟨H12, I12, nx⟩ => fin I12 nx
  exact codeAny_compStart_dict loop (T.self X.A 0 _ _ _ st4 loop)
/-- as a value -/
theorem pe_dcS {kx vx tg iter : Expr} {ifs : List Expr} {scope : Scope} {own : List (Str × Nat)} {pos : Pos} {wi : TI} {g : TG} {tt : TT} {tk tv : TE} {SP : Addr → V → V → Hp → (Hp → Prop) → Prop} (hSP : ∀ (s0 : Shared) (H0 : Hp) (scope : Scope) (ce : Env) (fp : List Addr) (pins : List (Addr × Obj)) (σ : L2.St) (H : Hp) (s : Shared) (D : Addr) (y z : V) (u r : Value) (Nx : Hp → Prop) (Er : Value → Shared → Prop), Inv (X.blk s0 H0 scope ce fp) pins σ H s → RelV y u → RelV z r → SP D y z H Nx → wpAny (model X.prog X.w) X.A (dictSet D u r) (fun _ s' => ∃ H', Inv (X.blk s0 H0 scope ce fp) pins σ H' s' ∧ Nx H') Er s)
    (hc : X.calm = true) (hN : X.N.Nodup) (hi : PI X tg iter wi) (ok : BlkOk X.N X.env.scope scope own)
    (hg : ∀ (s : Shared) (H : Hp) (C : Addr) (cl : List (Str × Addr)) (fp : List Addr), PG (X.blk s H scope (compEnvC scope cl C X.env) fp) tg g) (ht : ∀ (s : Shared) (H : Hp) (C : Addr) (cl : List (Str × Addr)) (fp : List Addr), PTs (X.blk s H scope (compEnvC scope cl C X.env) fp) ifs tt)
    (hk : ∀ (s : Shared) (H : Hp) (C : Addr) (cl : List (Str × Addr)) (fp : List Addr), PE (X.blk s H scope (compEnvC scope cl C X.env) fp) kx tk)
    (he : ∀ (s : Shared) (H : Hp) (C : Addr) (cl : List (Str × Addr)) (fp : List Addr), PE (X.blk s H scope (compEnvC scope cl C X.env) fp) vx tv) (hs : ∀ x, foldedSetIterable iter X.env x = pure x := by intro _; rfl) :
    PE X (.DictComp kx vx [⟨tg, iter, ifs, 0⟩] scope pos) (tDcS SP wi g tt tk tv (own.map (·.2))) := by
  refine ⟨fun pins s σ H Q I h => ?_⟩
  rw [arm_eval_DictComp]
  refine dcS_core hSP hc hN I hi ok hg ht hk he hs h fun D C s' m H' I' q hn f => ⟨m, hn, fun h'' sb => ?_⟩
  obtain ⟨f0, f1, f2, f3, f4, f5⟩ := f
  exact ⟨.ref D, H', I'.turned (t' := s'.toks) (fun b o hb e => (sb.2 b hb).trans e) f0 f1 f3 f4 f5, rfl, q⟩
end
end M7
namespace M7
open PySem PySem.Spec PyProof.Rows L2
noncomputable def eDcN (j : MJ) (g : GT) (tt : MT) (b : BodyL) (vs : List Nat) : ME := fun σ h => match j σ h with
  | .ok s n h1 => match lcG g tt b vs s n 0 (.dK [] []) σ h1 with
    | .ok (.dK ks us) h2 => .ok (.ref h2.n) (h2.new (.dK ks us))
    | .ok (.dN ks us) h2 => .ok (.ref h2.n) (h2.new (.dN ks us))
    | _ => .bad
  | .exc x h1 => .exc x h1
  | .bad => .bad
section
variable {P : Par} {ρ ρ1 ρ' ρ'' : List Addr} {W W' W'' : WS} {W0 : FW} {H H1 H' H'' : Hp} {hp hp' : HP} {E : XK} {Q : VK} {X : Cx} {pos : Pos} {σ' : SS} {σ : L2.St} {pins : List (Addr × Obj)} {s : Shared} {D : Addr}
/-- what a store at D asks -/
def SPN (P : Par) (D : Addr) (y z : V) (H : Hp) (Nx : Hp → Prop) : Prop := ∃ ρ W o o' i v, RO P ρ (WA W D) H D o ∧ RU P ρ (WA W D) H i y ∧ RU P ρ (WA W D) H v z ∧ putO2 o i v = some o' ∧ ∀ ho, RO P ρ (WA W D) (upd H D ho) D o' → Nx (upd H D ho)
theorem bPairN_ok {mk mv : ME} {F : Hp → Prop} {acc : O} (l : LcI P ρ1 W H1 D ρ hp acc H) (rs : RSl P ρ W0 W (del H D) σ' σ) (po : PostL P ρ1 W H1 D F (bPairN mk mv acc σ' hp)) :
    tM P noE mk σ H fun y H4 => tM P noE mv σ H4 fun z H5 => SPN P D y z H5 F := by
  obtain ⟨o, hD⟩ := l.at'.there
  refine ⟨ρ, W0.more D, WA W D, σ', hp, rsl_in hD l.rh rs, rh_in hD l.rh, ?_⟩
  unfold bPairN at po
  cases ek : mk σ' hp with
  | bad => rw [ek] at po; exact po.elim
  | exc x h1 => rw [ek] at po; exact po.elim
  | ok k h1 =>
    rw [ek] at po
    dsimp only at po
    intro ρ3 H3 v x3 rh3 ru3
    have l3 := l.step x3 rh3
    obtain ⟨o3, hD3⟩ := l3.at'.there
    refine ⟨ρ3, W0.more D, WA W D, σ', h1, (rsl_in hD l.rh rs).ext (rh_in hD l.rh) x3, rh3, ?_⟩
    cases ev : mv σ' h1 with
    | bad => rw [ev] at po; exact po.elim
    | exc x h2 => rw [ev] at po; exact po.elim
    | ok u h2 =>
      rw [ev] at po
      dsimp only at po
      intro ρ4 H4 z x4 rh4 ru4
      have l4 := l3.step x4 rh4
      split at po
      · rename_i o' eo
        exact ⟨ρ4, W, acc, o', k, u, l4.at', ru3.ext x4, ru4, eo, fun ho ro => po ρ4 _ (l4.put ro)⟩
      · exact po.elim
theorem tDcN_of {j : MJ} {is vs : List Nat} {g : GT} {tt : MT} {mk mv : ME} {H : Hp} (hi : ∀ i ∈ is, i ∈ vs) (q : tM P E (eDcN j g tt (bPairN mk mv) vs) σ H Q) : tDcS (SPN P) (tI P E j) (tG P is g) (tMT P noE tt) (tM P noE mk) (tM P noE mv) vs σ H Q := by
  obtain ⟨ρ, W0, W, σ', hp, rs, rh, po⟩ := q
  refine ⟨ρ, W0, W, σ', hp, rs, rh, ?_⟩
  unfold eDcN at po
  cases ej : j σ' hp with
  | bad => rw [ej] at po; exact po
  | exc x h1 => rw [ej] at po; exact po
  | ok src n h1 =>
    rw [ej] at po
    dsimp only at po
    intro ρ1 H1 J x1 rh1 jok D hD
    refine lc_loop (F := fun H => Q (.ref D) H) (tb := fun σ1 H2 Nx => tM P noE mk σ1 H2 fun y H4 => tM P noE mv σ1 H4 fun z H5 => SPN P D y z H5 Nx) (rs.ext rh x1) rh1 hD jok hi
      (fun ρ2 hp2 acc H2 σ1' σ1 Nx l2 rs2 _ po2 => bPairN_ok l2 rs2 po2) (acc := .dK [] []) (LcI.start rh1 hD (.dK (ks := []) (us := []) upd_same rfl .nil)) (n := n) ?_
    have fin : ∀ (ρ2 : List Addr) (H2 : Hp) (h2 : HP) (o' : O), LcI P ρ1 W H1 D ρ2 h2 o' H2 → PostE P E ρ1 W H1 Q (.ok (.ref h2.n) (h2.new o')) → Q (.ref D) H2 := fun ρ2 H2 h2 o' l2 po => by
      obtain ⟨o, hD2⟩ := l2.at'.there
      have st : Stay ρ2 (WA W D) H2 (ρ2 ++ [D]) W H2 := stay_ref hD2 l2.notin
      have rr := rh_in hD2 l2.rh
      have x3 : Ext ρ1 H1 (ρ2 ++ [D]) H2 := by
        obtain ⟨t, e, ht⟩ := l2.ext.pre
        refine ⟨⟨t ++ [D], by rw [e, List.append_assoc], fun b hb => ?_⟩, fun b u q n => ?_, fun b u q => ?_, fun b ob u q => ?_⟩
        · rcases List.mem_append.mp hb with z | z
          · exact ht b z
          · have : b = D := by simpa using z
            rw [this]; exact hD
        · have nb : b ≠ D := ne_of_none q hD
          have := l2.ext.keep b u q n
          rw [del_ne nb] at this
          exact this
        · have nb : b ≠ D := ne_of_none q hD
          have := l2.ext.there b u q
          rw [del_ne nb] at this
          exact this
        · have nb : b ≠ D := ne_of_none q hD
          have := l2.ext.frz b ob u q
          rw [del_ne nb] at this
          exact this
      exact po _ H2 _ x3 (rr.newAt (fun b z => .inl z) (.inr rfl) l2.notW ⟨o, hD2⟩ (l2.at'.stayAt st fun _ h => h)) (.ref rr.lastIx)
    have po := PostE.from x1 po
    cases el : lcG g tt (bPairN mk mv) vs src n 0 (.dK [] []) σ' h1 with
    | bad => rw [el] at po; exact po
    | ok o h2 =>
      rw [el] at po
      intro ρ2 H2 l2
      cases o with
      | lst us => exact po.elim
      | ins C ns us => exact po.elim
      | dN ks us => exact fin ρ2 H2 h2 _ l2 po
      | dK ks us => exact fin ρ2 H2 h2 _ l2 po
/-- {k: v for ..}, keys None or tuples -/
theorem tM_dcN {tg iter kx vx : Expr} {ifs : List Expr} {scope : Scope} {own : List (Str × Nat)} {j : MJ} {is : List Nat} {g : GT} {tt : MT} {mk mv : ME} (hK : X.K = P.K) (hW : X.w = P.w) (hP : X.prog = P.pg) (hu : X.A.units + 64 < cLine) (hc : X.calm = true) (hN : X.N.Nodup) (hi : PI X tg iter (tI P E j)) (ok : BlkOk X.N X.env.scope scope own) (his : ∀ i ∈ is, i ∈ own.map (·.2))
    (hg : ∀ (s : Shared) (H : Hp) (C : Addr) (cl : List (Str × Addr)) (fp : List Addr), PG (X.blk s H scope (compEnvC scope cl C X.env) fp) tg (tG P is g)) (ht : ∀ (s : Shared) (H : Hp) (C : Addr) (cl : List (Str × Addr)) (fp : List Addr), PTs (X.blk s H scope (compEnvC scope cl C X.env) fp) ifs (tMT P noE tt))
    (hk : ∀ (s : Shared) (H : Hp) (C : Addr) (cl : List (Str × Addr)) (fp : List Addr), PE (X.blk s H scope (compEnvC scope cl C X.env) fp) kx (tM P noE mk))
    (he : ∀ (s : Shared) (H : Hp) (C : Addr) (cl : List (Str × Addr)) (fp : List Addr), PE (X.blk s H scope (compEnvC scope cl C X.env) fp) vx (tM P noE mv)) (hs : ∀ x, foldedSetIterable iter X.env x = pure x) :
    PE X (.DictComp kx vx [⟨tg, iter, ifs, 0⟩] scope pos) (tM P E (eDcN j g tt (bPairN mk mv) (own.map (·.2)))) := ⟨fun pins s σ H Q I q => (pe_dcS (SP := SPN P) (fun s0 H0 sc0 ce fp pins σ H s D y z u r Nx Er I ry rz sp => by
  obtain ⟨ρ, W, o, o', i, v, ro, ri, rv, e, k⟩ := sp
  exact set2D_ok (X := X.blk s0 H0 sc0 ce fp) hK hW hP hu ro ri rv e (fun ho => stay_put) k I ry rz) hc hN hi ok hg ht hk he hs).run pins s σ H Q I (tDcN_of his q)⟩
end
end M7

noncomputable section
namespace M7
open PySem PySem.Spec PyProof.Rows L2
section
variable {P : Par} {ρ ρ1 ρ' ρ'' : List Addr} {W W' W'' : WS} {W0 : FW} {H H1 H' H'' : Hp} {hp hp' : HP} {E : XK} {Q : VK} {X : Cx} {pos : Pos} {σ' : SS} {σ : L2.St}
/-! ### a dict just made, walked: it stays locked -/
def tFrz (td : TE) : TE := fun σ H Q => td σ H fun x H1 => ∃ d u, x = .ref d ∧ H1 d = some u ∧ Mut (some u) ∧ ∀ od, Q x (upd H1 d (.frz od u))
theorem pe_frz {e : Expr} {td : TE} (h : PE X e td) : PE X e (tFrz td) := ⟨fun pins s σ H Q I hw => by
  refine thn (h.run pins s σ H _ I hw) fun v s1 q => ?_
  obtain ⟨x, H1, I1, rx, d, u, ex, hd, mu, k⟩ := q
  obtain ⟨od, I2⟩ := I1.lock hd mu
  exact ⟨x, _, I2, rx, k od⟩⟩
def jItemsT (m : ME) : MJ := fun σ h => (m σ h).bindJ fun u h1 => match u with
  | .ref n => match h1.m n with
    | some (.dK ks us) => .ok (srcI ks us) ks.length (h1.hide n)
    | _ => .bad
  | _ => .bad
theorem jok_items {d : Addr} {od : Obj} {kvs : List (Key × V)} {ks : List KU} {us : List U} (h : H d = some (.frz od (.dK kvs))) (hk : kvs.map (·.1) = ks.map KU.key) (r : RUs P ρ W H us (kvs.map (·.2))) : JOk P ρ W H (Iti d od kvs) (srcI ks us) := by
  have hl : kvs.length = ks.length := by have := congrArg List.length hk; simpa using this
  intro ρ' W' H' hp' i st fk rh'
  have h' := fk _ _ _ h
  have r' := RUs.stay st r
  have hlu : us.length = kvs.length := by have := r'.length; simpa using this
  unfold srcI
  simp only [nthF_eq]
  cases e1 : ks[i]? with
  | none =>
    refine ⟨fun _ => ⟨h', ?_⟩, fun u e => by cases e⟩
    have := List.getElem?_eq_none_iff.mp e1
    omega
  | some k =>
    have hi := (List.getElem?_eq_some_iff.mp e1).1
    cases e2 : us[i]? with
    | none =>
      have := List.getElem?_eq_none_iff.mp e2
      omega
    | some u =>
      refine ⟨(fun e => by cases e), fun u' e => ?_⟩
      cases e
      refine ⟨⟨h', by omega⟩, fun x H'' y => ?_⟩
      obtain ⟨T, kk, v, ek, rfl, hn, rfl⟩ := y
      have : kk = k.key := by
        have q1 : (kvs.map (·.1))[i]? = some kk := by rw [List.getElem?_map, ek]; rfl
        rw [hk, List.getElem?_map, e1] at q1
        exact (Option.some.inj q1).symm
      subst this
      obtain ⟨v2, hv2, rv⟩ := RUs.get r' e2
      rw [List.getElem?_map, ek] at hv2
      cases hv2
      exact ⟨Ext.fresh hn, rh'.fresh hn, RU.newTup rh' hn (.cons uOfK_ok (.cons rv .nil))⟩
theorem tI_items {e : Expr} {m : ME} {apos cpos tpos : Pos} {elts : List Expr} {kk : Nat} (he : PE X e (tM P E m)) (hbase : attributeBase e "items" X.env (eval e X.env) = eval e X.env) (hline : (apos.endLine == cpos.line) = true) :
    PI X (.Tuple elts kk tpos) (.Call (.Attribute e "items" apos) [] [] cpos) (tI P E (jItemsT m)) := ⟨fun pins s σ H R' I q => by
  obtain ⟨ρ, W0, W, σ', hp, rs, rh, po⟩ := q
  refine (pi_items (pe_frz he) hbase hline).run pins s σ H R' I (tM_thenJ rs rh po fun ρ1 H1 u v hp1 rs1 rh1 ru1 x1 po1 => ?_)
  split at po1
  · rename_i n
    split at po1
    · rename_i ks us eo
      obtain ⟨a, kvs, rfl, hn, h, rk⟩ := dictRef rh1 ru1 eo
      have ha := List.mem_of_getElem? hn
      refine ⟨a, .dK kvs, rfl, h, True.intro, fun od => ⟨a, od, kvs, rfl, upd_same, ?_⟩⟩
      have st : Stay ρ1 W H1 ρ1 W (upd H1 a (.frz od (.dK kvs))) := stay_at (.inl ha)
      exact po1 ρ1 _ _ (Ext.refSet h ha) (rh1.lock hn h) (jok_items upd_same rk.1 (RUs.stay st rk.2))
    · exact po1.elim
  · exact po1.elim⟩
/-! ### repr of a bool -/
theorem call_reprB : CallR X (.builtin "repr") (fun xs H Q => ∃ b, xs = [.bl b] ∧ Q (.str (if b then "True" else "False")) H) := by
  intro pins s σ H xs us Q I r h
  obtain ⟨b, rfl, q⟩ := h
  obtain ⟨u, rfl, e⟩ := vals1 r
  cases e
  exact PySem.P.repr_of_bool ⟨.str _, H, I.tok _, ⟨_, rfl⟩, q⟩
theorem cr_reprB : CallR X (.builtin "repr") (cOf P (g1 gReprB)) := callM call_reprB fun H xs Q ρ W hp us c rh rs e k => by
  obtain ⟨u, v, rfl, ru, e⟩ := g1_ok rs e
  unfold gReprB at e
  split at e
  · cases e
    cases ru
    exact ⟨true, rfl, k.now rh (.str [84, 114, 117, 101])⟩
  · cases e
    cases ru
    exact ⟨false, rfl, k.now rh (.str [70, 97, 108, 115, 101])⟩
  · cases e
end
end M7
end

noncomputable section
namespace M7
open PySem PySem.Spec PyProof.Rows L2
section
variable {P : Par} {X : Cx}
/-! ### what draws need: //, **, max and min of two -/
def gFdiv : G2 := gII fun i j => if (decide (0 < j) && Nat.blt j.natAbs.log2 9000) = true then some (i / j) else none
theorem oa_fdiv : OpM P X (binaryOp .FloorDiv) gFdiv := om_ii op_fdivW fun i j h => by
  rw [Bool.and_eq_true] at h
  exact ⟨of_decide_eq_true h.1, Nat.le_of_ble_eq_true h.2⟩
def gPow : G2 := gII fun i j => if (decide (0 ≤ j ∧ j ≤ 1000000) && Nat.blt i.natAbs 18446744073709551616) = true then some (i ^ j.toNat) else none
theorem oa_pow : OpM P X (binaryOp .Pow) gPow := om_ii op_pow fun i j h => by
  rw [Bool.and_eq_true] at h
  have h1 := of_decide_eq_true h.1
  exact ⟨h1.1, h1.2, Nat.le_of_ble_eq_true h.2⟩
/-- a classmethod by a table -/
theorem GCM.tabo {P' : Program} {w : World} {K : PySem.W.Frag} {mg : Str → Option Value} {base : Heap} {x m : Str} {C lv k : Nat} {f : FM} {dus : List U} {t : Tb} (F : GCM P' w K mg base P x C m lv k f dus) (ok : tabOk f t) : GCM P' w K mg base P x C m lv k (tabO t f) dus := by
  obtain ⟨mc, pp, g, fd, ps, ds, dvs, h1, h2, h3, h4, h5, h6, h7⟩ := F.ex
  exact ⟨⟨mc, pp, g, fd, ps, ds, dvs, h1.imp fun vs H Q E h => tabO_sp ok vs H Q E h, h2, h3, h4, h5, h6, h7⟩⟩
end
end M7
end

noncomputable section
namespace M7
open PySem PySem.Spec PyProof.Rows L2
/-! ### a run on data that is not all known, step by step -/
section
variable {σ σ1 : SS} {h h1 h2 : HP} {x y r : U} {ma mb m : ME} {g : G2} {xs us : List U}
theorem ev_c {u : U} : eC u σ h = .ok u h := rfl
theorem ev_var {i : Nat} {u : U} (e : nthF σ i = some (.val u)) : eVar i σ h = .ok u h := by
  unfold eVar
  rw [e]
theorem ev_bin (e1 : ma σ h = .ok x h1) (e2 : mb σ h1 = .ok y h2) (e3 : g h2 x y = some r) : eBin g ma mb σ h = .ok r h2 := by
  unfold eBin
  rw [e1]
  show (mb σ h1).bind _ = _
  rw [e2]
  show (match g h2 x y with | some r => R.ok r h2 | none => R.bad) = _
  rw [e3]
theorem ev_ix (e1 : ma σ h = .ok x h1) (e2 : mb σ h1 = .ok y h2) (e3 : gIxA h2 x y = some r) : eIxA ma mb σ h = .ok r h2 := ev_bin e1 e2 e3
theorem ea_nil : aNil σ h = .ok [] h := rfl
theorem ea_cons {k : MA} (e1 : m σ h = .ok x h1) (e2 : k σ h1 = .ok us h2) : aCons m k σ h = .ok (x :: us) h2 := by
  unfold aCons
  rw [e1]
  dsimp only
  rw [e2]
theorem ev_callB {G : GA} {k : MA} (e1 : k σ h = .ok us h1) (e2 : G h1 us = some r) : eCallB G k σ h = .ok r h1 := by
  unfold eCallB
  rw [e1]
  show (match G h1 us with | some r => R.ok r h1 | none => R.bad) = _
  rw [e2]
theorem ev_call {n : Nat} {f : FM} {dus : List U} {k : MA} (e1 : k σ h = .ok us h1) (e2 : Nat.beq (us ++ dus).length n = true) (e3 : f (us ++ dus) h1 = .ok r h2) : eCall n f dus k σ h = .ok r h2 := by
  unfold eCall
  rw [e1]
  show (match Nat.beq (us ++ dus).length n with | true => f (us ++ dus) h1 | false => R.bad) = _
  rw [e2]
  exact e3
theorem ev_lst {k : MA} (e1 : k σ h = .ok us h1) (e2 : fits us.length = true) : eLst k σ h = .ok (.lst us) h1 := by
  unfold eLst
  rw [e1]
  show (if fits us.length = true then R.ok (U.lst us) h1 else R.bad) = _
  rw [if_pos e2]
theorem st_seq {a b : MS} {R : RS} (e1 : a σ h = .nx σ1 h1) (e2 : b σ1 h1 = R) : sSeq a b σ h = R := by
  unfold sSeq
  rw [e1]
  exact e2
theorem st_seqR {a b : MS} (e1 : a σ h = .rt r h1) : sSeq a b σ h = .rt r h1 := by
  unfold sSeq
  rw [e1]
  rfl
theorem st_set {i : Nat} (e1 : m σ h = .ok x h1) : sSet i m σ h = .nx (setF σ i (.val x)) h1 := by
  unfold sSet
  rw [e1]
  rfl
theorem st_ret (e1 : m σ h = .ok x h1) : sRet m σ h = .rt x h1 := by
  unfold sRet
  rw [e1]
  rfl
theorem tt_bl {b : Bool} (e1 : m σ h = .ok (.bl b) h1) : tBl m σ h = .ok b h1 := by
  unfold tBl
  rw [e1]
theorem st_if {t : MT} {a b : MS} {k : Bool} {R : RS} (e1 : t σ h = .ok k h1) (e2 : (if k = true then a σ h1 else b σ h1) = R) : sIf t a b σ h = R := by
  unfold sIf
  rw [e1]
  exact e2
theorem st_ifT {t : MT} {a b : MS} {R : RS} (e1 : t σ h = .ok true h1) (e2 : a σ h1 = R) : sIf t a b σ h = R := st_if e1 e2
theorem st_ifF {t : MT} {a b : MS} {R : RS} (e1 : t σ h = .ok false h1) (e2 : b σ h1 = R) : sIf t a b σ h = R := st_if e1 e2
theorem st_asg {G : TGt} {σ2 : SS} (e1 : m σ h = .ok x h1) (e2 : G σ h1 x = .nx σ2 h2) : sAsg m G σ h = .nx σ2 h2 := by
  unfold sAsg
  rw [e1]
  show (match G σ h1 x with | .nx σ2 h2 => RS.nx σ2 h2 | _ => RS.bad) = _
  rw [e2]
theorem tg_sub {n : Nat} {o o' : O} {u : U} (e1 : ma σ h = .ok (.ref n) h1) (e2 : mb σ h1 = .ok y h2) (e3 : h2.m n = some o) (e4 : putO o y u = some o') : tgSub ma mb σ h u = .nx σ (h2.set n o') := by
  unfold tgSub
  rw [e1]
  show (mb σ h1).okS _ = _
  rw [e2]
  show (match h2.m n with | some ob => (match putO ob y u with | some ob' => RS.nx σ (h2.set n ob') | none => RS.bad) | none => RS.bad) = _
  rw [e3]
  dsimp only
  rw [e4]
theorem rf_rt {n k : Nat} {b : MS} (e1 : Nat.beq us.length k = true) (e2 : b (startU n us) h = .rt r h1) : runF n k b us h = .ok r h1 := by
  unfold runF
  rw [e1]
  dsimp only
  rw [e2]
theorem hset_m {n : Nat} {o : O} : (h.set n o).m n = some o := by
  show ifEq n n (some o) (h.m n) = _
  rw [ifEq_eq, if_pos rfl]
theorem hset_ne {n j : Nat} {o : O} (hj : j ≠ n) : (h.set n o).m j = h.m j := by
  show ifEq j n (some o) (h.m j) = _
  rw [ifEq_eq, if_neg hj]
theorem hnew_m {o : O} : (h.new o).m h.n = some o := by
  show ifEq h.n h.n (some o) (h.m h.n) = _
  rw [ifEq_eq, if_pos rfl]
theorem hnew_ne {j : Nat} {o : O} (hj : j ≠ h.n) : (h.new o).m j = h.m j := by
  show ifEq j h.n (some o) (h.m j) = _
  rw [ifEq_eq, if_neg hj]
theorem gIx_ref {n : Nat} {i : Int} (e : h.m n = some (.lst xs)) (e2 : atU xs i = some r) : gIxA h (.ref n) (.int i) = some r := by
  have : gIx h (.ref n) (.int i) = some r := by
    unfold gIx asSeq asTup asLst lstAt
    dsimp only
    rw [e]
    exact e2
  unfold gIxA gOr
  rw [this]
theorem gIx_lst {i : Int} (e2 : atU xs i = some r) : gIxA h (.lst xs) (.int i) = some r := by
  have : gIx h (.lst xs) (.int i) = some r := e2
  unfold gIxA gOr
  rw [this]
theorem gMod_ok {i j : Int} (hj : 0 < j) : gModI h (.int i) (.int j) = some (.int (i % j)) := by
  show (if decide (0 < j) = true then some (i % j) else none).map U.int = _
  rw [decide_eq_true hj]
  rfl
theorem gFdiv_ok {i j : Int} (hj : 0 < j) (h2 : j.natAbs.log2 < 9000) : gFdiv h (.int i) (.int j) = some (.int (i / j)) := by
  show (if (decide (0 < j) && Nat.blt j.natAbs.log2 9000) = true then some (i / j) else none).map U.int = _
  rw [if_pos (by rw [decide_eq_true hj, Bool.true_and]; exact Nat.ble_eq_true_of_le h2)]
  rfl
theorem gAdd_ok {i j : Int} : gAddAny h (.int i) (.int j) = some (.int (i + j)) := rfl
theorem mulE_ok {i j : Int} (h2 : i.natAbs.log2 + j.natAbs.log2 < 1000000) : gMulE h (.int i) (.int j) = some (.int (i * j)) := by
  have : gMulI h (.int i) (.int j) = some (.int (i * j)) := by
    show (if Nat.blt (i.natAbs.log2 + j.natAbs.log2) 1000000 = true then some (i * j) else none).map U.int = _
    have hb : Nat.blt (i.natAbs.log2 + j.natAbs.log2) 1000000 = true := Nat.ble_eq_true_of_le h2
    rw [if_pos hb]
    rfl
  unfold gMulE gMulA gOr
  rw [this]
theorem log2_sm {n : Nat} (hn : n < 2 ^ 200) : n.log2 < 200 := by
  by_cases h0 : n = 0
  · subst h0; decide
  · exact (Nat.log2_lt h0).mpr hn
theorem mulE_small {i j : Int} (hi : i.natAbs < 2 ^ 200) (hj : j.natAbs < 2 ^ 200) : gMulE h (.int i) (.int j) = some (.int (i * j)) := mulE_ok (by have := log2_sm hi; have := log2_sm hj; omega)
end
end M7
end

noncomputable section
namespace M7
open PySem PySem.Spec PyProof.Rows L2
open PySem.W (Looks InstAt looks_findIn looks_mroIn looks_subIn looks_clsIn)
section
variable {P : Par} {ρ ρ1 ρ' ρ'' : List Addr} {W W' W'' : WS} {W0 : FW} {H H1 H' H'' : Hp} {hp hp' : HP} {E : XK} {Q : VK} {X : Cx} {pos : Pos} {σ' : SS} {σ : L2.St} {pins : List (Addr × Obj)} {s : Shared}
variable {CX : CXT} {lv k C : Nat} {f : Addr} {fd : FuncData} {ps : List Str} {sp : Sp} {ds : List Value} {dvs : List V}
/-! ### a def called where the running body stands, or two steps within -/
theorem run_at {us : List Value} {vs : List V} (F : FnOk X.prog X.w X.K X.mg X.base CX k f fd ps sp) (hr : Room k X.A) (hb : Binds X.K fd ps ds) (hd : Vals dvs ds) (hx : Passes CX X E)
    (I : Inv X pins σ H s) (r : Vals vs us) (h : sp (vs ++ dvs) H Q E) : wpAny (model X.prog X.w) X.A (call (.ref f) us) (EP X pins σ Q) X.xe s := by
  have rr : Vals (vs ++ dvs) (us ++ ds) := r.append hd
  have ln : (us ++ ds).length = ps.length := by rw [← rr.length]; exact F.len _ _ _ _ h
  refine wpAny_call (codeAny_mono (F.run X.A X.stack s H ⟨us, []⟩ (us ++ ds) (vs ++ dvs) Q E hr I.env0 (hb s us I.kIn ln) rr h) fun g t hq => ?_)
  cases g with
  | error e => exact hx pins σ H s e t I hq
  | ok fl =>
    cases fl with
    | ret u => exact I.after hq
    | next => exact False.elim hq
    | brk => exact False.elim hq
    | cont => exact False.elim hq
theorem run_in2 {us : List Value} {vs : List V} (F : FnOk X.prog X.w X.K X.mg X.base CX k f fd ps sp) (hr : Room (k + 2) X.A) (hb : Binds X.K fd ps ds) (hd : Vals dvs ds) (hx : Passes CX X E)
    (I : Inv X pins σ H s) (r : Vals vs us) (h : sp (vs ++ dvs) H Q E) : wpAny (model X.prog X.w) X.A.in1.in1 (call (.ref f) us) (EP X pins σ Q) X.xe s := by
  have rr : Vals (vs ++ dvs) (us ++ ds) := r.append hd
  have ln : (us ++ ds).length = ps.length := by rw [← rr.length]; exact F.len _ _ _ _ h
  refine wpAny_call (codeAny_mono (F.run X.A.in1.in1 X.stack s H ⟨us, []⟩ (us ++ ds) (vs ++ dvs) Q E hr.in1.in1 I.env0.in1.in1 (hb s us I.kIn ln) rr h) fun g t hq => ?_)
  cases g with
  | error e => exact hx pins σ H s e t I hq
  | ok fl =>
    cases fl with
    | ret u => exact I.after hq
    | next => exact False.elim hq
    | brk => exact False.elim hq
    | cont => exact False.elim hq

/-! ### what the library lacks of comparisons by an own __eq__ -/
section
variable {prog : Program} {w : World} {M : Model} {A : Around} {E : Value → Shared → Prop} {s : Shared} {K : PySem.W.Frag} {x C f : Addr} {ox : Obj} {od : Option Obj} {b tb : Value}
theorem ifBound_B {name : Str} {id : String} {args : List Value} {Q : Option Value → Shared → Prop} (X : K.In s.heap) (I : InstAt s.heap x ox C od) (hs : PySem.W.findIn K (.ref C) name = some (some (.builtin id)))
    (hb : ∀ self, bindSpecial (.builtin id) self = pure (.builtin id, [self])) (h : wpAny M A (call (.builtin id) (.ref x :: args)) (fun v => Q (some v)) E s) : wpAny M A (callSpecialIfBound? (.ref x) name args) Q E s := by
  simp only [callSpecialIfBound?, bindSpecialIfBound?]
  refine wpAny_holding (wpAny_bind (wpAny_bind (wpAny_bind (I.type.here ((looks_findIn X hs).here ?_)))))
  refine wpAny_bind (wpAny_askSetting (wpAny_ite ?_))
  have fin : wpAny M A (call (.builtin id) ([.ref x] ++ args) >>= fun v => pure (some v)) Q E s := wpAny_bind (wpAny_mono h (fun v s' h' => wpAny_pure h') fun _ _ h' => h')
  split
  · exact wpAny_bind ((Looks.of_pure (hb _)).here (wpAny_pure (by exact fin)))
  · exact wpAny_tryCatch (wpAny_bind ((Looks.of_pure (hb _)).here (wpAny_pure (by exact fin))))
theorem cmp_gen {op : CmpOp} {Q : Value → Shared → Prop} (hu : A.units < cLine) (X : K.In s.heap) (I : InstAt s.heap x ox C od) (hb : Looks (model prog w) s.heap (typeOf b) tb) (hn : PySem.W.notFirst K C tb = true)
    (one : wpAny (model prog w) A (tryCompare (.ref x) (cmpInfo op).2.1 b) (fun r s' => ∃ v, r = some v ∧ Q v s') E s) : wpAny (model prog w) A (richCompare op (.ref x) b) Q E s := by
  unfold richCompare
  simp only [oneThing_ref]
  refine wpAny_holding (wpAny_bind (wpAny_cRoomFor hu ?_))
  refine wpAny_bind (I.type.here (wpAny_bind (hb.here ?_)))
  split
  · rename_i q
    have e : PySem.W.subIn K tb (.ref C) = some false := by
      rcases Bool.or_eq_true_iff.mp hn with e | e
      · rw [beq_iff_eq.mp e] at q; simp at q
      · exact beq_iff_eq.mp e
    refine wpAny_bind ((looks_subIn X e).here ?_)
    simp only [Bool.false_eq_true, if_false]
    refine wpAny_bind (wpAny_mono one (fun r s' z => ?_) fun _ _ e => e)
    obtain ⟨v, rfl, hq⟩ := z
    exact wpAny_pure hq
  · refine wpAny_bind (wpAny_pure ?_)
    simp only [Bool.false_eq_true, if_false]
    refine wpAny_bind (wpAny_mono one (fun r s' z => ?_) fun _ _ e => e)
    obtain ⟨v, rfl, hq⟩ := z
    exact wpAny_pure hq
theorem eq_gen {Q : Value → Shared → Prop} (hu : A.units < cLine) (X : K.In s.heap) (I : InstAt s.heap x ox C od) (hb : Looks (model prog w) s.heap (typeOf b) tb) (hn : PySem.W.notFirst K C tb = true)
    (hs : PySem.W.findIn K (.ref C) "__eq__" = some (some (.ref f))) (hf : PySem.W.isFn K (.ref f) = true)
    (h : wpAny (model prog w) A (call (.ref f) [.ref x, b]) (fun v s' => ∃ r, v = .bool r ∧ Q (.bool r) s') E s) : wpAny (model prog w) A (richCompare .Eq (.ref x) b) Q E s := by
  refine cmp_gen hu X I hb hn ?_
  unfold tryCompare
  refine wpAny_bind (PySem.W.ifBound_K X I hs hf (wpAny_mono h (fun v s' hv => ?_) fun _ _ e => e))
  obtain ⟨r, rfl, hq⟩ := hv
  exact wpAny_pure ⟨_, rfl, hq⟩
theorem ne_bind (self : Value) : bindSpecial (.builtin "object.__ne__") self = pure (.builtin "object.__ne__", [self]) :=
  (Slot.of (T := "object") (name := "__ne__") (owner := "object") (n := "__ne__") (by rw [typeLookup_type, builtinLookup_eq_fast]; kernel_rfl) (by decide +kernel) (by decide +kernel) (by decide +kernel)
    (.inl (by decide +kernel)) (by rw [isSubtype_type]; kernel_rfl)).bind self
theorem ne_plain : plainId "object.__ne__" = true := by decide +kernel
open Builtin in
theorem ne_gen {Q : Value → Shared → Prop} (hu : A.units < cLine) (hu1 : A.in1.units < cLine) (X : K.In s.heap) (I : InstAt s.heap x ox C od) (hb : Looks (model prog w) s.heap (typeOf b) tb) (hn : PySem.W.notFirst K C tb = true)
    (hm : PySem.W.mroIn K C (.type "object") = some true) (hne : PySem.W.findIn K (.ref C) "__ne__" = some (some (.builtin "object.__ne__"))) (hs : PySem.W.findIn K (.ref C) "__eq__" = some (some (.ref f))) (hf : PySem.W.isFn K (.ref f) = true)
    (h : wpAny (model prog w) A.in1 (call (.ref f) [.ref x, b]) (fun v s' => ∃ r, v = .bool r ∧ Q (.bool (!r)) s') E s) : wpAny (model prog w) A (richCompare .NotEq (.ref x) b) Q E s := by
  refine cmp_gen hu X I hb hn ?_
  unfold tryCompare
  refine wpAny_bind (ifBound_B X I hne ne_bind ?_)
  refine wpAny_call (codeAny_call_builtin ne_plain PySem.F.cmpEntry_ne (PySem.W.check_slot (i := "object.__ne__") (owner := "object") (n := "__ne__") PySem.F.cmpKind_ne PySem.F.cmpSplit_ne (I.type.andThen (looks_mroIn X hm)) (PySem.F.cmpArgs_ne _ _) ?_))
  unfold Builtin.«object.__ne__»
  refine wpAny_bind (m := slotArgs "__ne__" 1 _) (wpAny_pure ?_)
  refine wpAny_bind (m := cRoomFor _ _) (wpAny_cRoomFor hu1 ?_)
  refine wpAny_bind (m := callSpecialIfBound? (.ref x) (Str.ofString "__eq__") _) (PySem.W.ifBound_K X I hs hf (wpAny_mono h (fun r s' hq => ?_) fun _ _ y => y))
  obtain ⟨c, rfl, q⟩ := hq
  refine wpAny_bind (m := truthy (.bool c)) (wpAny_truthy_bool ?_)
  exact wpAny_pure (by exact wpAny_pure ⟨_, rfl, q⟩)
end
end
end M7
end

noncomputable section
namespace M7
open PySem PySem.Spec PyProof.Rows L2
open PySem.W (Looks InstAt looks_findIn looks_mroIn looks_subIn looks_clsIn)
/-! ### two-place operations that run a def -/
abbrev GR2 := U → U → HP → R
def gPure (g : G2) : GR2 := fun a b h => match g h a b with
  | some r => .ok r h
  | none => .bad
/-- the left one an instance of C: g, else g' -/
def gSel (C : Nat) (g g' : GR2) : GR2 := fun a b h => match a with
  | .obj D _ _ => match Nat.beq D C with
    | true => g a b h
    | false => g' a b h
  | _ => g' a b h
def eBinR (g : GR2) (ma mb : ME) : ME := fun σ h => (ma σ h).bind fun x h1 => (mb σ h1).bind fun y h2 => g x y h2
def rBl (neg : Bool) : R → R
  | .ok u h => match u with
    | .bl b => .ok (.bl (if neg then !b else b)) h
    | _ => .bad
  | .exc x h => .exc x h
  | .bad => .bad
def rOb : R → R
  | .ok u h => match u with
    | .obj D ns us => .ok (.obj D ns us) h
    | _ => .bad
  | .exc x h => .exc x h
  | .bad => .bad
def rSt : R → R
  | .ok u h => match u with
    | .str x => .ok (.str x) h
    | _ => .bad
  | .exc x h => .exc x h
  | .bad => .bad
/-- the def fm of the left one's class, asked with both; the right one's class stands in the table l -/
def gOwnC (C : Nat) (l : List (Tg × Bool)) (k : R → R) (fm : FM) : GR2 := fun a b h => match a with
  | .obj D _ _ => match Nat.beq D C with
    | true => match tgU h b with
      | some t => match isiL l t with
        | some true => k (fm [a, b] h)
        | _ => .bad
      | none => .bad
    | false => .bad
  | _ => .bad
def gOwnA (C : Nat) (fm : FM) : GR2 := fun a b h => match a with
  | .obj D _ _ => match Nat.beq D C with
    | true => match b with
      | .obj D' _ _ => match Nat.beq D' C with
        | true => rOb (fm [a, b] h)
        | false => .bad
      | _ => .bad
    | false => .bad
  | _ => .bad
abbrev GRA := List U → HP → R
def gaPure (g : GA) : GRA := fun us h => match g h us with
  | some r => .ok r h
  | none => .bad
def gaSel (C : Nat) (g g' : GRA) : GRA := fun us h => match us with
  | [.obj D _ _] => match Nat.beq D C with
    | true => g us h
    | false => g' us h
  | _ => g' us h
def gaStr (C : Nat) (fm : FM) : GRA := fun us h => match us with
  | [.obj D ns fs] => match Nat.beq D C with
    | true => rSt (fm [.obj D ns fs] h)
    | false => .bad
  | _ => .bad
def eCallBR (g : GRA) (ma : MA) : ME := fun σ h => (ma σ h).bind fun us h1 => g us h1
/-- name op= e, by such an operation -/
def sAugR (i : Nat) (g : GR2) (m : ME) : MS := fun σ h => match nthF σ i with
  | some (.val a) => (m σ h).bindS fun b h1 => (g a b h1).bindS fun r h2 => .nx (setF σ i (.val r)) h2
  | _ => .bad
section
variable {P : Par} {ρ ρ1 ρ' ρ'' : List Addr} {W W' W'' : WS} {W0 : FW} {H H1 H' H'' : Hp} {hp hp' : HP} {E : XK} {Q : VK} {X : Cx} {pos : Pos} {σ' : SS} {σ : L2.St} {pins : List (Addr × Obj)} {s : Shared} {D : Ends}
variable {CX : CXT} {lv k C : Nat} {fd : FuncData} {ps : List Str} {sp : Sp} {ds : List Value} {dvs : List V}
def rOwn (P : Par) (E : XK) (g : GR2) : R2 := fun x y H Q => ∃ ρ W hp a b, RH P ρ W hp H ∧ RU P ρ W H a x ∧ RU P ρ W H b y ∧ PostE P E ρ W H Q (g a b hp)
theorem OpM.own {f : Value → Value → Sem Value} {g : G2} (ho : OpM P X f g) : OpR X f (rOwn P E (gPure g)) := fun pins s σ H x y v u Q I rx ry ⟨ρ, W, hp, a, b, rh, ra, rb, po⟩ => by
  unfold gPure at po
  cases e : g hp a b with
  | none => rw [e] at po; exact po.elim
  | some r =>
    rw [e] at po
    exact ho pins s σ H x y v u Q ρ W hp a b r I rx ry rh ra rb e po
theorem OwnR.sel {f : Value → Value → Sem Value} {g g' : GR2} (h1 : OpR X f (rOwn P E g)) (h2 : OpR X f (rOwn P E g')) : OpR X f (rOwn P E (gSel C g g')) := fun pins s σ H x y v u Q I rx ry ⟨ρ, W, hp, a, b, rh, ra, rb, po⟩ => by
  unfold gSel at po
  split at po
  · split at po
    · exact h1 pins s σ H x y v u Q I rx ry ⟨ρ, W, hp, _, b, rh, ra, rb, po⟩
    · exact h2 pins s σ H x y v u Q I rx ry ⟨ρ, W, hp, _, b, rh, ra, rb, po⟩
  · exact h2 pins s σ H x y v u Q I rx ry ⟨ρ, W, hp, _, b, rh, ra, rb, po⟩
theorem binR_run {a b : Expr} {ma mb : ME} {g : GR2} {f : Value → Value → Sem Value} (ha : PE X a (tM P E ma)) (hb : PE X b (tM P E mb)) (ho : OpR X f (rOwn P E g)) {pins : List (Addr × Obj)} {s : Shared} {σ : L2.St} {H : Hp} {Q : VK} (I : Inv X pins σ H s)
    (q : tM P E (eBinR g ma mb) σ H Q) : wpAny (model X.prog X.w) X.A (eval a X.env) (fun v s₁ => wpAny (model X.prog X.w) X.A (eval b X.env) (fun u s₂ => wpAny (model X.prog X.w) X.A (f v u) (EP X pins σ Q) X.xe s₂) X.xe s₁) X.xe s := by
  obtain ⟨ρ, W0, W, σ', hp, rs, rh, po⟩ := q
  unfold eBinR at po
  refine thn (ha.run pins s σ H (fun x H1 => ∃ ρ1 u hp1, RSl P ρ1 W0 W H1 σ' σ ∧ RH P ρ1 W hp1 H1 ∧ RU P ρ1 W H1 u x ∧ PostE P E ρ1 W H1 Q ((mb σ' hp1).bind fun y h2 => g u y h2)) I
    (tM_then rs rh po fun ρ1 H1 u v hp1 rs1 rh1 ru1 x1 po1 => ⟨ρ1, u, hp1, rs1, rh1, ru1, po1⟩)) fun v s1 ⟨x, H1, I1, r1, ρ1, u1, hp1, rs1, rh1, ru1, po1⟩ => ?_
  refine thn (hb.run pins s1 σ H1 (fun y H2 => ∃ ρ2 u2 hp2, RH P ρ2 W hp2 H2 ∧ RU P ρ2 W H2 u1 x ∧ RU P ρ2 W H2 u2 y ∧ PostE P E ρ2 W H2 Q (g u1 u2 hp2)) I1
    (tM_then rs1 rh1 po1 fun ρ2 H2 u v hp2 rs2 rh2 ru2 x2 po2 => ⟨ρ2, u, hp2, rh2, ru1.ext x2, ru2, po2⟩)) fun u s2 ⟨y, H2, I2, r2, ρ2, u2, hp2, rh2, ra, rb, po2⟩ => ?_
  exact ho pins s2 σ H2 x y v u Q I2 r1 r2 ⟨ρ2, W, hp2, u1, u2, rh2, ra, rb, po2⟩
theorem tM_binR {a b : Expr} {ma mb : ME} {g : GR2} {op : Operator} {pos : Pos} (ho : OpR X (binaryOp op) (rOwn P E g)) (ha : PE X a (tM P E ma)) (hb : PE X b (tM P E mb)) : PE X (.BinOp a op b pos) (tM P E (eBinR g ma mb)) :=
  ⟨fun pins s σ H Q I q => wpAny_BinOp (binR_run ha hb ho I q)⟩
theorem tM_cmpR {a b : Expr} {ma mb : ME} {g : GR2} {op : CmpOp} {pos : Pos} (ho : OpR X (compareOp op) (rOwn P E g)) (ha : PE X a (tM P E ma)) (hb : PE X b (tM P E mb)) (hm : behindInMarks op b = false) : PE X (.Compare a [op] [b] pos) (tM P E (eBinR g ma mb)) :=
  ⟨fun pins s σ H Q I q => wpAny_Compare1 (binR_run ha hb ho I q) hm⟩
theorem tT_cmpR {a b : Expr} {ma mb : ME} {g : GR2} {op : CmpOp} (ho : OpR X (compareOp op) (rOwn P E g)) (ha : PE X a (tM P E ma)) (hb : PE X b (tM P E mb)) (hm : behindInMarks op b = false) : PT X (.Compare a [op] [b] pos) (tMT P E (tBl (eBinR g ma mb))) :=
  ⟨fun pins s σ H Q I q => by
  obtain ⟨ρ, W0, W, σ', hp, rs, rh, po⟩ := q
  refine wpAny_isTrue_Compare1 (thn (binR_run (Q := fun v H' => ∃ k, v = .bl k ∧ Q k H') ha hb ho I ⟨ρ, W0, W, σ', hp, rs, rh, ?_⟩) fun v s1 h1 => thn h1 fun u s2 h2 => thn h2 fun c s3 ⟨z, H3, I3, r3, k, ez, q3⟩ => ?_) hm
  · unfold tBl at po
    cases e : eBinR g ma mb σ' hp with
    | bad => rw [e] at po; exact po
    | exc x h1 => rw [e] at po; exact po
    | ok u h1 =>
      rw [e] at po
      dsimp only at po
      split at po
      · rename_i b'
        intro ρ1 H1 v x1 rh1 ru1
        cases ru1
        exact ⟨_, rfl, po ρ1 H1 x1 rh1⟩
      · exact po.elim
  · subst ez
    cases r3
    exact wpAny_truthy_bool ⟨H3, I3, q3⟩⟩

theorem post_bl {neg : Bool} {r : R} (po : PostE P E ρ W H Q (rBl neg r)) : PostE P E ρ W H (fun v H1 => ∃ b, v = .bl b ∧ Q (.bl (if neg then !b else b)) H1) r := by
  cases r with
  | bad => exact po
  | exc x h => exact po
  | ok u h =>
    cases u with
    | bl b =>
      intro ρ' H' v x rh ru
      cases ru
      exact ⟨b, rfl, po ρ' H' _ x rh (.bl _)⟩
    | _ => exact po.elim
theorem post_ob {r : R} (po : PostE P E ρ W H Q (rOb r)) : PostE P E ρ W H (fun v H1 => ∃ a, v = .ref a ∧ Q (.ref a) H1) r := by
  cases r with
  | bad => exact po
  | exc x h => exact po
  | ok u h =>
    cases u with
    | obj D ns us =>
      intro ρ' H' v x rh ru
      have q := po ρ' H' v x rh ru
      cases ru
      exact ⟨_, rfl, q⟩
    | _ => exact po.elim
theorem post_st {r : R} (po : PostE P E ρ W H Q (rSt r)) : PostE P E ρ W H (fun v H1 => ∃ z, v = .str z ∧ Q (.str z) H1) r := by
  cases r with
  | bad => exact po
  | exc x h => exact po
  | ok u h =>
    cases u with
    | str z =>
      intro ρ' H' v x rh ru
      have q := po ρ' H' v x rh ru
      cases ru
      exact ⟨_, rfl, q⟩
    | _ => exact po.elim
theorem GM'.nil {P' : Program} {w : World} {K : PySem.W.Frag} {mg : Str → Option Value} {base : Heap} {m : Str} {fm : FM} (G : GM' P' w K mg base P C m lv k fm []) : ∃ (f : Addr) (fd : FuncData) (ps : List Str) (ds : List Value), FnOk P' w K mg base (L2.CX P' w) lv f fd ps (spM P k fm) ∧ Cls K (P.cA C) ∧ Meth K (P.cA C) m f ∧ Binds K fd ps ds ∧ Vals [] ds := by
  obtain ⟨f, fd, ps, ds, dvs, h1, h2, h3, h4, h5, h6⟩ := G.ex
  have hv : dvs = [] := by
    have := h6 [] (fun _ => False) (fun _ => none)
    cases this
    rfl
  subst hv
  exact ⟨f, fd, ps, ds, h1, h2, h3, h4, h5⟩
/-- which classes may stand to the right of an own == -/
abbrev NfOk (P : Par) (C : Nat) (l : List (Tg × Bool)) : Prop := IsiOk P (fun t => some (PySem.W.notFirst P.K (P.cA C) t)) l
structure OwnNe (K : PySem.W.Frag) (C : Addr) : Prop where
  m : PySem.W.mroIn K C (.type "object") = some true
  ne : PySem.W.findIn K (.ref C) "__ne__" = some (some (.builtin "object.__ne__"))
theorem or_eqO {fm : FM} {l : List (Tg × Bool)} (hK : X.K = P.K) (hu : X.A.units + 64 < cLine) (G : GM' X.prog X.w X.K X.mg X.base P C "__eq__" lv 2 fm []) (hr : Room lv X.A) (hx : Passes (L2.CX X.prog X.w) X E) (hN : NfOk P C l) : OpR X (compareOp .Eq) (rOwn P E (gOwnC C l (rBl false) fm)) := by
  intro pins s σ H x y v u Q I rx ry hq
  obtain ⟨ρ, W, hp, a, b, rh, ra, rb, po⟩ := hq
  obtain ⟨f, fd, ps, ds, h1, h2, h3, h4, h5⟩ := G.nil
  unfold gOwnC at po
  split at po
  · rename_i D ns us
    split at po
    · rename_i hD
      have hD := Nat.eq_of_beq_eq_true hD
      subst hD
      split at po
      · rename_i t et
        split at po
        · rename_i ec
          obtain ⟨hn, hC⟩ := hN t true (isiL_mem ec)
          have hn : PySem.W.notFirst P.K (P.cA D) (tgV P t) = true := Option.some.inj hn
          have ty := tgU_ok rh rb et hC
          have ra0 := ra
          cases ra0 with
          | @obj _ _ _ ad dx fs h hns r =>
            rw [← hK] at ty hn
            obtain ⟨Pp, kx, pp, _⟩ := kit_of I ry ty
            obtain ⟨mA, J, _⟩ := ins_get I.hok h.1
            obtain ⟨od, J, _⟩ := J.look
            cases (show v = Value.ref ad from rx)
            show wpAny _ _ (richCompare .Eq _ _) _ _ _
            refine eq_gen (by omega) I.kIn J (kx.ty _ _ I.kIn pp) hn h3.at_ h3.fn (wpAny_mono (run_at h1 hr h4 h5 hx I (vs := [.ref ad, y]) (.cons rfl (.cons ry .nil)) ⟨rfl, ρ, W, [_, b], hp, .cons ra (.cons rb .nil), rh, post_bl po⟩) (fun z s1 hz => ?_) fun _ _ y => y)
            obtain ⟨v2, H1, I1, rz, b2, ez, q⟩ := hz
            subst ez
            cases (show z = Value.bool b2 from rz)
            exact ⟨b2, rfl, .bl b2, H1, I1, rfl, q⟩
        · exact po.elim
      · exact po.elim
    · exact po.elim
  · exact po.elim
theorem or_neO {fm : FM} {l : List (Tg × Bool)} (hK : X.K = P.K) (hu : X.A.units + 64 < cLine) (G : GM' X.prog X.w X.K X.mg X.base P C "__eq__" lv 2 fm []) (hr : Room (lv + 1) X.A) (hx : Passes (L2.CX X.prog X.w) X E) (hN : NfOk P C l) (hO : OwnNe P.K (P.cA C)) : OpR X (compareOp .NotEq) (rOwn P E (gOwnC C l (rBl true) fm)) := by
  intro pins s σ H x y v u Q I rx ry hq
  obtain ⟨ρ, W, hp, a, b, rh, ra, rb, po⟩ := hq
  obtain ⟨f, fd, ps, ds, h1, h2, h3, h4, h5⟩ := G.nil
  unfold gOwnC at po
  split at po
  · rename_i D ns us
    split at po
    · rename_i hD
      have hD := Nat.eq_of_beq_eq_true hD
      subst hD
      split at po
      · rename_i t et
        split at po
        · rename_i ec
          obtain ⟨hn, hC⟩ := hN t true (isiL_mem ec)
          have hn : PySem.W.notFirst P.K (P.cA D) (tgV P t) = true := Option.some.inj hn
          have ty := tgU_ok rh rb et hC
          have ra0 := ra
          cases ra0 with
          | @obj _ _ _ ad dx fs h hns r =>
            rw [← hK] at ty hn hO
            obtain ⟨Pp, kx, pp, _⟩ := kit_of I ry ty
            obtain ⟨mA, J, _⟩ := ins_get I.hok h.1
            obtain ⟨od, J, _⟩ := J.look
            cases (show v = Value.ref ad from rx)
            show wpAny _ _ (richCompare .NotEq _ _) _ _ _
            refine ne_gen (by omega) (Room.units0 hr.in1) I.kIn J (kx.ty _ _ I.kIn pp) hn hO.m hO.ne h3.at_ h3.fn (wpAny_mono (run_in1 h1 hr h4 h5 hx I (vs := [.ref ad, y]) (.cons rfl (.cons ry .nil)) ⟨rfl, ρ, W, [_, b], hp, .cons ra (.cons rb .nil), rh, post_bl po⟩) (fun z s1 hz => ?_) fun _ _ y => y)
            obtain ⟨v2, H1, I1, rz, b2, ez, q⟩ := hz
            subst ez
            cases (show z = Value.bool b2 from rz)
            exact ⟨b2, rfl, .bl (!b2), H1, I1, rfl, q⟩
        · exact po.elim
      · exact po.elim
    · exact po.elim
  · exact po.elim

/-! ### str(x), x an instance with its own __str__ -/
def cRun (P : Par) (E : XK) (g : GRA) : List V → Hp → VK → Prop := fun xs H Q => ∃ ρ W hp us, RH P ρ W hp H ∧ RUs P ρ W H us xs ∧ PostE P E ρ W H Q (g us hp)
theorem CallR.run {f : Value} {g : GA} (hc : CallR X f (cOf P g)) : CallR X f (cRun P E (gaPure g)) := fun pins s σ H xs us Q I rv ⟨ρ, W, hp, ls, rh, rs, po⟩ => by
  unfold gaPure at po
  cases e : g hp ls with
  | none => rw [e] at po; exact po.elim
  | some r =>
    rw [e] at po
    exact hc pins s σ H xs us Q I rv ⟨ρ, W, hp, ls, r, rh, rs, e, po⟩
theorem CallR.sel {f : Value} {g g' : GRA} (h1 : CallR X f (cRun P E g)) (h2 : CallR X f (cRun P E g')) : CallR X f (cRun P E (gaSel C g g')) := fun pins s σ H xs us Q I rv ⟨ρ, W, hp, ls, rh, rs, po⟩ => by
  unfold gaSel at po
  split at po
  · split at po
    · exact h1 pins s σ H xs us Q I rv ⟨ρ, W, hp, _, rh, rs, po⟩
    · exact h2 pins s σ H xs us Q I rv ⟨ρ, W, hp, _, rh, rs, po⟩
  · exact h2 pins s σ H xs us Q I rv ⟨ρ, W, hp, _, rh, rs, po⟩
theorem cr_strO {fm : FM} (G : GM' X.prog X.w X.K X.mg X.base P C "__str__" lv 1 fm []) (hr : Room (lv + 2) X.A) (hx : Passes (L2.CX X.prog X.w) X E) : CallR X (.type "str") (cRun P E (gaStr C fm)) := by
  intro pins s σ H xs us Q I rv hq
  obtain ⟨ρ, W, hp, ls, rh, rs, po⟩ := hq
  obtain ⟨f, fd, ps, ds, h1, h2, h3, h4, h5⟩ := G.nil
  unfold gaStr at po
  split at po
  · rename_i D ns fs0
    split at po
    · rename_i hD
      have hD := Nat.eq_of_beq_eq_true hD
      subst hD
      cases rs with
      | cons ra t =>
        cases t
        have ra0 := ra
        cases ra0 with
        | @obj _ _ _ ad dx fs h hns r =>
          obtain ⟨mA, J, _⟩ := ins_get I.hok h.1
          obtain ⟨od, J, _⟩ := J.look
          cases rv with
          | @cons _ u0 _ _ r0 t0 =>
            cases t0
            cases (show u0 = Value.ref ad from r0)
            refine PySem.W.kso_call (Room.units0 hr.in1.in1) I.kIn J h3.at_ h3.fn (wpAny_mono (run_in2 h1 hr h4 h5 hx I (vs := [.ref ad]) (.cons rfl .nil) ⟨rfl, ρ, W, [_], hp, .cons ra .nil, rh, post_st po⟩) (fun z s1 hz => ?_) fun _ _ y => y)
            obtain ⟨v2, H1, I1, rz, b2, ez, q⟩ := hz
            subst ez
            obtain ⟨t2, rfl⟩ := (show ∃ t, z = Value.str b2 t from rz)
            exact ⟨.str b2, H1, I1, ⟨t2, rfl⟩, q⟩
    · exact po.elim
  · exact po.elim
section
variable {x : Str} {p : Pos} {e : Expr} {es : List Expr} {ma : MA} {bid T : String} {g : GRA}
theorem tCBR_of {q : Prop} {σ : L2.St} {H : Hp} {Q : VK} (q : tM P E (eCallBR g ma) σ H Q) : tCB (cRun P E g) (tMA P E ma) σ H Q := by
  obtain ⟨ρ, W0, W, σ', hp, rs, rh, po⟩ := q
  refine tMA_then rs rh po fun ρ1 H1 us vs hp1 rs1 rh1 ru1 x1 po1 => ?_
  exact ⟨ρ1, W, hp1, us, rh1, ru1, po1⟩
theorem tM_callTyR (hc : CallR X (.type T) (cRun P E g)) (hg : Gl X x) (hm : X.mg x = none) (hv : bootBuiltins x = some (.type T)) (ha : PA X (e :: es) (tMA P E ma)) (hn : x ≠ "__name__") (hdb : (x == ("__debug__" : Str)) = false)
    (he : starEach (e :: es) X.env = (false, eval e X.env) :: starEach es X.env) (hpl : (backTo pos (starEach es X.env)).any (·.1) = false) : PE X (.Call (.Name x p) (e :: es) [] pos) (tM P E (eCallBR g ma)) :=
  ⟨fun pins s σ H Q I q => (pe_callTy hc hg hm hv ha hn hdb he hpl).run pins s σ H Q I (tCBR_of (q := True) q)⟩
end
end
end M7
end

noncomputable section
namespace M7
open PySem PySem.Spec PyProof.Rows L2
open PySem.W (Looks InstAt looks_findIn looks_mroIn looks_subIn looks_clsIn)
section
variable {prog : Program} {w : World} {M : Model} {A : Around} {E : Value → Shared → Prop} {s : Shared} {K : PySem.W.Frag} {x C f : Addr} {ox : Obj} {od : Option Obj} {b tb : Value}
theorem binop1_K {nm : String} {Q : Option Value → Shared → Prop} (X : K.In s.heap) (I : InstAt s.heap x ox C od) (hb : Looks (model prog w) s.heap (typeOf b) (.ref C)) (hc : PySem.W.selfFirst K C = true)
    (hs : PySem.W.findIn K (.ref C) (PySem.dunder nm) = some (some (.ref f))) (hf : PySem.W.isFn K (.ref f) = true)
    (h : wpAny (model prog w) A (call (.ref f) [.ref x, b]) (fun v s' => ∃ a, v = .ref a ∧ Q (some (.ref a)) s') E s) : wpAny (model prog w) A (binaryOp1 nm (.ref x) b) Q E s := by
  obtain ⟨cd, hcd, hm⟩ := PySem.W.any_some hc
  obtain ⟨rest, hm⟩ : ∃ rest, cd.mro = .ref C :: rest := by
    cases q : cd.mro with
    | nil => rw [q] at hm; cases hm
    | cons a r => rw [q] at hm; exact ⟨r, by rw [List.head?_cons] at hm; cases (beq_iff_eq.mp hm); rfl⟩
  unfold binaryOp1
  refine wpAny_bind (I.type.here (wpAny_bind (hb.here (wpAny_bind ((PySem.W.fills_K X hcd hm hs).here ?_)))))
  simp only [beq_self_eq_true, if_true]
  refine wpAny_bind (wpAny_pure ?_)
  simp only [Bool.and_false, Bool.false_eq_true, if_false, Bool.false_and]
  refine wpAny_bind (wpAny_pure ?_)
  simp only [Bool.false_eq_true, if_false]
  refine wpAny_bind (m := tryMethod (.ref x) _ b) ?_
  unfold tryMethod
  refine wpAny_bind (PySem.W.special_fn X I hs (beq_iff_eq.mp hf) (wpAny_mono h (fun v s' hv => ?_) fun _ _ e => e))
  obtain ⟨a, rfl, hq⟩ := hv
  exact wpAny_pure (wpAny_pure hq)
theorem add_gen {Q : Value → Shared → Prop} (X : K.In s.heap) (I : InstAt s.heap x ox C od) (hb : Looks (model prog w) s.heap (typeOf b) (.ref C)) (hc : PySem.W.selfFirst K C = true)
    (hs : PySem.W.findIn K (.ref C) "__add__" = some (some (.ref f))) (hf : PySem.W.isFn K (.ref f) = true)
    (h : wpAny (model prog w) A (call (.ref f) [.ref x, b]) (fun v s' => ∃ a, v = .ref a ∧ Q (.ref a) s') E s) : wpAny (model prog w) A (binaryOp .Add (.ref x) b) Q E s := by
  unfold binaryOp
  refine wpAny_holding (wpAny_bind ?_)
  refine wpAny_mono (binop1_K (nm := Operator.Add.info.2) (Q := fun r s' => ∃ a, r = some (.ref a) ∧ Q (.ref a) s') X I hb hc hs hf (wpAny_mono h (fun v s' hv => ?_) fun _ _ e => e)) (fun r s' hr => ?_) fun _ _ e => e
  · obtain ⟨a, rfl, hq⟩ := hv
    exact ⟨a, rfl, a, rfl, hq⟩
  · obtain ⟨a, rfl, hq⟩ := hr
    exact wpAny_pure hq
theorem fillsIn_no {h : Heap} {cd : ClassData} (X : K.In h) (hc : PySem.W.clsIn K C = some cd) (hm : cd.mro = [.ref C, .type "object"]) (hi : PySem.W.findIn K (.ref C) "__iadd__" = some none) : Looks M h (fillsInplaceSlot (.ref C) "add" true) false := by
  intro A Q E s k q
  unfold fillsInplaceSlot
  refine wpAny_bind ((looks_clsIn X hc).andThen (f := fun cd => pure cd.mro) .now A _ E s k ?_)
  rw [hm, List.anyM_cons]
  refine wpAny_bind (wpAny_bind (looks_findIn X hi A _ E s k ?_))
  dsimp only
  refine wpAny_pure ?_
  simp only [Bool.false_eq_true, if_false]
  rw [List.anyM_cons]
  refine wpAny_bind (wpAny_bind ((Looks.of_pure (M := M) (h := h) (r := none) (by rw [typeLookup_type, builtinLookup_eq_fast]; kernel_rfl)) A _ E s k ?_))
  dsimp only
  refine wpAny_pure ?_
  simp only [Bool.false_eq_true, if_false]
  rw [List.anyM_nil]
  exact wpAny_pure q
theorem iadd_gen {Q : Value → Shared → Prop} {cd : ClassData} (X : K.In s.heap) (I : InstAt s.heap x ox C od) (hb : Looks (model prog w) s.heap (typeOf b) (.ref C)) (hc : PySem.W.selfFirst K C = true)
    (hcd : PySem.W.clsIn K C = some cd) (hm : cd.mro = [.ref C, .type "object"]) (hi : PySem.W.findIn K (.ref C) "__iadd__" = some none)
    (hs : PySem.W.findIn K (.ref C) "__add__" = some (some (.ref f))) (hf : PySem.W.isFn K (.ref f) = true)
    (h : wpAny (model prog w) A (call (.ref f) [.ref x, b]) (fun v s' => ∃ a, v = .ref a ∧ Q (.ref a) s') E s) : wpAny (model prog w) A (inplaceOp .Add (.ref x) b) Q E s := by
  unfold inplaceOp
  refine wpAny_holding (wpAny_bind (I.type.here ?_))
  refine wpAny_bind ((fillsIn_no X hcd hm hi).here ?_)
  simp only [Bool.false_eq_true, if_false]
  refine wpAny_bind ?_
  refine wpAny_mono (binop1_K (nm := Operator.Add.info.2) (Q := fun r s' => ∃ a, r = some (.ref a) ∧ Q (.ref a) s') X I hb hc hs hf (wpAny_mono h (fun v s' hv => ?_) fun _ _ e => e)) (fun r s' hr => ?_) fun _ _ e => e
  · obtain ⟨a, rfl, hq⟩ := hv
    exact ⟨a, rfl, a, rfl, hq⟩
  · obtain ⟨a, rfl, hq⟩ := hr
    exact wpAny_pure hq
end
section
variable {P : Par} {ρ ρ1 ρ' ρ'' : List Addr} {W W' W'' : WS} {W0 : FW} {H H1 H' H'' : Hp} {hp hp' : HP} {E : XK} {Q : VK} {X : Cx} {pos : Pos} {σ' : SS} {σ : L2.St} {pins : List (Addr × Obj)} {s : Shared} {D : Ends} {lv C : Nat}
/-- a class whose instances are added by its own __add__ alone -/
structure OwnAdd (K : PySem.W.Frag) (C : Addr) : Prop where
  sf : PySem.W.selfFirst K C = true
  cd : ∃ cd, PySem.W.clsIn K C = some cd ∧ cd.mro = [.ref C, .type "object"]
  ia : PySem.W.findIn K (.ref C) "__iadd__" = some none
theorem or_addO {fm : FM} (hK : X.K = P.K) (G : GM' X.prog X.w X.K X.mg X.base P C "__add__" lv 2 fm []) (hr : Room lv X.A) (hx : Passes (L2.CX X.prog X.w) X E) (hO : OwnAdd P.K (P.cA C)) : OpR X (binaryOp .Add) (rOwn P E (gOwnA C fm)) ∧ OpR X (inplaceOp .Add) (rOwn P E (gOwnA C fm)) := by
  rw [← hK] at hO
  obtain ⟨cd, q1, q2⟩ := hO.cd
  obtain ⟨f, fd, ps, ds, h1, h2, h3, h4, h5⟩ := G.nil
  have key : ∀ (pins : List (Addr × Obj)) (s : Shared) (σ : L2.St) (H : Hp) (x y : V) (v u : Value) (Q : VK), Inv X pins σ H s → RelV x v → RelV y u → rOwn P E (gOwnA C fm) x y H Q →
      ∃ ad ox od, v = .ref ad ∧ InstAt s.heap ad ox (P.cA C) od ∧ Looks (model X.prog X.w) s.heap (typeOf u) (.ref (P.cA C)) ∧ wpAny (model X.prog X.w) X.A (call (.ref f) [.ref ad, u]) (fun v s' => ∃ a, v = .ref a ∧ EP X pins σ Q (.ref a) s') X.xe s := by
    intro pins s σ H x y v u Q I rx ry hq
    obtain ⟨ρ, W, hp, a, b, rh, ra, rb, po⟩ := hq
    unfold gOwnA at po
    split at po
    · rename_i D ns us
      split at po
      · rename_i hD
        have hD := Nat.eq_of_beq_eq_true hD
        subst hD
        split at po
        · rename_i D' ns' us'
          split at po
          · rename_i hD'
            have hD' := Nat.eq_of_beq_eq_true hD'
            subst hD'
            have ra0 := ra
            have rb0 := rb
            cases ra0 with
            | @obj _ _ _ ad dx fs h hns r =>
              cases rb0 with
              | @obj _ _ _ ad' dx' fs' h' hns' r' =>
                obtain ⟨mA, J, _⟩ := ins_get I.hok h.1
                obtain ⟨od, J, _⟩ := J.look
                obtain ⟨mA', J', _⟩ := ins_get I.hok h'.1
                obtain ⟨od', J', _⟩ := J'.look
                cases (show v = Value.ref ad from rx)
                cases (show u = Value.ref ad' from ry)
                refine ⟨ad, _, _, rfl, J, J'.type, wpAny_mono (run_at h1 hr h4 h5 hx I (vs := [.ref ad, .ref ad']) (.cons rfl (.cons rfl .nil)) ⟨rfl, ρ, W, [_, _], hp, .cons ra (.cons rb .nil), rh, post_ob po⟩) (fun z s1 hz => ?_) fun _ _ y => y⟩
                obtain ⟨v2, H1, I1, rz, b2, ez, q⟩ := hz
                subst ez
                cases (show z = Value.ref b2 from rz)
                exact ⟨b2, rfl, .ref b2, H1, I1, rfl, q⟩
          · exact po.elim
        · exact po.elim
      · exact po.elim
    · exact po.elim
  refine ⟨fun pins s σ H x y v u Q I rx ry hq => ?_, fun pins s σ H x y v u Q I rx ry hq => ?_⟩
  · obtain ⟨ad, ox, od, rfl, J, L, h⟩ := key pins s σ H x y v u Q I rx ry hq
    exact add_gen I.kIn J L hO.sf h3.at_ h3.fn h
  · obtain ⟨ad, ox, od, rfl, J, L, h⟩ := key pins s σ H x y v u Q I rx ry hq
    exact iadd_gen I.kIn J L hO.sf q1 q2 hO.ia h3.at_ h3.fn h
theorem tS_augR {i : Nat} {x : Str} {e : Expr} {m : ME} {op : Operator} {g : GR2} {pos' : Pos} (hN : X.N.Nodup) (hi : X.N[i]? = some x) (hx : Loc X.env.scope x) (he : PE X e (tM P E m)) (ho : OpR X (inplaceOp op) (rOwn P E g))
    (hf : X.fn x = true ∨ X.env.scope.names.lookup x = some .local) : PS X (.AugAssign (.Name x pos') op e pos) (tS P E (sAugR i g m)) := ⟨fun pins s σ H D I q => by
  obtain ⟨ρ, W0, W, σ', hp, rs, rh, po⟩ := q
  refine (ps_aug (ti := rOwn P E g) hN hi hx he ho hf).run pins s σ H D I ?_
  unfold sAugR at po
  split at po
  · rename_i a ha
    rw [nthF_eq] at ha
    obtain ⟨v, h1, h2⟩ := rs.val i a ha
    refine ⟨v, h1, tM_thenS rs rh po fun ρ1 H1 u w hp1 rs1 rh1 ru1 x1 po1 => ⟨ρ1, W, hp1, a, u, rh1, h2.ext x1, ru1, ?_⟩⟩
    cases eg : g a u hp1 with
    | bad => rw [eg] at po1; exact po1
    | exc y h2' => rw [eg] at po1; exact fun ρ2 H2 c d x2 rh2 rx => po1 ρ2 W H2 c d x2.toS rs1.sub rh2 rx
    | ok r h2' =>
      rw [eg] at po1
      exact fun ρ2 H2 z x2 rh2 rz => po1 ρ2 W H2 _ x2.toS ((rs1.ext rh1 x2).setValF rz) rh2
  · exact po.elim⟩
end
end M7
/-! the facts as Bools -/
namespace M7
open PySem PySem.Spec L2
def ownNeB (K : PySem.W.Frag) (C : Addr) : Bool := PySem.W.mroIn K C (.type "object") == some true && PySem.W.findIn K (.ref C) "__ne__" == some (some (.builtin "object.__ne__"))
theorem ownNe_ok {K : PySem.W.Frag} {C : Addr} (h : ownNeB K C = true) : OwnNe K C := by
  unfold ownNeB at h
  simp only [Bool.and_eq_true, beq_iff_eq] at h
  exact ⟨h.1, h.2⟩
def ownAddB (K : PySem.W.Frag) (C : Addr) : Bool := PySem.W.selfFirst K C && (PySem.W.clsIn K C).any (fun cd => cd.mro == [.ref C, .type "object"]) && PySem.W.findIn K (.ref C) "__iadd__" == some none
theorem ownAdd_ok {K : PySem.W.Frag} {C : Addr} (h : ownAddB K C = true) : OwnAdd K C := by
  unfold ownAddB at h
  simp only [Bool.and_eq_true, beq_iff_eq] at h
  obtain ⟨cd, h1, h2⟩ := PySem.W.any_some h.1.2
  exact ⟨h.1.1, ⟨cd, h1, beq_iff_eq.mp h2⟩, h.2⟩
end M7
end

noncomputable section
namespace M7
open PySem PySem.Spec PyProof.Rows L2
/-! ### the law's own def: it is called where nothing is being shown (repr of lists and tuples) -/
/-- FnOk, but for calls with no guard alone -/
structure FnG (P : Program) (w : World) (K : PySem.W.Frag) (mg : Str → Option Value) (bs : Heap) (CX : CXT) (k : Nat) (f : Addr) (fd : FuncData) (ps : List Str) (sp : Sp) : Prop where
  ln : ∀ vs H Q E, sp vs H Q E → vs.length = ps.length
  go : ∀ (A : Around) (o : List Env) (t : Shared) (H : Hp) (as : Args) (us : List Value) (vs : List V) (Q : VK) (E : XK), A.guards = some [] → Room k A → Env0 P w K mg bs A o t H → BindsTo t fd as (ps.zip us) → Vals vs us → sp vs H Q E →
    codeAny (model P w) A (.call (.ref f) as) (CR CX o P w H t Q E) t
section
variable {P' : Program} {w : World} {K : PySem.W.Frag} {mg : Str → Option Value} {bs : Heap} {x qual : Str} {params : Arguments} {bd : List Stmt} {sc : Scope} {dvs : List V} {kws : List (Str × V)} {f : Addr} {fd : FuncData} {N ps : List Str} {k : Nat}
theorem fnG_of {CX : CXT} {sp : Sp} (F : FunD K x qual params bd sc dvs kws f fd) (S : FnScope N ps sc) (ln : ∀ vs H Q E, sp vs H Q E → vs.length = ps.length)
    (hb : ∀ (cdv : Value) (A : Around) (o : List Env) (t : Shared) (H : Hp) (vs : List V) (Q : VK) (E : XK), A.guards = some [] → Room k (A.deeper (envOfC qual sc t.heap.objs.size f cdv)) → sp vs H Q E →
      ∃ T, PSs (cxOf CX P' w K mg bs N qual sc f cdv A o t H E) bd T ∧ T { nx := fun _ H' => Q .non H', rt := Q } (L2.start N vs) H) : FnG P' w K mg bs CX (k + 1) f fd ps sp := by
  obtain ⟨oc, od, dV, kV, doc, pm, an, cdv, ct, sl, rfl, lk, cd, _, _⟩ := F.ex
  refine ⟨ln, fun A o t H as us vs Q E g r e0 bt rv q => ?_⟩
  have l0 := ln _ _ _ _ q
  have k0 : K.In t.heap := e0.mod.kin.keeps fun b u e => (e0.bs b u e).1
  have lim : t.heap.NoLimit := e0.mod.nolimit.keeps fun b u e => (e0.bs b u e).1
  have loc : ∀ y ∈ ps.zip us, sc.names.lookup y.1 = some .local ∨ (sc.names.lookup y.1 = some .cell ∧ ((cellsFrom (t.heap.objs.size + 1) sc.names []).lookup y.1).isSome = true) := fun ⟨n, v⟩ hy =>
    (S.par n (List.of_mem_zip hy).1).elim .inl fun z => .inr ⟨z, PySem.W.cellsFrom_some _ _ _ (.inl z)⟩
  refine codeAny_call_function r.depth (k0 _ _ lk) rfl S.co S.gen rfl (PySem.W.codeRec_of k0 cd) (bt _ _ _ _ (wpAny_newFunctionEnv_cells S.kind loc fun env he t1 nx => ?_))
  subst he
  refine ⟨lim.keeps nx.toInCall.keep, codeAny_func ?_⟩
  obtain ⟨T, pT, qT⟩ := hb cdv A o t H vs Q E g (r.deeper _) q
  have I0 : Inv (cxOf CX P' w K mg bs N qual sc f cdv A o t H E) [] (L2.start N vs) H t1 := inv_start S r.hd e0 l0 rv nx
  have ok : ∀ {σ' : L2.St} {H' : Hp} {t' : Shared} {v : V} {u : Value}, Inv (cxOf CX P' w K mg bs N qual sc f cdv A o t H E) [] σ' H' t' → RelV v u → Q v H' → CE o P' w H t Q u t' := fun {σ' H' t' v u} J ru z => ⟨v, H', J.os, J.bare, J.base, J.hok, ru, z⟩
  refine wpAny_mono (pT.run [] t1 (L2.start N vs) H _ I0 qT) (fun fl t' z => ?_) fun e t' z => z
  cases fl with
  | ret u => exact (fun ⟨v, σ', H', J, ru, z⟩ => ok J ru z) z
  | next =>
    obtain ⟨σ', H', J, z⟩ := z
    exact ok (v := .non) J rfl z
  | brk => exact False.elim z.choose_spec.choose_spec.2
  | cont => exact False.elim z.choose_spec.choose_spec.2
/-- a law's def -/
theorem fnDG {P : Par} {body : MS} (F : FunD K x qual params bd sc dvs kws f fd) (S : FnScope N ps sc)
    (hb : ∀ (cdv : Value) (A : Around) (o : List Env) (t : Shared) (H : Hp) (E : XK), A.guards = some [] → Room k (A.deeper (envOfC qual sc t.heap.objs.size f cdv)) →
      PSs (cxOf (L2.CX P' w) P' w K mg bs N qual sc f cdv A o t H E) bd (tS P E body)) : FnG P' w K mg bs (L2.CX P' w) (k + 1) f fd ps (spM P ps.length (runF N.length ps.length body)) := by
  refine fnG_of F S (fun vs H Q E h => h.1) fun cdv A o t H vs Q E g hr h => ⟨tS P E body, hb cdv A o t H E g hr, ?_⟩
  obtain ⟨hl, ρ, W, us, hp, ru, rh, po⟩ := h
  refine ⟨ρ, ⟨W, none⟩, W, startU N.length us, hp, start_ok ru N, rh, ?_⟩
  unfold runF at po
  split at po
  · cases e : body (startU N.length us) hp with
    | nx σ1 h1 => rw [e] at po; exact fun ρ' W' H' σ x rs rh' => po ρ' H' .non x.toE' (rh'.weak rs.sub) .non
    | rt u h1 => rw [e] at po; exact fun ρ' W' H' v x w rh' ru' => po ρ' H' v x.toE' (rh'.weak w) (ru'.weak w)
    | exc u h1 => rw [e] at po; exact fun ρ' W' H' c d x w rh' rx => po ρ' H' c d x.toE' (rh'.weak w) (rx.weak w)
    | ct σ1 h1 => rw [e] at po; exact po.elim
    | bk σ1 h1 => rw [e] at po; exact po.elim
    | bad => rw [e] at po; exact po.elim
  · exact po.elim
theorem lawG_call {mb : Str → Option Value} {CX : CXT} {a : Addr} {z : Str} {sp : Sp} {t : Shared} {vs : List Value} {ns : List Int}
    (kx : K.In t.heap) (g0 : t.heap.Ns mainGlobals mg) (b0 : t.heap.Ns builtinsNs mb) (b1 : ∀ x : Str, x ≠ "__name__" → mb x = bootBuiltins x) (li : t.heap.NoLimit) (gn : t.gens = #[])
    (la : t.heap.get? a = some { cls := .type "list", data := .seq vs.toArray }) (ia : IntsAre vs ns) (hl : ns.length ≤ sizeLine) (hr : Room k callerA)
    (F : ∀ bs : Heap, K.In bs → bs.Ns mainGlobals mg → FnG P' w K mg bs CX k f fd [z] sp) (bt : ∀ (s : Shared) (u : Value), BindsTo s fd ⟨[u], []⟩ [(z, u)])
    (hs : ∀ H : Hp, Only H → SqL K H a (ns.map V.int) → sp [.ref a] H (fun v _ => v = .bl true) fun _ _ _ => False) (hc : ∀ H e s', CX [] H t (fun _ _ _ => False) e s' → False) :
    codeAny (model P' w) callerA (.call (.ref f) ⟨[.ref a], []⟩) (fun r s' => r = .ok (.ret (.bool true)) ∧ OldK t.heap s'.heap ∧ s'.os = t.os ∧ AllBare s'.gens) t := by
  have lv := ia.length
  have key : ∀ H : Hp, Only H → SqL K H a (ns.map V.int) → HOk P' w H t.heap → (∀ b, H b ≠ none → b = a) → (H a ≠ none → K.lookup a = none) →
      codeAny (model P' w) callerA (.call (.ref f) ⟨[.ref a], []⟩) (fun r s' => r = .ok (.ret (.bool true)) ∧ OldK t.heap s'.heap ∧ s'.os = t.os ∧ AllBare s'.gens) t := by
    intro H o1 o2 o3 o4 o5
    have isA : ∀ {b : Addr} {u : HO}, H b = some u → b = a := fun {b u} q => o4 b (by rw [q]; exact Option.some_ne_none _)
    have nA : ∀ {b : Addr} {o : Obj} {es : Array DictEntry} {ep : Nat}, t.heap.get? b = some o → o.data = .dict es ep → H b = none := fun {b o es ep} e d => by
      cases q : H b with
      | none => rfl
      | some u =>
        rw [isA q, la] at e
        cases e
        exact absurd d (by intro y; cases y)
    have nsK : ∀ {b : Addr} {m : Str → Option Value}, t.heap.Ns b m → (hidT t.heap H).Ns b m := fun {b m} ⟨o, es, ep, e, d, r⟩ => ⟨o, es, ep, hidT_get e (nA e d), d, r⟩
    have kK : K.In (hidT t.heap H) := fun b o e => hidT_get (kx b o e) (by
      cases q : H b with
      | none => rfl
      | some u =>
        have hb := isA q
        subst hb
        rw [o5 (by rw [q]; exact Option.some_ne_none _)] at e
        cases e)
    have md : Mod K mg (hidT t.heap H) := ⟨kK, nsK g0, ⟨mb, nsK b0, b1⟩, (fun ⟨mc, h1, h2⟩ => ⟨mc, nsK h1, h2⟩) li⟩
    have e0 : Env0 P' w K mg (hidT t.heap H) callerA [] t H := ⟨rfl, md, fun b o e => of_hidT e, Nat.le_of_eq (hidT_size _ _), trivial, fun b hb => absurd (show b ∈ ([] : List Addr) from hb) List.not_mem_nil, o3, .of_eq gn⟩
    refine codeAny_mono ((F _ kK (nsK g0)).go callerA [] t H ⟨[.ref a], []⟩ [.ref a] [.ref a] _ _ rfl hr e0 (bt t (.ref a)) (.cons rfl .nil) (hs H o1 o2)) fun r s' h => ?_
    cases r with
    | error e => exact (hc H e s' h).elim
    | ok fl =>
      cases fl with
      | next => exact False.elim h
      | brk => exact False.elim h
      | cont => exact False.elim h
      | ret u =>
        obtain ⟨v, H', os, br, un, ok', r', q⟩ := h
        cases (show v = .bl true from q)
        cases (show u = Value.bool true from r')
        refine ⟨rfl, OldK.of_keep fun b o e => ?_, os, br⟩
        cases q : H b with
        | none => exact un.keep b o e q (fun z => absurd (show b ∈ ([] : List Addr) from z) List.not_mem_nil) (by simp)
        | some u =>
          rcases o1 b with z | ⟨ob, xs, z⟩
          · rw [q] at z; cases z
          · obtain ⟨e1, _⟩ := o3 b _ z
            obtain ⟨e2, _⟩ := ok' b _ (un.frzs b ob _ z)
            rw [e] at e1
            cases e1
            exact e2
  have rv := vals_ints ia
  cases hk : K.lookup a with
  | some o =>
    have e := kx a o hk
    rw [la] at e
    cases e
    exact key (fun _ => none) (fun _ => .inl rfl) (.inr ⟨_, vs.toArray, _, hk, rfl, rfl, rfl, by rw [List.size_toArray, lv]; exact hl, by simpa using rv⟩) (fun b u z => nomatch (show (none : Option HO) = some u from z)) (fun b z => absurd rfl z) fun z => absurd rfl z
  | none =>
    have c1 : ∀ b, b = a → (if b = a then some (HO.frz { cls := .type "list", data := .seq vs.toArray } (.lst (ns.map V.int))) else none) = some (HO.frz { cls := .type "list", data := .seq vs.toArray } (.lst (ns.map V.int))) := fun b h => if_pos h
    have c2 : ∀ b, ¬ b = a → (if b = a then some (HO.frz { cls := .type "list", data := .seq vs.toArray } (.lst (ns.map V.int))) else none) = none := fun b h => if_neg h
    refine key (fun b => if b = a then some (.frz { cls := .type "list", data := .seq vs.toArray } (.lst (ns.map V.int))) else none) (fun b => ?_) (.inl (.inr ⟨_, c1 a rfl⟩)) (fun b u z => ?_) (fun b z => ?_) fun _ => hk
    · exact (Classical.em (b = a)).elim (fun h => .inr ⟨_, _, c1 b h⟩) fun h => .inl (c2 b h)
    · by_cases hb : b = a
      · have q := (c1 b hb).symm.trans z
        cases q
        subst hb
        exact ⟨la, by rw [List.length_map]; exact hl, vs, _, rv, la⟩
      · exact nomatch (c2 b hb).symm.trans z
    · exact Classical.byContradiction fun hb => z (c2 b hb)
end
theorem walk_MG {l : PySem.W.OpenLaw} {q : Program} {ls : List Str} {A : (Str → Option Value) → Heap → Prop} {B : World → Heap → Prop} {d : DefRec} {z : Str} {n k : Nat} (h1 : l.most = some n) (h2 : n ≤ sizeLine) (h3 : d.params.defaults = []) (h4 : Room k callerA)
    (h5 : ∀ (u : World) (mg : Str → Option Value) (f : Addr) (hp : Heap), B u hp → hp.Ns mainGlobals mg → mg d.name = some (.ref f) → ∃ (K : PySem.W.Frag) (fd : FuncData) (sp : Sp), K.In hp ∧ (∀ (t : Shared) (y : Value), BindsTo t fd ⟨[y], []⟩ [(z, y)]) ∧
      (∀ (H : Hp) (b : Addr) (is : List Int), is.length ≤ n → (∀ i ∈ is, Builtin.Int.intBits i ≤ 1048576) → Only H → SqL K H b (is.map V.int) → sp [.ref b] H (fun v _ => v = .bl true) fun _ _ _ => False) ∧
      ∀ bs : Heap, K.In bs → bs.Ns mainGlobals mg → FnG l.prog u K mg bs (L2.CX l.prog u) k f fd [z] sp) :
    PySem.W.WalkO q ls A B l.row.toRowW d [] (fun f ys => PySem.call f ys) := by
  refine Att.attach_callB h1 h3 fun u t0 t1 mg mb f o pm cd dc b ys is G Y a1 a2 a3 a4 a5 a6 a7 a8 a9 => ?_
  obtain ⟨K, fd, sp, x1, x2, x3, x4⟩ := h5 u mg f _ Y G.T.g a4
  exact lawG_call x1 G.T.g G.T.b G.T.builtins G.T.nolimit a9 a5 a6 (Nat.le_trans a7 h2) h4 x4 x2 (fun H y1 y2 => x3 H b is a7 a8 y1 y2) fun H e t' ⟨_, _, _, _, _, _, _, _, _, _, _, _, y⟩ => y
end M7
end

noncomputable section
namespace M7
open PySem PySem.Spec PyProof.Rows L2
section
variable {P : Par} {ρ ρ1 ρ' ρ'' : List Addr} {W W' W'' : WS} {W0 : FW} {H H1 H' H'' : Hp} {hp hp' : HP} {E : XK} {Q : VK} {X : Cx}
/-! ### repr of a list or a tuple, where nothing is being shown -/
def isSq : U → Bool
  | .lst _ => true
  | .lsx _ => true
  | .tup _ => true
  | _ => false
def gReprD : HP → U → Option U := fun h u => match isSq u with
  | true => match toPy deep h u with
    | some d => if (d.showable && !d.hasDict && Nat.ble d.depth 60 && Nat.ble d.shown.length 16777216) = true then some (.str d.shown.cps.toList) else none
    | none => none
  | false => none
theorem isSq_ref {u : U} {v : V} (r : RU P ρ W H u v) (h : isSq u = true) : ∃ a, v = .ref a := by
  cases r <;> first | exact ⟨_, rfl⟩ | cases h
theorem cr_reprD (hK : X.K = P.K) (hg : X.A.guards = some []) (hu : X.A.units + 64 < cLine) : CallR X (.builtin "repr") (cOf P (g1 gReprD)) := by
  intro pins s σ H xs us Q I rv ⟨ρ, W, hp, ls, c, rh, rs, e, k⟩
  obtain ⟨u, v, rfl, ru, e⟩ := g1_ok rs e
  unfold gReprD at e
  split at e
  · rename_i hq
    split at e
    · rename_i d ed
      split at e
      · rename_i hf
        cases e
        simp only [Bool.and_eq_true] at hf
        obtain ⟨⟨⟨h1, h2⟩, h3⟩, h4⟩ := hf
        obtain ⟨a, rfl⟩ := isSq_ref ru hq
        cases rv with
        | @cons _ u0 _ _ r0 t0 =>
          cases t0
          have dp := toPy_ok rh _ ru ed
          rw [← hK] at dp
          obtain ⟨as, rd⟩ := Dp.reads I d _ _ dp r0
          cases (show u0 = Value.ref a from r0)
          refine repr_of_reads' rd h1 (fun z => by rw [z] at h2; cases h2) hg (by have := Nat.le_of_ble_eq_true h3; omega) (fun _ _ z => z) (fun h' tu tk kp => ?_) (fits_le h4)
          have z := k.now rh (.str d.shown.cps.toList)
          have e2 : (⟨d.shown.cps.toList.toArray⟩ : Str) = d.shown := by
            cases hd : d.shown with
            | mk cps => simp
          rw [e2] at z
          exact ⟨.str d.shown, H, I.kept kp, ⟨tu, rfl⟩, z⟩
      · cases e
    · cases e
  · cases e
end
def gReprI : HP → U → Option U := fun _ u => match u with
  | .int i => if Nat.ble i.natAbs 1000000000000000000 = true then some (.str (strI i)) else none
  | _ => none
theorem cr_reprI {P : Par} {X : Cx} : CallR X (.builtin "repr") (cOf P (g1 gReprI)) := by
  intro pins s σ H xs us Q I rv ⟨ρ, W, hp, ls, c, rh, rs, e, k⟩
  obtain ⟨u, v, rfl, ru, e⟩ := g1_ok rs e
  unfold gReprI at e
  split at e
  · split at e
    · rename_i i hf
      cases e
      cases ru
      refine SkE.call_repr_int pins s σ H _ us Q I rv ⟨i, rfl, log2_small (Nat.le_of_ble_eq_true hf), ?_⟩
      have z := k.now rh (.str (strI i))
      rw [← strI_ok] at z
      exact z
    · cases e
  · cases e
/-- repr of a bool or an int -/
def gReprS : GA := gaOr (g1 gReprB) (g1 gReprI)
theorem cr_reprS {P : Par} {X : Cx} : CallR X (.builtin "repr") (cOf P gReprS) := callOr cr_reprB cr_reprI
/-- the M-reading of repr, of a bool or an int, or (in the law's own def) of lists and tuples -/
def gReprA : GA := gaOr gReprS (g1 gReprD)
theorem cr_reprA {P : Par} {X : Cx} (hK : X.K = P.K) (hg : X.A.guards = some []) (hu : X.A.units + 64 < cLine) : CallR X (.builtin "repr") (cOf P gReprA) := callOr cr_reprS (cr_reprD hK hg hu)
end M7
end

noncomputable section
/-! ### the source of draws that the laws share -/
namespace M7
open PySem PySem.Spec PyProof.Rows L2
def b_dbox : MS := sSeq (sSet 3 (eBin gAddAny (eBin gAddAny (eBin gMulE (eC (.int 8699)) (eVar 1)) (eBin gMulE (eC (.int 104779)) (eVar 2))) (eC (.int 73))))
  (sSeq (sIf (tBl (eBin gLt (eVar 1) (eCallB (gLenA) (aCons (eVar 0) (aNil))))) (sSet 3 (eCallB (g1 gAbs) (aCons (eIxA (eVar 0) (eVar 1)) (aNil)))) (sIf (tBl (eBin gGt (eCallB (gLenA) (aCons (eVar 0) (aNil))) (eC (.int 0)))) (sSet 3 (eBin gAddAny (eVar 3) (eBin gMulE (eBin gModI (eCallB (g1 gInt) (aCons (eCallB (g1 gAbs) (aCons (eIxA (eVar 0) (eBin gModI (eCallB (g1 gInt) (aCons (eVar 1) (aNil))) (eCallB (gLenA) (aCons (eVar 0) (aNil))))) (aNil))) (aNil))) (eC (.int 2147483629))) (eC (.int 69767))))) (sSkip)))
  (sSeq (sSet 4 (eBin gAddAny (eBin gModI (eCallB (g1 gInt) (aCons (eBin gAddAny (eBin gMulE (eBin gModI (eCallB (g1 gInt) (aCons (eVar 3) (aNil))) (eC (.int 2147483629))) (eC (.int 48271))) (eBin gMulE (eC (.int 40692)) (eBin gAddAny (eVar 1) (eBin gMulE (eC (.int 11)) (eVar 2))))) (aNil))) (eC (.int 2147483629))) (eC (.int 1))))
  (sRet (eHp (cLst (aCons (eIxA (eLst (aCons (eC (.int 0)) (aCons (eVar 3) (aNil)))) (eCallB (g1 gInt) (aCons (eBin gGe (eVar 3) (eBin gPow (eC (.int 10)) (eC (.int 18)))) (aNil)))) (aCons (eVar 4) (aCons (eC (.int 0)) (aNil)))))))))
def f_dbox : FM := runF 5 3 b_dbox
def b_dtake : MS := sSeq (sIf (tBl (eBin gGt (eIxA (eVar 0) (eC (.int 0))) (eC (.int 0)))) (sSeq (sSet 2 (eBin gModI (eCallB (g1 gInt) (aCons (eIxA (eVar 0) (eC (.int 0))) (aNil))) (eVar 1)))
  (sSeq (sAsg (eBin gFdiv (eIxA (eVar 0) (eC (.int 0))) (eVar 1)) (tgSub (eVar 0) (eC (.int 0))))
  (sRet (eVar 2)))) (sSkip))
  (sSeq (sAsg (eBin gAddAny (eIxA (eVar 0) (eC (.int 2))) (eC (.int 1))) (tgSub (eVar 0) (eC (.int 2))))
  (sSeq (sSet 3 (eBin gModI (eCallB (g1 gInt) (aCons (eBin gMulE (eBin gAddAny (eIxA (eVar 0) (eC (.int 1))) (eBin gMulE (eC (.int 104729)) (eIxA (eVar 0) (eC (.int 2))))) (eC (.int 69767))) (aNil))) (eC (.int 2147483647))))
  (sSeq (sAsg (eBin gAddAny (eBin gModI (eCallB (g1 gInt) (aCons (eBin gAddAny (eBin gMulE (eVar 3) (eC (.int 48271))) (eC (.int 30103))) (aNil))) (eC (.int 2147483629))) (eC (.int 1))) (tgSub (eVar 0) (eC (.int 1))))
  (sSeq (sIf (tBl (eBin gLt (eVar 1) (eBin gPow (eC (.int 2)) (eC (.int 40))))) (sRet (eBin gModI (eCallB (g1 gInt) (aCons (eBin gFdiv (eBin gAddAny (eBin gMulE (eVar 3) (eC (.int 2147483647))) (eIxA (eVar 0) (eC (.int 1)))) (eC (.int 8191))) (aNil))) (eVar 1))) (sSkip))
  (sSeq (sSet 4 (eBin gMulE (eBin gAddAny (eBin gMulE (eVar 3) (eC (.int 2147483647))) (eIxA (eVar 0) (eC (.int 1)))) (eBin gPow (eC (.int 2147483629)) (eC (.int 3)))))
  (sRet (eBin gModI (eCallB (g1 gInt) (aCons (eBin gAddAny (eBin gAddAny (eVar 4) (eBin gMulE (eBin gPow (eIxA (eVar 0) (eC (.int 1))) (eC (.int 3))) (eC (.int 8191)))) (eVar 3)) (aNil))) (eVar 1))))))))
def f_dtake : FM := runF 5 2 b_dtake
def b_dpick : MS := sRet (eIxA (eVar 1) (eCall 2 f_dtake [] (aCons (eVar 0) (aCons (eCallB (gLenA) (aCons (eVar 1) (aNil))) (aNil)))))
def f_dpick : FM := runF 2 2 b_dpick
/-- the other cells of the heap stay -/
structure Kept (n : Nat) (h h' : HP) : Prop where
  nn : h'.n = h.n
  mm : ∀ j, j ≠ n → h'.m j = h.m j
theorem Kept.refl {n : Nat} {h : HP} : Kept n h h := ⟨rfl, fun _ _ => rfl⟩
theorem Kept.set {n : Nat} {h h' : HP} {o : O} (k : Kept n h h') : Kept n h (h'.set n o) := ⟨k.nn, fun j hj => (hset_ne hj).trans (k.mm j hj)⟩
theorem Kept.trans {n : Nat} {h h' h2 : HP} (k : Kept n h h') (k2 : Kept n h' h2) : Kept n h h2 := ⟨k2.nn.trans k.nn, fun j hj => (k2.mm j hj).trans (k.mm j hj)⟩
theorem lt_ok {h : HP} {i j : Int} : gLt h (.int i) (.int j) = some (.bl (decide (i < j))) := rfl
theorem gt_ok {h : HP} {i j : Int} : gGt h (.int i) (.int j) = some (.bl (decide (j < i))) := rfl
theorem dtake_1 {h : HP} {n : Nat} {a b c m : Int} (hb : h.m n = some (.lst [.int a, .int b, .int c])) (ha : 0 < a) (hm : 0 < m) (hm2 : m.natAbs.log2 < 9000) :
    f_dtake [.ref n, .int m] h = .ok (.int (a % m)) (h.set n (.lst [.int (a / m), .int b, .int c])) := by
  refine rf_rt rfl (st_seqR (st_ifT (h1 := h) (tt_bl ?_) ?_))
  · refine ev_bin (r := .bl true) (ev_ix (ev_var rfl) ev_c (gIx_ref hb rfl)) ev_c ?_
    rw [gt_ok, decide_eq_true ha]
  · refine st_seq (st_set (ev_bin (ev_callB (ea_cons (ev_ix (ev_var rfl) ev_c (gIx_ref hb rfl)) ea_nil) rfl) (ev_var rfl) (gMod_ok hm))) ?_
    refine st_seq (st_asg (ev_bin (ev_ix (ev_var rfl) ev_c (gIx_ref hb rfl)) (ev_var rfl) (gFdiv_ok hm hm2)) (tg_sub (ev_var rfl) ev_c hb rfl)) ?_
    exact st_ret (ev_var rfl)
def draw (b c : Int) : Int := (b + 104729 * (c + 1)) * 69767 % 2147483647
def dnxt (b c : Int) : Int := (draw b c * 48271 + 30103) % 2147483629 + 1
def dval (b c m : Int) : Int := (draw b c * 2147483647 + dnxt b c) / 8191 % m
theorem draw_ok (b c : Int) : 0 ≤ draw b c ∧ draw b c < 2147483647 := by unfold draw; omega
theorem dnxt_ok (b c : Int) : 1 ≤ dnxt b c ∧ dnxt b c < 2147483631 := by unfold dnxt; omega
theorem pow240 {h : HP} : gPow h (.int 2) (.int 40) = some (.int 1099511627776) := by kernel_rfl
theorem dtake_0 {h : HP} {n : Nat} {a b c m : Int} (hb : h.m n = some (.lst [.int a, .int b, .int c])) (ha : ¬ 0 < a) (hb0 : 0 ≤ b ∧ b < 2 ^ 40) (hc0 : 0 ≤ c ∧ c < 10000000) (hm : 0 < m) (hm1 : m < 1099511627776) :
    f_dtake [.ref n, .int m] h = .ok (.int (dval b c m)) ((h.set n (.lst [.int a, .int b, .int (c + 1)])).set n (.lst [.int a, .int (dnxt b c), .int (c + 1)])) := by
  have r0 := draw_ok b c
  have n0 := dnxt_ok b c
  refine rf_rt rfl (st_seq (h1 := h) (σ1 := startU 5 [.ref n, .int m]) (st_ifF (h1 := h) (tt_bl ?_) rfl) ?_)
  · refine ev_bin (r := .bl false) (ev_ix (ev_var rfl) ev_c (gIx_ref hb rfl)) ev_c ?_
    rw [gt_ok, decide_eq_false ha]
  · refine st_seq (st_asg (ev_bin (ev_ix (ev_var rfl) ev_c (gIx_ref hb rfl)) ev_c gAdd_ok) (tg_sub (ev_var rfl) ev_c hb rfl)) ?_
    refine st_seq (st_set (x := .int (draw b c)) (ev_bin (ev_callB (ea_cons (ev_bin (ev_bin (ev_ix (ev_var rfl) ev_c (gIx_ref hset_m rfl)) (ev_bin ev_c (ev_ix (ev_var rfl) ev_c (gIx_ref hset_m rfl)) (mulE_small (by decide) (by omega))) gAdd_ok) ev_c (mulE_small (by omega) (by decide))) ea_nil) rfl) ev_c (gMod_ok (by decide)))) ?_
    refine st_seq (st_asg (x := .int (dnxt b c)) (ev_bin (ev_bin (ev_callB (ea_cons (ev_bin (ev_bin (ev_var rfl) ev_c (mulE_small (by omega) (by decide))) ev_c gAdd_ok) ea_nil) rfl) ev_c (gMod_ok (by decide))) ev_c gAdd_ok) (tg_sub (ev_var rfl) ev_c hset_m rfl)) ?_
    refine st_seqR (st_ifT (h1 := (h.set n (.lst [.int a, .int b, .int (c + 1)])).set n (.lst [.int a, .int (dnxt b c), .int (c + 1)])) (tt_bl ?_) ?_)
    · refine ev_bin (r := .bl true) (ev_var rfl) (ev_bin ev_c ev_c pow240) ?_
      rw [lt_ok, decide_eq_true hm1]
    · exact st_ret (ev_bin (ev_callB (ea_cons (ev_bin (ev_bin (ev_bin (ev_var rfl) ev_c (mulE_small (by omega) (by decide))) (ev_ix (ev_var rfl) ev_c (gIx_ref hset_m rfl)) gAdd_ok) ev_c (gFdiv_ok (by decide) (by decide))) ea_nil) rfl) (ev_var rfl) (gMod_ok hm))
theorem ev_hp {σ : SS} {h h1 : HP} {ma : MA} {us : List U} (e1 : ma σ h = .ok us h1) : eHp ma σ h = .ok (.ref h1.n) (h1.new (.lst us)) := by
  unfold eHp
  rw [e1]
  rfl
theorem ea_lst {σ : SS} {h h1 : HP} {ma : MA} {us : List U} (e1 : ma σ h = .ok us h1) (e2 : fits us.length = true) : cLst ma σ h = .ok us h1 := by
  unfold cLst
  rw [e1]
  dsimp only
  rw [if_pos e2]
theorem len_scr {h : HP} (ns : List Int) : gLenA h [scrU ns] = some (.int ns.length) := by
  have : g1 gLen h [scrU ns] = some (.int ns.length) := by
    show some (U.int ((ns.map U.int).length : Int)) = _
    rw [List.length_map]
  show gaOr (g1 gLen) (g1 gLenD) h [scrU ns] = _
  unfold gaOr
  rw [this]
theorem gIx_lsx {h : HP} {xs : List U} {i : Int} {r : U} (e2 : atU xs i = some r) : gIxA h (.lsx xs) (.int i) = some r := by
  have : gIx h (.lsx xs) (.int i) = some r := e2
  unfold gIxA gOr
  rw [this]
theorem at_scr {h : HP} {ns : List Int} {k : Int} (h0 : 0 ≤ k) (h1 : k < ns.length) : ∃ z : Int, gIxA h (scrU ns) (.int k) = some (.int z) := by
  have hk : k.toNat < ns.length := by omega
  refine ⟨ns[k.toNat], gIx_lsx ?_⟩
  unfold atU atI ixN
  rw [if_pos h0, List.length_map, if_pos h1]
  show (ns.map U.int)[k.toNat]? = _
  rw [List.getElem?_map, List.getElem?_eq_getElem hk]
  rfl
theorem dbox_ok {h : HP} (ns : List Int) (k own : Int) (h0 : 0 ≤ k) (hk : k < 100) (o0 : 0 ≤ own) (ok : own < 1000) : ∃ a b : Int, f_dbox [scrU ns, .int k, .int own] h = .ok (.ref h.n) (h.new (.lst [.int a, .int b, .int 0])) ∧ 0 ≤ a ∧ 0 ≤ b ∧ b < 2 ^ 40 := by
  have mid : ∃ G : Int, sIf (tBl (eBin gLt (eVar 1) (eCallB (gLenA) (aCons (eVar 0) (aNil))))) (sSet 3 (eCallB (g1 gAbs) (aCons (eIxA (eVar 0) (eVar 1)) (aNil)))) (sIf (tBl (eBin gGt (eCallB (gLenA) (aCons (eVar 0) (aNil))) (eC (.int 0)))) (sSet 3 (eBin gAddAny (eVar 3) (eBin gMulE (eBin gModI (eCallB (g1 gInt) (aCons (eCallB (g1 gAbs) (aCons (eIxA (eVar 0) (eBin gModI (eCallB (g1 gInt) (aCons (eVar 1) (aNil))) (eCallB (gLenA) (aCons (eVar 0) (aNil))))) (aNil))) (aNil))) (eC (.int 2147483629))) (eC (.int 69767))))) (sSkip)) [.val (scrU ns), .val (.int k), .val (.int own), .val (.int (8699 * k + 104779 * own + 73)), .no] h = .nx [.val (scrU ns), .val (.int k), .val (.int own), .val (.int G), .no] h ∧ 0 ≤ G := by
    by_cases hl : k < ns.length
    · obtain ⟨z, ez⟩ := at_scr (h := h) h0 hl
      refine ⟨if z < 0 then -z else z, st_ifT (h1 := h) (tt_bl ?_) (st_set (ev_callB (ea_cons (ev_ix (ev_var rfl) (ev_var rfl) ez) ea_nil) rfl)), by split <;> omega⟩
      refine ev_bin (r := .bl true) (ev_var rfl) (ev_callB (ea_cons (ev_var rfl) ea_nil) (len_scr ns)) ?_
      rw [lt_ok, decide_eq_true hl]
    · have cF : tBl (eBin gLt (eVar 1) (eCallB (gLenA) (aCons (eVar 0) (aNil)))) [.val (scrU ns), .val (.int k), .val (.int own), .val (.int (8699 * k + 104779 * own + 73)), .no] h = .ok false h := by
        refine tt_bl (ev_bin (r := .bl false) (ev_var rfl) (ev_callB (ea_cons (ev_var rfl) ea_nil) (len_scr ns)) ?_)
        rw [lt_ok, decide_eq_false hl]
      by_cases hp : 0 < ns.length
      · have hp' : (0 : Int) < ns.length := by omega
        have m0 : 0 ≤ k % (ns.length : Int) := Int.emod_nonneg _ (by omega)
        have m1 : k % (ns.length : Int) < ns.length := Int.emod_lt_of_pos _ hp'
        obtain ⟨z, ez⟩ := at_scr (h := h) m0 m1
        refine ⟨8699 * k + 104779 * own + 73 + (if z < 0 then -z else z) % 2147483629 * 69767, st_ifF (h1 := h) cF (st_ifT (h1 := h) (tt_bl ?_) (st_set (ev_bin (ev_var rfl) (ev_bin (ev_bin (ev_callB (ea_cons (ev_callB (ea_cons (ev_ix (ev_var rfl) (ev_bin (ev_callB (ea_cons (ev_var rfl) ea_nil) rfl) (ev_callB (ea_cons (ev_var rfl) ea_nil) (len_scr ns)) (gMod_ok hp')) ez) ea_nil) rfl) ea_nil) rfl) ev_c (gMod_ok (by decide))) ev_c (mulE_small (by omega) (by decide))) gAdd_ok))), by omega⟩
        refine ev_bin (r := .bl true) (ev_callB (ea_cons (ev_var rfl) ea_nil) (len_scr ns)) ev_c ?_
        rw [gt_ok, decide_eq_true hp']
      · have hp' : ¬ (0 : Int) < ns.length := by omega
        refine ⟨8699 * k + 104779 * own + 73, st_ifF (h1 := h) cF (st_ifF (h1 := h) (tt_bl ?_) rfl), by omega⟩
        refine ev_bin (r := .bl false) (ev_callB (ea_cons (ev_var rfl) ea_nil) (len_scr ns)) ev_c ?_
        rw [gt_ok, decide_eq_false hp']
  obtain ⟨G, eG, hG⟩ := mid
  have bnd : 0 ≤ (G % 2147483629 * 48271 + 40692 * (k + 11 * own)) % 2147483629 + 1 ∧ (G % 2147483629 * 48271 + 40692 * (k + 11 * own)) % 2147483629 + 1 < 2 ^ 40 := by omega
  refine ⟨if G ≥ 1000000000000000000 then G else 0, (G % 2147483629 * 48271 + 40692 * (k + 11 * own)) % 2147483629 + 1, ?_, by split <;> omega, bnd.1, bnd.2⟩
  refine rf_rt rfl (st_seq (st_set (ev_bin (ev_bin (ev_bin ev_c (ev_var rfl) (mulE_small (by decide) (by omega))) (ev_bin ev_c (ev_var rfl) (mulE_small (by decide) (by omega))) gAdd_ok) ev_c gAdd_ok)) (st_seq eG ?_))
  refine st_seq (st_set (ev_bin (ev_bin (ev_callB (ea_cons (ev_bin (ev_bin (ev_bin (ev_callB (ea_cons (ev_var rfl) ea_nil) rfl) ev_c (gMod_ok (by decide))) ev_c (mulE_small (by omega) (by decide))) (ev_bin ev_c (ev_bin (ev_var rfl) (ev_bin ev_c (ev_var rfl) (mulE_small (by decide) (by omega))) gAdd_ok) (mulE_small (by decide) (by omega))) gAdd_ok) ea_nil) rfl) ev_c (gMod_ok (by decide))) ev_c gAdd_ok)) ?_
  refine st_ret (ev_hp (ea_lst (ea_cons (x := .int (if G ≥ 1000000000000000000 then G else 0)) (h1 := h) ?_ (ea_cons (ev_var rfl) (ea_cons ev_c ea_nil))) rfl))
  have ge : gGe h (.int G) (.int 1000000000000000000) = some (.bl (decide (1000000000000000000 ≤ G))) := rfl
  have pw : gPow h (.int 10) (.int 18) = some (.int 1000000000000000000) := by kernel_rfl
  refine ev_ix (ev_lst (ea_cons ev_c (ea_cons (ev_var rfl) ea_nil)) rfl) (ev_callB (ea_cons (ev_bin (ev_var rfl) (ev_bin ev_c ev_c pw) ge) ea_nil) rfl) (gIx_lst ?_)
  by_cases hg : 1000000000000000000 ≤ G
  · rw [decide_eq_true hg, if_pos hg]; rfl
  · rw [decide_eq_false hg, if_neg hg]; rfl
/-- a box whose third number is at most c -/
def Box (h : HP) (n : Nat) (K : Int) : Prop := ∃ a b c : Int, h.m n = some (.lst [.int a, .int b, .int c]) ∧ 0 ≤ a ∧ 0 ≤ b ∧ b < 2 ^ 40 ∧ 0 ≤ c ∧ c ≤ K
theorem Box.mono {h : HP} {n : Nat} {K L : Int} (B : Box h n K) (l : K ≤ L) : Box h n L := by
  obtain ⟨a, b, c, h1, h2, h3, h4, h5, h6⟩ := B
  exact ⟨a, b, c, h1, h2, h3, h4, h5, by omega⟩
theorem Box.keep {h h' : HP} {n : Nat} {K : Int} (B : Box h n K) (e : h'.m n = h.m n) : Box h' n K := by
  obtain ⟨a, b, c, h1, h2⟩ := B
  exact ⟨a, b, c, e.trans h1, h2⟩
/-- f draws at most k times from the box at n, and gives what P says -/
def Dr (f : HP → R) (n : Nat) (k : Int) (P : U → Prop) : Prop := ∀ (h : HP) (K : Int), Box h n K → K + k ≤ 9000000 → ∃ u h', f h = .ok u h' ∧ P u ∧ Box h' n (K + k) ∧ Kept n h h'
theorem dtake_ok (n m : Nat) (hm : 0 < m) (hm2 : m < 1000000) : Dr (f_dtake [.ref n, .int m]) n 1 fun u => ∃ r : Nat, r < m ∧ u = .int r := by
  intro h K B hK
  obtain ⟨a, b, c, hb, ha, b0, b1, c0, c1⟩ := B
  have hm' : (0 : Int) < (m : Int) := by omega
  by_cases h0 : 0 < a
  · have hl : ((m : Int)).natAbs.log2 < 9000 := by
      have : (m : Int).natAbs < 2 ^ 200 := by omega
      have := log2_sm this
      omega
    have e0 := Int.emod_nonneg a (show (m : Int) ≠ 0 by omega)
    have e1 := Int.emod_lt_of_pos a hm'
    refine ⟨.int (a % m), h.set n (.lst [.int (a / m), .int b, .int c]), dtake_1 hb h0 hm' hl, ⟨(a % m).toNat, by omega, by rw [Int.toNat_of_nonneg e0]⟩, ⟨a / m, b, c, hset_m, Int.ediv_nonneg ha (by omega), b0, b1, c0, by omega⟩, Kept.refl.set⟩
  · have e0 := Int.emod_nonneg ((draw b c * 2147483647 + dnxt b c) / 8191) (show (m : Int) ≠ 0 by omega)
    have e1 := Int.emod_lt_of_pos ((draw b c * 2147483647 + dnxt b c) / 8191) hm'
    have n0 := dnxt_ok b c
    have d0 : 0 ≤ dval b c m := e0
    have d1 : dval b c m < m := e1
    refine ⟨.int (dval b c m), (h.set n (.lst [.int a, .int b, .int (c + 1)])).set n (.lst [.int a, .int (dnxt b c), .int (c + 1)]), dtake_0 hb h0 ⟨b0, b1⟩ ⟨c0, by omega⟩ hm' (by omega), ⟨(dval b c m).toNat, by omega, by rw [Int.toNat_of_nonneg d0]⟩, ⟨a, dnxt b c, c + 1, hset_m, ha, by omega, by omega, by omega, by omega⟩, Kept.refl.set.set⟩
theorem at_lst {h : HP} {us : List U} {r : Nat} {u : U} (e : us[r]? = some u) : gIxA h (.lst us) (.int r) = some u := by
  have hr := (List.getElem?_eq_some_iff.mp e).1
  refine gIx_lst ?_
  unfold atU atI ixN
  rw [if_pos (by omega), if_pos (by omega)]
  show us[(r : Int).toNat]? = _
  rw [Int.toNat_natCast, e]
/-- one of a written list -/
theorem dpick_ok (n : Nat) {us : List U} (h0 : 0 < us.length) (h1 : us.length < 1000000) : Dr (f_dpick [.ref n, .lst us]) n 1 fun u => u ∈ us := by
  intro h K B hK
  obtain ⟨u, h', et, ⟨r, hr, rfl⟩, B', k'⟩ := dtake_ok n us.length h0 h1 h K B hK
  have hl : gLenA h [.lst us] = some (.int us.length) := rfl
  refine ⟨us[r], h', ?_, List.getElem_mem hr, B', k'⟩
  exact rf_rt rfl (st_ret (ev_ix (ev_var rfl) (ev_call (ea_cons (ev_var rfl) (ea_cons (ev_callB (ea_cons (ev_var rfl) ea_nil) hl) ea_nil)) rfl et) (at_lst (List.getElem?_eq_getElem hr))))
end M7
end

noncomputable section
/-! ### plain facts of texts and rows of texts -/
namespace M7
open PySem PySem.Spec PyProof.Rows L2
abbrev T (es : List (List Nat)) : List U := es.map U.str
abbrev pS (x : List Nat) : PyData := .str ⟨x.toArray⟩
abbrev pT (es : List (List Nat)) : List PyData := es.map pS
/-- signs within the line -/
def okS (e : List Nat) : Prop := ∀ c ∈ e, c < 0x110000
theorem toPys_T {h : HP} : ∀ (a : List (List Nat)) (n : Nat), a.length + 2 ≤ n → toPys n h (T a) = some (pT a)
  | [], n + 1, _ => rfl
  | x :: r, n + 1, hn => by
    have hn' : r.length + 2 ≤ n := by simpa using hn
    have e1 : toPy n h (.str x) = some (pS x) := by
      cases n with
      | zero => omega
      | succ n => rfl
    have e2 := toPys_T (h := h) r n hn'
    show (match toPy n h (.str x), toPys n h (T r) with
      | some d, some ds => some (d :: ds)
      | _, _ => none) = _
    rw [e1, e2]
    rfl
theorem str_beq (x y : List Nat) : ((⟨x.toArray⟩ : Str) == ⟨y.toArray⟩) = decide (x = y) := by
  rw [Bool.eq_iff_iff]
  simp
theorem eqvAll_T : ∀ a b : List (List Nat), PyData.eqvAll (pT a) (pT b) = decide (a = b)
  | [], [] => by simp [PyData.eqvAll]
  | [], y :: b => by simp [PyData.eqvAll]
  | x :: a, [] => by simp [PyData.eqvAll]
  | x :: a, y :: b => by
    show (PyData.eqv (pS x) (pS y) && PyData.eqvAll (pT a) (pT b)) = _
    rw [eqvAll_T a b]
    show (((⟨x.toArray⟩ : Str) == ⟨y.toArray⟩) && _) = _
    rw [str_beq, Bool.eq_iff_iff]
    simp
theorem strOk_of {e : List Nat} (h : okS e) : PyData.strOk ⟨e.toArray⟩ = true := by
  unfold PyData.strOk
  simp only [List.all_toArray, List.all_eq_true, decide_eq_true_eq]
  exact h
theorem canLay_T : ∀ a : List (List Nat), (∀ e ∈ a, okS e) → PyData.canLayAll0 (pT a) = true
  | [], _ => by simp [PyData.canLayAll0]
  | x :: a, h => by
    have h1 := strOk_of (h x List.mem_cons_self)
    have h2 := canLay_T a fun e he => h e (List.mem_cons_of_mem _ he)
    show (PyData.canLay0 (pS x) && PyData.canLayAll0 (pT a)) = true
    rw [h2, Bool.and_true]
    show PyData.strOk _ = true
    exact h1
theorem depth_T : ∀ a : List (List Nat), PyData.depthAll (pT a) = 0
  | [] => by simp [PyData.depthAll]
  | x :: a => by
    have := depth_T a
    show max (PyData.depth (pS x)) (PyData.depthAll (pT a)) = 0
    rw [this]
    simp [PyData.depth]
theorem shaped_tT {a : List (List Nat)} (h : ∀ e ∈ a, okS e) : SeqAt.shaped (.tuple (pT a)) = true := by
  have h1 := canLay_T a h
  have h2 := depth_T a
  simp only [SeqAt.shaped, PyData.canLay0, PyData.depth, h1, h2]
  rfl
theorem shaped_lT {a : List (List Nat)} (h : ∀ e ∈ a, okS e) : SeqAt.shaped (.list (pT a)) = true := by
  have h1 := canLay_T a h
  have h2 := depth_T a
  simp only [SeqAt.shaped, PyData.canLay0, PyData.depth, h1, h2]
  rfl
theorem gEqD_of {h : HP} {u w : U} {d e : PyData} {neg : Bool} (h1 : toPy deep h u = some d) (h2 : toPy deep h w = some e) (h3 : SeqAt.shaped d = true) (h4 : SeqAt.shaped e = true) : gEqD neg h u w = some (.bl (if neg then !PyData.eqv d e else PyData.eqv d e)) := by
  unfold gEqD
  rw [h1, h2]
  dsimp only
  rw [h3, h4]
  rfl
theorem gEq_of {h : HP} {u w : U} {d e : PyData} (h0 : scalU u w = none) (h1 : toPy deep h u = some d) (h2 : toPy deep h w = some e) (h3 : SeqAt.shaped d = true) (h4 : SeqAt.shaped e = true) : gEq h u w = some (.bl (PyData.eqv d e)) := by
  have := gEqD_of (neg := false) h1 h2 h3 h4
  unfold gEq gOr gEqS
  rw [h0]
  exact this
theorem gNe_of {h : HP} {u w : U} {d e : PyData} (h0 : scalU u w = none) (h1 : toPy deep h u = some d) (h2 : toPy deep h w = some e) (h3 : SeqAt.shaped d = true) (h4 : SeqAt.shaped e = true) : gNe h u w = some (.bl (!PyData.eqv d e)) := by
  have := gEqD_of (neg := true) h1 h2 h3 h4
  unfold gNe gOr gEqS
  rw [h0]
  exact this
/-- short, its signs within the line -/
def Row (a : List (List Nat)) : Prop := a.length ≤ 2000 ∧ ∀ e ∈ a, okS e
theorem py_tup {h : HP} {a : List (List Nat)} (ha : Row a) : toPy deep h (.tup (T a)) = some (.tuple (pT a)) := by
  show (toPys 2999 h (T a)).map PyData.tuple = _
  rw [toPys_T a 2999 (by have := ha.1; omega)]
  rfl
theorem py_lst {h : HP} {a : List (List Nat)} (ha : Row a) : toPy deep h (.lst (T a)) = some (.list (pT a)) := by
  show (toPys 2999 h (T a)).map PyData.list = _
  rw [toPys_T a 2999 (by have := ha.1; omega)]
  rfl
theorem py_ref {h : HP} {n : Nat} {a : List (List Nat)} (ha : Row a) (e : h.m n = some (.lst (T a))) : toPy deep h (.ref n) = some (.list (pT a)) := by
  show (match lstAt h n with
    | some xs => (toPys 2999 h xs).map PyData.list
    | none => none) = _
  unfold lstAt
  rw [e]
  dsimp only
  rw [toPys_T a 2999 (by have := ha.1; omega)]
  rfl
theorem eqv_tt (a b : List (List Nat)) : PyData.eqv (.tuple (pT a)) (.tuple (pT b)) = decide (a = b) := eqvAll_T a b
theorem eqv_ll (a b : List (List Nat)) : PyData.eqv (.list (pT a)) (.list (pT b)) = decide (a = b) := eqvAll_T a b
theorem eq_tt {h : HP} {a b : List (List Nat)} (ha : Row a) (hb : Row b) : gEq h (.tup (T a)) (.tup (T b)) = some (.bl (decide (a = b))) := by
  rw [gEq_of rfl (py_tup ha) (py_tup hb) (shaped_tT ha.2) (shaped_tT hb.2), eqv_tt]
theorem ne_tt {h : HP} {a b : List (List Nat)} (ha : Row a) (hb : Row b) : gNe h (.tup (T a)) (.tup (T b)) = some (.bl (!decide (a = b))) := by
  rw [gNe_of rfl (py_tup ha) (py_tup hb) (shaped_tT ha.2) (shaped_tT hb.2), eqv_tt]
theorem eq_ll {h : HP} {a b : List (List Nat)} (ha : Row a) (hb : Row b) : gEq h (.lst (T a)) (.lst (T b)) = some (.bl (decide (a = b))) := by
  rw [gEq_of rfl (py_lst ha) (py_lst hb) (shaped_lT ha.2) (shaped_lT hb.2), eqv_ll]
theorem ne_rl {h : HP} {n : Nat} {a b : List (List Nat)} (ha : Row a) (hb : Row b) (e : h.m n = some (.lst (T a))) : gNe h (.ref n) (.lst (T b)) = some (.bl (!decide (a = b))) := by
  rw [gNe_of rfl (py_ref ha e) (py_lst hb) (shaped_lT ha.2) (shaped_lT hb.2), eqv_ll]
theorem eq_sc {h : HP} {u w : U} {k : Bool} (e : scalU u w = some k) : gEq h u w = some (.bl k) := by
  unfold gEq gOr gEqS
  rw [e]
  rfl
theorem ne_sc {h : HP} {u w : U} {k : Bool} (e : scalU u w = some k) : gNe h u w = some (.bl (!k)) := by
  unfold gNe gOr gEqS
  rw [e]
  rfl
theorem sc_ss (x y : List Nat) : scalU (.str x) (.str y) = some (decide (x = y)) := congrArg some (listEq_iff x y)
theorem sc_ii (i j : Int) : scalU (.int i) (.int j) = some (decide (i = j)) := congrArg some (eqZ_eq i j)
theorem eq_ss {h : HP} (x y : List Nat) : gEq h (.str x) (.str y) = some (.bl (decide (x = y))) := eq_sc (sc_ss x y)
theorem ne_ss {h : HP} (x y : List Nat) : gNe h (.str x) (.str y) = some (.bl (!decide (x = y))) := ne_sc (sc_ss x y)
theorem eq_ii {h : HP} (i j : Int) : gEq h (.int i) (.int j) = some (.bl (decide (i = j))) := eq_sc (sc_ii i j)
theorem ne_ii {h : HP} (i j : Int) : gNe h (.int i) (.int j) = some (.bl (!decide (i = j))) := ne_sc (sc_ii i j)

/-! ### join and split -/
theorem strsU_T : ∀ a : List (List Nat), strsU (T a) = some a
  | [] => rfl
  | x :: a => by
    show (strsU (T a)).map _ = _
    rw [strsU_T a]
    rfl
/-- y begins by c, and c is in no part -/
theorem take_ne {c : Nat} {t l : List Nat} (h : ∀ d ∈ l.head?, d ≠ c) : ¬ l.take (c :: t).length = c :: t := fun z => by
  cases l with
  | nil => cases z
  | cons d l =>
    rw [List.length_cons, List.take_succ_cons] at z
    injection z with z1 _
    exact h d rfl z1
theorem split_app {c : Nat} {t : List Nat} : ∀ (e r : List Nat), c ∉ e → splitL (c :: t) (e ++ r) = appHead e (splitL (c :: t) r)
  | [], r, _ => by rw [List.nil_append, appHead_nil]
  | d :: e, r, h => by
    have h1 : d ≠ c := fun z => h (z ▸ List.mem_cons_self)
    have h2 : c ∉ e := fun z => h (List.mem_cons_of_mem _ z)
    rw [List.cons_append, split_miss (take_ne (by simpa using h1)), split_app e r h2, appHead_app]
    rfl
theorem split_go {c : Nat} {t : List Nat} : ∀ es : List (List Nat), (∀ e ∈ es, c ∉ e) → splitL (c :: t) (joinL.go (c :: t) es) = [] :: es
  | [], _ => rfl
  | e :: es, h => by
    have ih := split_go (t := t) es fun x hx => h x (List.mem_cons_of_mem _ hx)
    show splitL (c :: t) (c :: (t ++ (e ++ joinL.go (c :: t) es))) = _
    rw [split_hit (List.cons_ne_nil _ _) (by simp)]
    have : (c :: (t ++ (e ++ joinL.go (c :: t) es))).drop (c :: t).length = e ++ joinL.go (c :: t) es := by simp
    rw [this, split_app e _ (h e List.mem_cons_self), ih]
    show [] :: ([e ++ []] ++ es) = _
    rw [List.append_nil]
    rfl
theorem split_join {c : Nat} {t : List Nat} {es : List (List Nat)} (hn : es ≠ []) (h : ∀ e ∈ es, c ∉ e) : splitL (c :: t) (joinL (c :: t) es) = es := by
  cases es with
  | nil => exact absurd rfl hn
  | cons e es =>
    show splitL (c :: t) (e ++ joinL.go (c :: t) es) = _
    rw [split_app e _ (h e List.mem_cons_self), split_go es fun x hx => h x (List.mem_cons_of_mem _ hx)]
    show (e ++ []) :: es = _
    rw [List.append_nil]
theorem sumLen_le {B : Nat} : ∀ (es : List (List Nat)), (∀ e ∈ es, e.length ≤ B) → sumLen es ≤ B * es.length
  | [], _ => Nat.le_refl _
  | e :: es, h => by
    have h1 := h e List.mem_cons_self
    have h2 := sumLen_le es fun x hx => h x (List.mem_cons_of_mem _ hx)
    show e.length + sumLen es ≤ B * (es.length + 1)
    rw [Nat.mul_add]
    omega
theorem go_len (z : List Nat) : ∀ es : List (List Nat), (joinL.go z es).length = sumLen es + es.length * z.length
  | [] => by simp [joinL.go, sumLen]
  | e :: es => by
    have := go_len z es
    show (z ++ (e ++ joinL.go z es)).length = e.length + sumLen es + (es.length + 1) * z.length
    rw [List.length_append, List.length_append, this, Nat.add_mul]
    omega
theorem join_len (z : List Nat) (es : List (List Nat)) : (joinL z es).length ≤ sumLen es + es.length * z.length := by
  cases es with
  | nil => simp [joinL]
  | cons e es =>
    show (e ++ joinL.go z es).length ≤ e.length + sumLen es + (es.length + 1) * z.length
    rw [List.length_append, go_len, Nat.add_mul]
    omega
/-- a row of texts, whichever way it stands -/
theorem gJoin_of {h : HP} {u : U} {z : List Nat} {es : List (List Nat)} (h1 : asSeq h u = some (T es)) (h2 : sumLen es + es.length * z.length ≤ 16777216) : gJoin h (.str z) [u] = some (.str (joinL z es)) := by
  show (asSeq h u).bind _ = _
  rw [h1]
  show (strsU (T es)).bind _ = _
  rw [strsU_T]
  show (if Nat.ble (sumLen es + es.length * z.length) 16777216 = true then some (U.str (joinL z es)) else none) = _
  rw [if_pos (Nat.ble_eq_true_of_le h2)]
theorem gSplit_of {h : HP} {x y : List Nat} (h1 : sepOk y = true) (h2 : x.length + 2 ≤ 16777216) : gSplit h (.str x) [.str y] = some (.lst (T (splitL y x))) := by
  show (if (sepOk y && Nat.ble (x.length + 2) 16777216) = true then some (U.lst ((splitL y x).map .str)) else none) = _
  rw [h1, Nat.ble_eq_true_of_le h2]
  rfl
theorem join_nil_iff {c : Nat} {t : List Nat} {es : List (List Nat)} (h : ∀ e ∈ es, e ≠ []) : joinL (c :: t) es = [] ↔ es = [] := by
  cases es with
  | nil => simp [joinL]
  | cons e es =>
    refine ⟨fun z => ?_, fun z => by cases z⟩
    have z' : e ++ joinL.go (c :: t) es = [] := z
    exact absurd (List.append_eq_nil_iff.mp z').1 (h e List.mem_cons_self)
end M7
end

noncomputable section
/-! ### draws within comprehensions -/
namespace M7
open PySem PySem.Spec PyProof.Rows L2
theorem Dr.imp {f : HP → R} {n : Nat} {k l : Int} {P Q : U → Prop} (d : Dr f n k P) (hl : k ≤ l) (hq : ∀ u, P u → Q u) : Dr f n l Q := fun h K B hK => by
  obtain ⟨u, h', e, p, b, kk⟩ := d h K B (by omega)
  exact ⟨u, h', e, hq u p, b.mono (by omega), kk⟩
theorem lc_rng {n j M : Nat} {lo : Int} {vs : List Nat} {e : ME} {k : Int} {P : U → Prop} {σ : SS} (hk : 0 ≤ k)
    (he : ∀ i : Nat, i < M → Dr (e (setF (wipeU σ vs) j (.val (.int (lo + (i : Nat)))))) n k P) : ∀ (m i : Nat) (acc : List U) (h : HP) (K : Int), i + m = M → acc.length + m ≤ 1000000 → Box h n K → K + k * m ≤ 9000000 →
      ∃ us h', lcG (gmName j) tTyes (bElt e) vs (srcR lo M) m i (.lst acc) σ h = .ok (.lst (acc ++ us)) h' ∧ us.length = m ∧ (∀ u ∈ us, P u) ∧ Box h' n (K + k * m) ∧ Kept n h h'
  | 0, i, acc, h, K, hm, ha, B, hK => by
    refine ⟨[], h, ?_, rfl, (by intro u z; cases z), B.mono (by omega), Kept.refl⟩
    rw [lcG_eq, List.append_nil]
    have : srcR lo M h i = some none := by
      unfold srcR
      rw [if_neg (by omega)]
    rw [this]
  | m + 1, i, acc, h, K, hm, ha, B, hK => by
    have hkm : k * ((m + 1 : Nat) : Int) = k * (m : Int) + k := by
      rw [Int.natCast_add, Int.mul_add]
      simp
    have hk0 : 0 ≤ k * (m : Int) := Int.mul_nonneg hk (by omega)
    obtain ⟨u, h1, e1, p1, B1, k1⟩ := he i (by omega) h K B (by omega)
    obtain ⟨us, h2, e2, l2, p2, B2, k2⟩ := lc_rng hk he m (i + 1) (acc ++ [u]) h1 (K + k) (by omega) (by rw [List.length_append, List.length_singleton]; omega) B1 (by omega)
    refine ⟨u :: us, h2, ?_, by rw [List.length_cons, l2], fun w hw => ?_, B2.mono (by omega), k1.trans k2⟩
    · rw [lcG_eq]
      have : srcR lo M h i = some (some (.int (lo + (i : Nat)))) := by
        unfold srcR
        rw [if_pos (by omega)]
      rw [this]
      have hb : bElt e (.lst acc) (setF (wipeU σ vs) j (.val (.int (lo + (i : Nat))))) h = .ok (.lst (acc ++ [u])) h1 := by
        unfold bElt
        rw [e1]
        dsimp only
        have hb0 : Nat.blt acc.length 16777216 = true := Nat.ble_eq_true_of_le (by omega)
        rw [if_pos hb0]
      show (match bElt e (.lst acc) (setF (wipeU σ vs) j (.val (.int (lo + (i : Nat))))) h with
        | .ok acc2 h2 => lcG (gmName j) tTyes (bElt e) vs (srcR lo M) m (i + 1) acc2 σ h2
        | _ => .bad) = _
      rw [hb]
      show lcG (gmName j) tTyes (bElt e) vs (srcR lo M) m (i + 1) (.lst (acc ++ [u])) σ h1 = _
      rw [e2, List.append_assoc]
      rfl
    · rcases List.mem_cons.mp hw with z | z
      · rw [z]; exact p1
      · exact p2 w z
/-- some of the items of a written list, by a drawn test -/
def DrT (t : HP → RT) (n : Nat) (k : Int) : Prop := ∀ (h : HP) (K : Int), Box h n K → K + k ≤ 9000000 → ∃ b h', t h = .ok b h' ∧ Box h' n (K + k) ∧ Kept n h h'
theorem lc_sub {n j : Nat} {vs : List Nat} {tt : MT} {k : Int} {σ : SS} {xs : List U} (hk : 0 ≤ k) (hv : ∀ u, nthF (setF (wipeU σ vs) j (.val u)) j = some (.val u))
    (ht : ∀ u ∈ xs, DrT (tt (setF (wipeU σ vs) j (.val u))) n k) : ∀ (m i : Nat) (acc : List U) (h : HP) (K : Int), i + m = xs.length → acc.length + m ≤ 1000000 → Box h n K → K + k * m ≤ 9000000 →
      ∃ us h', lcG (gmName j) tt (bElt (eVar j)) vs (srcL xs) m i (.lst acc) σ h = .ok (.lst (acc ++ us)) h' ∧ us.Sublist (xs.drop i) ∧ Box h' n (K + k * m) ∧ Kept n h h'
  | 0, i, acc, h, K, hm, ha, B, hK => by
    refine ⟨[], h, ?_, List.nil_sublist _, B.mono (by omega), Kept.refl⟩
    rw [lcG_eq, List.append_nil]
    have : srcL xs h i = some none := by
      unfold srcL
      rw [nthF_eq, List.getElem?_eq_none (by omega)]
    rw [this]
  | m + 1, i, acc, h, K, hm, ha, B, hK => by
    have hkm : k * ((m + 1 : Nat) : Int) = k * (m : Int) + k := by
      rw [Int.natCast_add, Int.mul_add]
      simp
    have hk0 : 0 ≤ k * (m : Int) := Int.mul_nonneg hk (by omega)
    have hi : i < xs.length := by omega
    have hd : xs.drop i = xs[i] :: xs.drop (i + 1) := List.drop_eq_getElem_cons hi
    obtain ⟨b, h1, e1, B1, k1⟩ := ht xs[i] (List.getElem_mem hi) h K B (by omega)
    have es : srcL xs h i = some (some xs[i]) := by
      unfold srcL
      rw [nthF_eq, List.getElem?_eq_getElem hi]
    cases b with
    | true =>
      obtain ⟨us, h2, e2, l2, B2, k2⟩ := lc_sub hk hv ht m (i + 1) (acc ++ [xs[i]]) h1 (K + k) (by omega) (by rw [List.length_append, List.length_singleton]; omega) B1 (by omega)
      refine ⟨xs[i] :: us, h2, ?_, by rw [hd]; exact l2.cons₂ _, B2.mono (by omega), k1.trans k2⟩
      rw [lcG_eq, es]
      have hb : bElt (eVar j) (.lst acc) (setF (wipeU σ vs) j (.val xs[i])) h1 = .ok (.lst (acc ++ [xs[i]])) h1 := by
        unfold bElt
        rw [ev_var (hv xs[i])]
        dsimp only
        have hb0 : Nat.blt acc.length 16777216 = true := Nat.ble_eq_true_of_le (by omega)
        rw [if_pos hb0]
      show (match tt (setF (wipeU σ vs) j (.val xs[i])) h with
        | .ok true h1 => match bElt (eVar j) (.lst acc) (setF (wipeU σ vs) j (.val xs[i])) h1 with
          | .ok acc2 h2 => lcG (gmName j) tt (bElt (eVar j)) vs (srcL xs) m (i + 1) acc2 σ h2
          | _ => .bad
        | .ok false h1 => lcG (gmName j) tt (bElt (eVar j)) vs (srcL xs) m (i + 1) (.lst acc) σ h1
        | _ => .bad) = _
      rw [e1]
      dsimp only
      rw [hb]
      dsimp only
      rw [e2, List.append_assoc]
      rfl
    | false =>
      obtain ⟨us, h2, e2, l2, B2, k2⟩ := lc_sub hk hv ht m (i + 1) acc h1 (K + k) (by omega) (by omega) B1 (by omega)
      refine ⟨us, h2, ?_, by rw [hd]; exact l2.cons _, B2.mono (by omega), k1.trans k2⟩
      rw [lcG_eq, es]
      show (match tt (setF (wipeU σ vs) j (.val xs[i])) h with
        | .ok true h1 => match bElt (eVar j) (.lst acc) (setF (wipeU σ vs) j (.val xs[i])) h1 with
          | .ok acc2 h2 => lcG (gmName j) tt (bElt (eVar j)) vs (srcL xs) m (i + 1) acc2 σ h2
          | _ => .bad
        | .ok false h1 => lcG (gmName j) tt (bElt (eVar j)) vs (srcL xs) m (i + 1) (.lst acc) σ h1
        | _ => .bad) = _
      rw [e1]
      dsimp only
      exact e2
theorem ev_fz {σ : SS} {h h1 : HP} {ma : MA} {us : List U} (e1 : ma σ h = .ok us h1) : eFz ma σ h = .ok (.lst us) h1 := by
  unfold eFz
  rw [e1]
  rfl
theorem ea_lc {σ : SS} {h h1 h2 : HP} {j : MJ} {g : GT} {tt : MT} {b : BodyL} {vs : List Nat} {s : Src} {n : Nat} {us : List U} (e1 : j σ h = .ok s n h1) (e2 : lcG g tt b vs s n 0 (.lst []) σ h1 = .ok (.lst us) h2) : cLc j g tt b vs σ h = .ok us h2 := by
  unfold cLc
  rw [e1]
  dsimp only
  rw [e2]
theorem small_nat {k : Nat} (hk : k < 1000000000) : smallI (k : Int) = true := by
  have m1 : -(2 ^ 62) ≤ (k : Int) ∧ (k : Int) < 2 ^ 62 := by omega
  unfold smallI
  rw [decide_eq_true m1.1, decide_eq_true m1.2]
  rfl
theorem ej_rngI {σ : SS} {h h1 : HP} {m : ME} {j : Int} (e1 : m σ h = .ok (.int j) h1) (hs : smallI j = true) : jRng1 m σ h = .ok (srcR 0 j.toNat) j.toNat h1 := by
  unfold jRng1
  rw [e1]
  show (match smallI j with | true => RJ.ok (srcR 0 j.toNat) j.toNat h1 | false => RJ.bad) = _
  rw [hs]
theorem ej_rng {σ : SS} {h h1 : HP} {m : ME} {k : Nat} (e1 : m σ h = .ok (.int (k : Int)) h1) (hk : k < 1000000000) : jRng1 m σ h = .ok (srcR 0 k) k h1 := by
  have e := ej_rngI e1 (small_nat hk)
  rw [Int.toNat_natCast] at e
  exact e
/-- [e for _ in range(m)], m drawn or known -/
theorem lc_ok {n j : Nat} {vs : List Nat} {m e : ME} {k c : Int} {P : U → Prop} {σ : SS} {top : Nat} (hk : 0 ≤ k) (hc : 0 ≤ c) (ht : top ≤ 100000) (hm : Dr (m σ) n c fun u => ∃ r : Nat, r ≤ top ∧ u = .int r)
    (he : ∀ i : Nat, i < top → Dr (e (setF (wipeU σ vs) j (.val (.int (0 + (i : Nat)))))) n k P) : Dr (eFz (cLc (jRng1 m) (gmName j) tTyes (bElt e) vs) σ) n (c + k * top) fun u => ∃ us : List U, u = .lst us ∧ us.length ≤ top ∧ ∀ w ∈ us, P w := fun h K B hK => by
  have ktop : 0 ≤ k * (top : Int) := Int.mul_nonneg hk (by omega)
  obtain ⟨u, h1, e1, ⟨r, hr, rfl⟩, B1, k1⟩ := hm h K B (by omega)
  have kr : k * (r : Int) ≤ k * (top : Int) := Int.mul_le_mul_of_nonneg_left (by omega) hk
  obtain ⟨us, h2, e2, l2, p2, B2, k2⟩ := lc_rng (M := r) (lo := 0) (vs := vs) (j := j) (e := e) (P := P) (σ := σ) hk (fun i hi => he i (by omega)) r 0 [] h1 (K + c) (by omega) (by simp; omega) B1 (by omega)
  refine ⟨.lst us, h2, ev_fz (ea_lc (ej_rng e1 (by omega)) e2), ⟨us, rfl, by omega, p2⟩, B2.mono (by omega), k1.trans k2⟩
theorem st_par2 {σ : SS} {h h1 : HP} {i j : Nat} {u w : U} {k : MA} (e1 : k σ h = .ok [u, w] h1) : sPar [i, j] k σ h = .nx (setF (setF σ i (.val u)) j (.val w)) h1 := by
  unfold sPar
  rw [e1]
  rfl
theorem ev_cm {σ : SS} {h h1 h2 : HP} {C n : Nat} {f : FM} {dus us : List U} {r : U} {k : MA} (e1 : k σ h = .ok us h1) (e2 : Nat.beq (U.cls C :: (us ++ dus)).length n = true) (e3 : f (U.cls C :: (us ++ dus)) h1 = .ok r h2) : eCm C n f dus k σ h = .ok r h2 := by
  unfold eCm
  rw [e1]
  show (match Nat.beq (U.cls C :: (us ++ dus)).length n with | true => f (U.cls C :: (us ++ dus)) h1 | false => R.bad) = _
  rw [e2]
  exact e3
theorem ev_mk {σ : SS} {h h1 : HP} {n : Nat} {g : RI → R} {f : FI} {dus us : List U} {r : R} {k : MA} (e1 : k σ h = .ok us h1) (e2 : Nat.beq (us ++ dus).length n = true) (e3 : g (f (us ++ dus) h1) = r) : eMake n g f dus k σ h = r := by
  unfold eMake
  rw [e1]
  show (match Nat.beq (us ++ dus).length n with | true => g (f (us ++ dus) h1) | false => R.bad) = _
  rw [e2]
  exact e3
theorem ev_meth {σ : SS} {h h1 h2 : HP} {g : GM} {m : ME} {k : MA} {z : List Nat} {r : U} {us : List U} (e1 : m σ h = .ok (.str z) h1) (e2 : k σ h1 = .ok us h2) (e3 : g h2 (.str z) us = some r) : eMeth g m k σ h = .ok r h2 := by
  unfold eMeth
  rw [e1]
  show (k σ h1).bind _ = _
  rw [e2]
  show (match g h2 (.str z) us with | some r => R.ok r h2 | none => R.bad) = _
  rw [e3]
theorem ev_fld {σ : SS} {h h1 : HP} {f C : Nat} {Cs ns : List Nat} {us : List U} {m : ME} {u r : U} (e1 : m σ h = .ok u h1) (e2 : asIns h1 u = some (C, ns, us)) (e3 : memN C Cs = true) (e4 : fldU ns us f = some r) : eFld f Cs m σ h = .ok r h1 := by
  unfold eFld
  rw [e1]
  show (match asIns h1 u with | some (C, ns, us) => (match memN C Cs with | true => (match fldU ns us f with | some r => R.ok r h1 | none => R.bad) | false => R.bad) | none => R.bad) = _
  rw [e2]
  dsimp only
  rw [e3]
  dsimp only
  rw [e4]
theorem ev_binR {σ : SS} {h h1 h2 : HP} {x y : U} {ma mb : ME} {g : GR2} {r : R} (e1 : ma σ h = .ok x h1) (e2 : mb σ h1 = .ok y h2) (e3 : g x y h2 = r) : eBinR g ma mb σ h = r := by
  unfold eBinR
  rw [e1]
  show (mb σ h1).bind _ = _
  rw [e2]
  exact e3
theorem ev_callBR {σ : SS} {h h1 : HP} {us : List U} {g : GRA} {k : MA} {r : R} (e1 : k σ h = .ok us h1) (e2 : g us h1 = r) : eCallBR g k σ h = r := by
  unfold eCallBR
  rw [e1]
  exact e2
theorem tt_or_f {a b : MT} {σ : SS} {h h1 : HP} {r : RT} (e1 : a σ h = .ok false h1) (e2 : b σ h1 = r) : tOr' a b σ h = r := by
  unfold tOr'
  rw [e1]
  exact e2
theorem ev_and {σ : SS} {h h1 : HP} {a b : ME} {r : R} (e1 : a σ h = .ok (.bl true) h1) (e2 : b σ h1 = r) : eAnd a b σ h = r := by
  unfold eAnd
  rw [e1]
  exact e2
theorem ev_andF {σ : SS} {h h1 : HP} {a b : ME} (e1 : a σ h = .ok (.bl false) h1) : eAnd a b σ h = .ok (.bl false) h1 := by
  unfold eAnd
  rw [e1]
  rfl
theorem ev_not {σ : SS} {h h1 : HP} {a : ME} {k : Bool} (e1 : a σ h = .ok (.bl k) h1) : eNot a σ h = .ok (.bl (!k)) h1 := by
  unfold eNot
  rw [e1]
  rfl
end M7
end

noncomputable section
/-! ### an own exception's __init__: super().__init__(x); self.x = x -/
namespace M7
open PySem PySem.Spec PyProof.Rows L2
open PySem.W (Looks InstAt looks_findIn looks_mroIn looks_subIn looks_clsIn looks_opaque ksFn ksEnv)
section
variable {prog : Program} {w : World} {A : Around} {E : Value → Shared → Prop} {K : PySem.W.Frag} {h : Heap} {g : Array GenState} {d : Drawn} {t : Nat} {os : OsState} {u a C t0 : Addr} {rest : List Value}
theorem sup_call {Q : Value → Shared → Prop} (X : K.In h) (T : OexC K C) (hu : h.get? u = some (PySem.W.kxs_mw "ValueError.__init__" a)) (he : h.get? a = some (PySem.W.excObj C t0 none .none)) (hz : rest.length ≤ sizeLine)
    (hq : ∀ h' t1, (∀ b o, b ≠ a → h.get? b = some o → h'.get? b = some o) → h'.get? a = some (PySem.W.excObj C t1 none .none) → Q .none ⟨h', g, d, t, os⟩) :
    wpAny (model prog w) A (call (.ref u) rest) Q E ⟨h, g, d, t, os⟩ := by
  obtain ⟨nm, q, N, bs, bm, sn, sub, ab, col, dd, k0, k1, k2, k3, k5, hC, hbm⟩ := T.cls
  refine wpAny_call (codeAny_of_tree ?_)
  show wpAny _ A.in1 (callAny (.ref u) ⟨rest, []⟩) _ _ _
  simp only [callAny]
  refine wpAny_bind (wpAny_load hu ?_)
  have d1 : (Value.type "method-wrapper" == Value.type "method" || Value.type "method-wrapper" == Value.type "builtin_function_or_method" || Value.type "method-wrapper" == Value.type "method-wrapper") = true := by decide
  simp only [PySem.W.kxs_mw, d1, if_true]
  refine PySem.W.KFB.if_so (by decide) ?_
  refine wpAny_bind (PySem.W.check_bound_init F.excBase_ValueError.toExcCallFacts (X _ _ hC) he rfl ?_)
  refine wpAny_bind (wpAny_pure (wpAny_pure ?_))
  refine ⟨plainId_quiet F.excBase_ValueError.init.plain _, codeAny_builtin F.excBase_ValueError.initEntry ?_⟩
  exact PySem.W.exc_init_tree he hz fun h' k e1 _ => hq h' _ k e1
end
/-- the context of its body -/
def cxC (P : Program) (w : World) (K : PySem.W.Frag) (mg : Str → Option Value) (base : Heap) (N : List Str) (qual : Str) (scope : Scope) (f : Addr) (cd : Value) (cc : Addr) (A : Around) (outer : List Env) (s : Shared) (H : Hp) : Cx where
  prog := P
  w := w
  K := K
  mg := mg
  base := base
  A := A.deeper (ksEnv qual scope s.heap.objs.size f cd cc)
  N := N
  s_0 := s
  H_0 := H
  env := ksEnv qual scope s.heap.objs.size f cd cc
  outer := outer
  stack := ksEnv qual scope s.heap.objs.size f cd cc :: outer
  ex := []
  calm := true
  fn := fun _ => false
  pn := []
  xe := fun _ _ => False
section
variable {P : Program} {w : World} {K : PySem.W.Frag} {mg : Str → Option Value} {base : Heap} {x qual : Str} {scope : Scope} {f cc : Addr} {cd : Value} {A : Around} {outer : List Env} {s : Shared} {H : Hp}
theorem inv_startC {h1 : Heap} {tk : Nat} {v0 v1 : V} {u0 u1 : Value} (hx : x ≠ "self") (e0 : Env0 P w K mg base A outer s H) (hd : A.handled = none) (r0 : RelV v0 u0) (r1 : RelV v1 u1)
    (hns : h1.Ns s.heap.objs.size (fun y => [(("self" : Str), u0), (x, u1)].reverse.lookup y)) (hk : ∀ b o, s.heap.get? b = some o → h1.get? b = some o)
    {cl : Value} {cld : Option Addr} {csl : Array (Option Value)} (hcc : K.lookup cc = some ⟨cl, cld, .cell (some (.ref f)), csl⟩ ∨ ∃ z, K.lookup cc = some ⟨cl, cld, .cell z, csl⟩)
    (k1 : scope.kind = .function) (k2 : ∀ y ∈ scope.names, y.2 ≠ .cell) (k3 : ∀ y ∈ scope.names, y.2 = .free → y.1 = "__class__") (k4 : scope.names.lookup ("self" : Str) = some .local) (k5 : scope.names.lookup x = some .local) :
    Inv (cxC P w K mg base ["self", x] qual scope f cd cc A outer s H) [] [some v0, some v1] H { s with heap := h1, toks := tk } := by
  obtain ⟨z, hz⟩ : ∃ z, K.lookup cc = some ⟨cl, cld, .cell z, csl⟩ := hcc.elim (fun e => ⟨_, e⟩) fun e => e
  have noA : ∀ b : Addr, b ∉ (cxC P w K mg base ["self", x] qual scope f cd cc A outer s H).ex := fun b z => absurd (show b ∈ ([] : List Addr) from z) List.not_mem_nil
  have one : ∀ {y : Str} {c : Addr}, [(("__class__" : Str), cc)].lookup y = some c → y = "__class__" ∧ c = cc := fun {y c} h => by
    have m := PySem.mem_of_lookup h
    have q := List.mem_singleton.mp m
    cases q
    exact ⟨rfl, rfl⟩
  have kb := e0.bs cc _ (e0.mod.kin _ _ hz)
  refine ⟨⟨e0.mod, k1, rfl, rfl, Nat.le_refl _, fun y y' c h1 h2 => (one h1).1.trans (one h2).1.symm, fun y hy => ?_, fun y c q _ => (by cases q), fun _ => hd, Around.frames_deeper e0.frames, .inr ⟨rfl, rfl⟩, fun b z => absurd z (noA b), e0.bs, e0.bsz, fun b _ _ => noA b, fun b z => absurd z (noA b), e0.funs, e0.frf⟩,
    rfl, e0.bare, Un.kept hk, ⟨_, hns, fun i y v q1 q2 q3 => ?_⟩, fun y c h => ?_, e0.hok.fresh (Nat.le_refl _), fun y c h => ?_, fun p hp => absurd (show p ∈ ([] : List (Addr × Obj)) from hp) List.not_mem_nil, e0.hok.kept hk, rfl⟩
  · have hy : scope.names.lookup y = some .cell ∨ scope.names.lookup y = some .free := hy
    rcases hy with hy | hy
    · exact absurd rfl (k2 _ (PySem.mem_of_lookup hy))
    · have e := k3 _ (PySem.mem_of_lookup hy) rfl
      have e : y = "__class__" := e
      subst e
      exact ⟨cc, rfl⟩
  · match i, q1, q2 with
    | 0, q1, q2 =>
      cases q1
      cases q2
      refine ⟨u0, r0, .inl ⟨k4, ?_⟩⟩
      show [(x, u1), (("self" : Str), u0)].lookup ("self" : Str) = some u0
      rw [List.lookup_cons]
      have : (("self" : Str) == x) = false := by simpa using fun z => hx z.symm
      rw [this]
      rfl
    | 1, q1, q2 =>
      cases q1
      cases q2
      refine ⟨u1, r1, .inl ⟨k5, ?_⟩⟩
      show [(x, u1), (("self" : Str), u0)].lookup x = some u1
      rw [List.lookup_cons]
      have : (x == x) = true := by simp
      rw [this]
    | i + 2, q1, q2 => cases q1
  · obtain ⟨_, rfl⟩ := one h
    exact ⟨z, _, hk _ _ kb.1, rfl⟩
  · obtain ⟨_, rfl⟩ := one h
    exact kb.2
theorem sup_stmt {body : List Stmt} {p0 p1 p2 p3 p4 p5 : Pos} {a C cda : Addr} {v1 : V} {s' : Shared} {fd : FuncData} {oc : Value} {od : Option Addr} {osl : Array (Option Value)} {cl : Value} {cld : Option Addr} {csl : Array (Option Value)} {ccl : Value} {cdd : Option Addr} {ccs : Array (Option Value)} {vs : Array Value} {file : Str} {tf : Tok} {ar : Arg} {Hc : Hp}
    (I : Inv (cxC P w K mg base ["self", x] qual scope f (.ref cda) cc A outer s H) [] [some (.ref a), some v1] Hc s') (ha : Hc a = some (exo a C none)) (T : OexC K C)
    (opq : PySem.W.nsIn K cStatics "thirdparty.any" = some none) (sup : PySem.W.ks_superIn K C C "__init__" = some (some (.builtin "ValueError.__init__"))) (sub : PySem.W.mroIn K C (.ref C) = some true) (hB : PySem.W.subIn K (.ref C) (.type "ValueError") = some true)
    (hf : K.lookup f = some ⟨oc, od, .func fd, osl⟩) (hp : (fd.params.posonlyargs ++ fd.params.args).head? = some ar) (har : ar.arg = "self") (hcode : K.lookup cda = some ⟨ccl, cdd, .fields vs, ccs⟩) (hvs : vs[2]? = some (.str file tf)) (hfile : ((P.main.file : Str) == file) = true)
    (hcell : K.lookup cc = some ⟨cl, cld, .cell (some (.ref C)), csl⟩) (k1 : scope.kind = .function) (k4 : scope.names.lookup ("self" : Str) = some .local) (k5 : scope.names.lookup x = some .local) (k6 : scope.names.lookup ("super" : Str) = some .globalImplicit) (k7 : scope.names.lookup ("__class__" : Str) = some .free)
    (htop : (P.main.scope.names.lookup ("super" : Str)).isSome = false) (hms : mg "super" = none) (hx : x ≠ "self") (hxd : (x == ("__debug__" : Str)) = false) (hxc : (x == ("__classdict__" : Str)) = false)
    {pl : Sem Bool} (hev : eval (.Call (.Attribute (.Call (.Name "super" p0) [] [] p1) "__init__" p2) [.Name x p3] [] p4) (ksEnv qual scope s.heap.objs.size f (.ref cda) cc) = (do
      let ov ← attributeBase (.Call (.Name "super" p0) [] [] p1) "__init__" (ksEnv qual scope s.heap.objs.size f (.ref cda) cc) (eval (.Call (.Name "super" p0) [] [] p1) (ksEnv qual scope s.heap.objs.size f (.ref cda) cc))
      standAt p2.atName
      let (ff, first) ← holding [ov] (getMethod ov "__init__" pl)
      callWith p4 ff first (backTo p4 (starEach [.Name x p3] (ksEnv qual scope s.heap.objs.size f (.ref cda) cc))) []))
    (hi : interactive (ksEnv qual scope s.heap.objs.size f (.ref cda) cc) = false) (hsw : swapsWith (.Call (.Attribute (.Call (.Name "super" p0) [] [] p1) "__init__" p2) [.Name x p3] [] p4) none p5.line (ksEnv qual scope s.heap.objs.size f (.ref cda) cc) = pure false)
    {Q : Flow → Shared → Prop} (hq : ∀ s2, Inv (cxC P w K mg base ["self", x] qual scope f (.ref cda) cc A outer s H) [] [some (.ref a), some v1] Hc s2 → Q .next s2) :
    _root_.PySem.wpAt (model P w) (A.deeper (ksEnv qual scope s.heap.objs.size f (.ref cda) cc)) (.func body (ksEnv qual scope s.heap.objs.size f (.ref cda) cc))
      (exec (.Expr (.Call (.Attribute (.Call (.Name "super" p0) [] [] p1) "__init__" p2) [.Name x p3] [] p4) p5) (ksEnv qual scope s.heap.objs.size f (.ref cda) cc)) Q (fun _ _ => False) s' := by
  have ha' : PA (cxC P w K mg base ["self", x] qual scope f (.ref cda) cc A outer s H) [.Name x p3] _ := pa_cons (pe_var (pos := p3) (i := 1) (x := x) rfl (.inl k5) hxd hxc) pa_nil
  obtain ⟨nm, q, N, bs, bm, sn, sbb, ab, col, dd, z0, z1, z2, z3, z5, hC, hbm⟩ := T.cls
  have hcd : PySem.W.clsIn K C = some { name := nm, bases := bs, mro := .ref C :: bm, ns := N, qualname := q, hasDict := true, slotNames := sn, subclasses := sbb, abstract := ab, collection := col, hasDel := false } := by unfold PySem.W.clsIn; rw [hC] <;> rfl
  obtain ⟨t1, ho⟩ := exo_at I.hok ha
  refine PySem.ks_wpAt_Expr_any (PySem.ks_wpAt_MethodCall (pl := pl) (PySem.ks_wpAt_super_base (env := ksEnv qual scope s.heap.objs.size f (.ref cda) cc) k6 k7 (by decide) rfl (I.kIn _ _ hf) rfl hp rfl (I.kIn _ _ hcode) rfl hvs hfile htop ?_) hev) hi hsw
  obtain ⟨mb, b1, b2⟩ := I.mod.blt
  refine PySem.W.ks_loadName_global k1 k6 (PySem.Calls.loadGlobal_builtin (env := ksEnv qual scope s.heap.objs.size f (.ref cda) cc) (I.mod.glob.keeps I.bk) hms (b1.keeps I.bk) ((b2 "super" (by decide)).trans (show bootBuiltins "super" = some (.type "super") by kernel_rfl)) ⟨rfl, ?_⟩)
  refine wpAny_loadName_free k1 k7 rfl ⟨_, I.kIn _ _ hcell, rfl⟩ ?_
  obtain ⟨m, ns, lk⟩ := I.loc
  obtain ⟨u0, r0, l0⟩ := lk 0 "self" (.ref a) rfl rfl (.inl k4)
  cases (show u0 = Value.ref a from r0)
  have hv : m "self" = some (.ref a) := by
    rcases l0 with ⟨_, e⟩ | ⟨e | e, _⟩
    · exact e
    · have e' : scope.names.lookup ("self" : Str) = some .cell := e
      rw [k4] at e'
      cases e'
    · have e' : scope.names.lookup ("self" : Str) = some .free := e
      rw [k4] at e'
      cases e'
  rw [har]
  refine wpAny_loadName_local k1 k4 ns hv ?_
  obtain ⟨hh, g, dr, tk, os⟩ := s'
  refine PySem.ks_wpAny_isType_cls (I.kIn _ _ hC) rfl ⟨rfl, ?_⟩
  refine PySem.ks_wpAny_call_super (I.kIn _ _ hC) rfl ho rfl (fun c z => by cases z) (looks_mroIn I.kIn sub) (fun h1 e1 k1' => ?_)
  have I1 : Inv (cxC P w K mg base ["self", x] qual scope f (.ref cda) cc A outer s H) [] [some (.ref a), some v1] Hc ⟨h1, g, dr, tk, os⟩ := I.kept (t' := tk) k1'
  have J1 : PySem.W.InstAt h1 a (PySem.W.excObj C t1 none .none) C none := ⟨k1' _ _ ho, rfl, rfl, trivial⟩
  have sup2 : PySem.W.alongIn K "__init__" (((Value.ref C :: bm).dropWhile (· != .ref C)).drop 1) = some (some (.builtin "ValueError.__init__")) := by
    unfold PySem.W.ks_superIn at sup
    rw [hcd] at sup
    exact sup
  refine PySem.W.kxs_getMethod PySem.W.kxs_ValueError e1 (looks_opaque I1.kIn opq) (l₀ := Value.ref C :: bm) ?_ rfl I1.kIn sup2 (J1.type.andThen (looks_subIn I1.kIn hB)) (PySem.W.ks_ne I1.kIn J1 hcd) (by decide) ?_
  · exact fun A Q E s k q => wpAny_bind ((looks_clsIn I1.kIn hcd) A _ E s k (wpAny_pure q))
  have k2' : ∀ b o, h1.get? b = some o → (h1.push (PySem.W.kxs_mw "ValueError.__init__" a)).get? b = some o := fun b o e => Heap.get?_push_of_some _ e
  have I2 : Inv (cxC P w K mg base ["self", x] qual scope f (.ref cda) cc A outer s H) [] [some (.ref a), some v1] Hc ⟨h1.push (PySem.W.kxs_mw "ValueError.__init__" a), g, dr, tk + 1, os⟩ := I1.kept (t' := tk + 1) k2'
  have eu : (h1.push (PySem.W.kxs_mw "ValueError.__init__" a)).get? h1.objs.size = some (PySem.W.kxs_mw "ValueError.__init__" a) := Heap.get?_push_at rfl rfl
  have pinp : ∀ p ∈ ([] : List (Addr × Obj)) ++ [(h1.objs.size, PySem.W.kxs_mw "ValueError.__init__" a)], (h1.push (PySem.W.kxs_mw "ValueError.__init__" a)).get? p.1 = some p.2 ∧ Hc p.1 = none ∧ p.1 ≠ s.heap.objs.size ∧ p.1 ∉ frs outer ∧ ∀ v, p.2.data ≠ .cell v := fun p hp => by
    have e := List.mem_singleton.mp (show p ∈ [(h1.objs.size, PySem.W.kxs_mw "ValueError.__init__" a)] from hp)
    subst e
    exact ⟨eu, I1.hok.fresh (Nat.le_refl _), Nat.ne_of_gt I1.lt, I1.nofs (Nat.le_refl _), fun v z => by cases z⟩
  have I2p : Inv (cxC P w K mg base ["self", x] qual scope f (.ref cda) cc A outer s H) [(h1.objs.size, PySem.W.kxs_mw "ValueError.__init__" a)] [some (.ref a), some v1] Hc ⟨h1.push (PySem.W.kxs_mw "ValueError.__init__" a), g, dr, tk + 1, os⟩ := { I2 with pin := pinp }
  refine PySem.W.kxs_callWith (i := "ValueError.__init__") (x := a) rfl (PySem.Calls.evalArgs_plain ?_)
  refine wpAny_mono (ha'.run p4 [(h1.objs.size, PySem.W.kxs_mw "ValueError.__init__" a)] _ [some (.ref a), some v1] Hc (fun vs H' => vs = [v1] ∧ H' = Hc) I2p ?_) (fun us s3 hz => ?_) fun _ _ z => z
  · exact ⟨v1, rfl, rfl, rfl⟩
  obtain ⟨vs3, H3, I3, r3, rfl, rfl⟩ := hz
  have u3 : s3.heap.get? h1.objs.size = some (PySem.W.kxs_mw "ValueError.__init__" a) := (I3.pin _ (List.mem_append_right _ List.mem_cons_self)).1
  have I3 : Inv (cxC P w K mg base ["self", x] qual scope f (.ref cda) cc A outer s H) [] [some (.ref a), some v1] H3 s3 := { I3 with pin := fun p hp => absurd (show p ∈ ([] : List (Addr × Obj)) from hp) List.not_mem_nil }
  refine ⟨u3, ?_⟩
  obtain ⟨t3, ho3⟩ := exo_at I3.hok ha
  obtain ⟨hh3, g3, d3, tk3, os3⟩ := s3
  refine sup_call I3.kIn T u3 ho3 (by have := Paired.length r3; rw [sizeLine_eq, List.nil_append, ← this, List.length_singleton]; decide) fun h4 t4 k4' e4 => ?_
  have J4 := I3.write (t' := tk3) (x := a) (e := a) (o := exo a C none) (by rw [ha]; exact True.intro) (.inl rfl) k4' ⟨_, e4⟩ (exo_ok e4)
  have eu4 : upd H3 a (exo a C none) = H3 := by
    funext b
    by_cases hb : b = a
    · rw [hb, upd_same, ha]
    · rw [upd_ne hb]
  rw [eu4] at J4
  exact hq _ J4
end
/-- such an __init__ as text -/
structure ExS (x : Str) (params : Arguments) (body : List Stmt) (scope : Scope) : Prop where
  par : ∃ ar, (params.posonlyargs ++ params.args).head? = some ar ∧ ar.arg = "self"
  kind : scope.kind = .function
  co : scope.isCoroutine = false
  gen : scope.isGenerator = false
  cell : ∀ y ∈ scope.names, y.2 ≠ .cell
  free : ∀ y ∈ scope.names, y.2 = .free → y.1 = "__class__"
  sf : scope.names.lookup ("self" : Str) = some .local
  sx : scope.names.lookup x = some .local
  su : scope.names.lookup ("super" : Str) = some .globalImplicit
  sc : scope.names.lookup ("__class__" : Str) = some .free
  ne : x ≠ "self"
  db : (x == ("__debug__" : Str)) = false
  cd : (x == ("__classdict__" : Str)) = false
  run : ∃ p0 p1 p2 p3 p4 p5 q0 q1 q2 q3 : Pos, body = [.Expr (.Call (.Attribute (.Call (.Name "super" p0) [] [] p1) "__init__" p2) [.Name x p3] [] p4) p5, .Assign [.Attribute (.Name "self" q0) x q1] (.Name x q2) q3] ∧
    ∀ (qual : Str) (L f : Addr) (cd : Value) (cc : Addr), (∃ pl : Sem Bool, eval (.Call (.Attribute (.Call (.Name "super" p0) [] [] p1) "__init__" p2) [.Name x p3] [] p4) (ksEnv qual scope L f cd cc) = (do
      let ov ← attributeBase (.Call (.Name "super" p0) [] [] p1) "__init__" (ksEnv qual scope L f cd cc) (eval (.Call (.Name "super" p0) [] [] p1) (ksEnv qual scope L f cd cc))
      standAt p2.atName
      let (ff, first) ← holding [ov] (getMethod ov "__init__" pl)
      callWith p4 ff first (backTo p4 (starEach [.Name x p3] (ksEnv qual scope L f cd cc))) [])) ∧
      interactive (ksEnv qual scope L f cd cc) = false ∧ swapsWith (.Call (.Attribute (.Call (.Name "super" p0) [] [] p1) "__init__" p2) [.Name x p3] [] p4) none p5.line (ksEnv qual scope L f cd cc) = pure false ∧
      swapsWith (.Name x q2) (some (.Attribute (.Name "self" q0) x q1)) q3.line (ksEnv qual scope L f cd cc) = pure false
/-- .. and as it lies in the written part, the class at C, the def at f -/
structure ExK (pg : Program) (K : PySem.W.Frag) (C f : Addr) (qual : Str) (params : Arguments) (body : List Stmt) (scope : Scope) (x : Str) (fd : FuncData) : Prop where
  T : OexC K C
  no : PySem.W.findIn K (.ref C) x = some none
  opq : PySem.W.nsIn K cStatics "thirdparty.any" = some none
  sup : PySem.W.ks_superIn K C C "__init__" = some (some (.builtin "ValueError.__init__"))
  sub : PySem.W.mroIn K C (.ref C) = some true
  hB : PySem.W.subIn K (.ref C) (.type "ValueError") = some true
  ini : PySem.W.findIn K (.ref C) "__init__" = some (some (.ref f))
  ty : PySem.W.typeIn K (.ref f) = some (.type "function")
  fn : ∃ (name : Str) (kV doc pm : Value) (an : Option Addr) (cda : Addr) (ct : Value) (cc : Addr) (oc : Value) (od : Option Addr) (osl : Array (Option Value)) (cl : Value) (cld : Option Addr) (csl : Array (Option Value)) (ccl : Value) (cdd : Option Addr) (ccs : Array (Option Value)) (vs : Array Value) (file : Str) (tf : Tok),
    fd = ksFn name qual params body scope .none kV doc pm an (.ref cda) ct cc ∧ K.lookup f = some ⟨oc, od, .func fd, osl⟩ ∧ PySem.W.codeIn K (.ref cda) qual = true ∧ K.lookup cda = some ⟨ccl, cdd, .fields vs, ccs⟩ ∧ vs[2]? = some (.str file tf) ∧ ((pg.main.file : Str) == file) = true ∧
    K.lookup cc = some ⟨cl, cld, .cell (some (.ref C)), csl⟩
/-- what such an __init__ promises -/
def spX (C : Addr) (x : Str) : Sp := fun vs H Q _ => ∃ a v, vs = [.ref a, v] ∧ H a = some (exo a C none) ∧ ∀ dx, H dx = none → dx ≠ a → Q .non (upd (upd H dx (exd dx [(x, v)])) a (exo a C (some dx)))
theorem exI_fn {P : Program} {w : World} {K : PySem.W.Frag} {mg : Str → Option Value} {base : Heap} {CX : CXT} {C f : Addr} {qual : Str} {params : Arguments} {body : List Stmt} {scope : Scope} {x : Str} {fd : FuncData} {k : Nat} (S : ExS x params body scope) (F : ExK P K C f qual params body scope x fd)
    (htop : (P.main.scope.names.lookup ("super" : Str)).isSome = false) (hms : mg "super" = none) : FnOk P w K mg base CX (k + 1) f fd ["self", x] (spX C x) := by
  obtain ⟨name, kV, doc, pm, an, cda, ct, cc, oc, od, osl, cl, cld, csl, ccl, cdd, ccs, vf, file, tf, rfl, lk, hcd, hcode, hvs, hfile, hcell⟩ := F.fn
  obtain ⟨ar, hp, har⟩ := S.par
  obtain ⟨p0, p1, p2, p3, p4, p5, q0, q1, q2, q3, rfl, run⟩ := S.run
  refine ⟨fun vs H Q E h => ?_, fun A outer s H args us vs Q E hr e0 hb rv h => ?_⟩
  · obtain ⟨a, v, rfl, _⟩ := h
    rfl
  obtain ⟨a, v, rfl, ha, hq⟩ := h
  cases rv with
  | @cons _ u0 _ _ r0 rt =>
    cases rt with
    | @cons _ u1 _ _ r1 rt =>
      cases rt
      cases (show u0 = Value.ref a from r0)
      obtain ⟨⟨pl, hev⟩, hi, hs1, hs2⟩ := run qual s.heap.objs.size f (.ref cda) cc
      have KX : K.In s.heap := e0.mod.kin.keeps fun b o e => (e0.bs b o e).1
      have lim : s.heap.NoLimit := e0.mod.nolimit.keeps fun b o e => (e0.bs b o e).1
      refine PySem.ks_codeAny_call_defAt (binds := [(("self" : Str), .ref a), (x, u1)]) hr.depth (KX _ _ lk) rfl lim (PySem.W.codeRec_of KX hcd) rfl hb S.cell (fun y hy => ?_) (fun h1 hns hk => ?_) S.co S.gen S.kind
      · rcases List.mem_cons.mp hy with z | hy
        · rw [z]; exact S.sf
        · rw [List.mem_singleton.mp hy]; exact S.sx
      have I : Inv (cxC P w K mg base ["self", x] qual scope f (.ref cda) cc A outer s H) [] [some (.ref a), some v] H { s with heap := h1, toks := s.toks + 2 } :=
        inv_startC (v0 := .ref a) (u0 := .ref a) S.ne e0 hr.hd rfl r1 hns hk (.inr ⟨_, hcell⟩) S.kind S.cell S.free S.sf S.sx
      refine PySem.ks_wpAt_mono (E := fun _ _ => False) (PySem.ks_wpAt_execs_cons (sup_stmt I ha F.T F.opq F.sup F.sub F.hB lk hp har hcode hvs hfile hcell S.kind S.sf S.sx S.su S.sc htop hms S.ne S.db S.cd hev hi hs1 (fun s2 I2 => wpAt_of_wpAny ?_)) (Q := fun fl s' => match fl with | .next => CE outer P w H s Q .none s' | _ => False)) (fun fl s' z => ?_) fun _ _ z => z.elim
      · have st : PS (cxC P w K mg base ["self", x] qual scope f (.ref cda) cc A outer s H) (.Assign [.Attribute (.Name "self" q0) x q1] (.Name x q2) q3) _ := ps_ost (pe_var (i := 0) (x := "self") rfl (.inl S.sf) (by decide) (by decide)) (pe_var (i := 1) (x := x) rfl (.inl S.sx) S.db S.cd) hs2
        refine wpAny_mono ((pss_one st).run [] s2 [some (.ref a), some v] H { nx := fun _ H' => Q .non H', rt := fun _ _ => False } I2 ?_) (fun fl s3 z => ?_) fun _ _ z => z
        · refine ⟨v, rfl, .ref a, rfl, a, C, rfl, F.T, F.no, .inl ⟨ha, fun dx n ne => hq dx n ne⟩⟩
        · cases fl with
          | next =>
            obtain ⟨σ', H', J, q⟩ := z
            exact ⟨.non, H', J.os, J.bare, J.base, J.hok, rfl, q⟩
          | brk => exact z.choose_spec.choose_spec.2.elim
          | cont => exact z.choose_spec.choose_spec.2.elim
          | ret u => exact z.choose_spec.choose_spec.choose_spec.2.2.elim
      · cases fl with
        | next => exact z
        | brk => exact z.elim
        | cont => exact z.elim
        | ret u => exact z.elim
end M7
end

noncomputable section
/-! ### raise of an own exception -/
namespace M7
open PySem PySem.Spec PyProof.Rows L2
/-- raise C(x), C's __init__ storing x as the field f -/
def sRaise (C f : Nat) (m : ME) : MS := fun σ h => (m σ h).bindS fun u h1 => .exc ⟨C, f, [u]⟩ h1
/-- the class C, x its name: its __init__ keeps its argument as the field f -/
structure GX (P' : Program) (w : World) (K : PySem.W.Frag) (mg : Str → Option Value) (base : Heap) (P : Par) (x : Str) (C f lv : Nat) : Prop where
  ex : ∃ (fI : Addr) (fd : FuncData), OexC K (P.cA C) ∧ PySem.W.findIn K (.ref (P.cA C)) "__init__" = some (some (.ref fI)) ∧ PySem.W.typeIn K (.ref fI) = some (.type "function") ∧
    FnOk P' w K mg base (L2.CX P' w) lv fI fd ["self", P.nm f] (spX (P.cA C) (P.nm f)) ∧ mg x = some (.ref (P.cA C)) ∧ Binds K fd ["self", P.nm f] []
section
variable {P : Par} {X : Cx} {E : XK} {lv C f : Nat} {x : Str} {p pos pos' : Pos} {e : Expr} {m : ME} {H1 : Hp}
theorem exc_heap {a dx Ca : Addr} {fs : List (Str × V)} (ha : H1 a = none) (hd : dx ≠ a) : upd (del (upd (upd (upd H1 a (exo a Ca none)) dx (exd dx fs)) a (exo a Ca (some dx))) a) dx (.xd fs) = upd H1 dx (.xd fs) := by
  funext b
  by_cases hb : b = dx
  · rw [hb, upd_same, upd_same]
  · rw [upd_ne hb, upd_ne hb]
    by_cases hba : b = a
    · rw [hba, del_same, ha]
    · rw [del_ne hba, upd_ne hba, upd_ne hb, upd_ne hba]
theorem tS_raise (hc : X.calm = true) (tk : Takes X (fun cls d _ H => E cls d H)) (F : GX X.prog X.w X.K X.mg X.base P x C f lv) (hr : Room (lv + 1) X.A) (hx : ∀ E : XK, (∀ c d H, ¬ E c d H) → Passes (L2.CX X.prog X.w) X E) (hg : Gl X x) (he : PE X e (tM P E m))
    (hdb : (x == ("__debug__" : Str)) = false) (hst : starEach [e] X.env = (false, eval e X.env) :: starEach [] X.env) (hpl : (backTo pos (starEach [] X.env)).any (·.1) = false) :
    PS X (.Raise (some (.Call (.Name x p) [e] [] pos)) none pos') (tS P E (sRaise C f m)) := by
  obtain ⟨fI, fd, T, iC, tI, F1, hm, hb⟩ := F.ex
  refine ⟨fun pins s σ H D I q => ?_⟩
  refine (ps_raise (W := fun cls d _ H => E cls d H) hc tk (pmk_oex T iC tI F1 hr hb .nil (hx _ fun _ _ _ z => z) hg hm (pa_cons he pa_nil hst) hdb hst hpl)).run pins s σ H D I ?_
  obtain ⟨ρ, W0, W, σ', hp, rs, rh, po⟩ := q
  refine tM_thenS rs rh po fun ρ1 H1 u v hp1 rs1 rh1 ru1 x1 po1 => ?_
  refine ⟨by show 1 ≤ 1000; decide, fun a ha => ⟨a, v, rfl, upd_same, fun dx hd hne => ?_⟩⟩
  have hd1 : H1 dx = none := by rw [upd_ne hne] at hd; exact hd
  refine ⟨rfl, dx, [(P.nm f, v)], upd_same, by rw [upd_ne hne, upd_same], hd1, ?_⟩
  rw [exc_heap ha hne]
  have x2 : Ext ρ1 H1 ρ1 (upd H1 dx (.xd [(P.nm f, v)])) := Ext.fresh hd1
  exact po1 ρ1 W _ (.ref (P.cA C)) (some dx) x2.toS rs1.sub (rh1.fresh hd1) ⟨rfl, dx, _, v, rfl, upd_same, rfl, rh1.notin hd1, rh1.notW hd1, ru1.ext x2⟩
end
end M7
end

noncomputable section
/-! ### the head's Hook with exceptions' own __init__ -/
namespace M7
open PySem PySem.Spec PyProof.Rows L2
open PySem.W (ksFn)
/-- an exception's __init__: its class's name in the module, its field -/
structure DefX where
  cls : Str
  fld : Str
  name : Str
  qual : Str
  params : Arguments
  body : List Stmt
  scope : Scope
def DefX.C (d : DefX) (K : PySem.W.Frag) : Addr := He.ga K d.cls
def DefX.at_ (d : DefX) (K : PySem.W.Frag) : Addr := He.ma K (d.C K) "__init__"
def fnXA (K : PySem.W.Frag) (a : Addr) : He5.FnW := match K.lookup a with
  | some ⟨_, _, .func fd, _⟩ => some (fd.name, fd.qualname, fd.params, fd.body, fd.scope, fd.globals, fd.closure.map (fun q => (q.1, 0)), fd.builtins)
  | _ => none
def DefX.val (d : DefX) : He5.FnW := some (d.name, d.qual, d.params, .stmts d.body, d.scope, mainGlobals, [(("__class__" : Str), (0 : Addr))], builtinsNs)
def oexB (K : PySem.W.Frag) (C : Addr) : Bool := (match K.lookup C with
  | some ⟨.type t, _, .cls cd, sl⟩ => decide (t = "type") && ((match cd.mro with
    | .ref c :: bm => Nat.beq c C && PySem.HandSPX.refsVE bm
    | _ => false) && (cd.hasDict && (!cd.hasDel && (match sl.toList with
    | [_, _, _, _, some (.builtin n), _] => decide (n = "ValueError.__new__")
    | _ => false))))
  | _ => false) && (He.eqO (PySem.W.findIn K (.ref C) "__setattr__") (some (some (.builtin "object.__setattr__"))) && (decide (PySem.W.subIn K (.ref C) (.type "BaseException") = some true) && (decide (PySem.W.typeIn K (.ref C) = some (.type "type")) && PySem.W.keepIn K (.ref C))))
theorem oexB_ok {K : PySem.W.Frag} {C : Addr} (h : oexB K C = true) : OexC K C := by
  obtain ⟨h1, h⟩ := He.ba h
  obtain ⟨h2, h⟩ := He.ba h
  obtain ⟨h3, h⟩ := He.ba h
  obtain ⟨h4, h5⟩ := He.ba h
  refine ⟨?_, He.eqO_ok h2, of_decide_eq_true h3, of_decide_eq_true h4, h5⟩
  split at h1
  · rename_i t dd cd sl e
    obtain ⟨q1, r1⟩ := He.ba h1
    obtain ⟨q2, r2⟩ := He.ba r1
    obtain ⟨q3, r3⟩ := He.ba r2
    obtain ⟨q4, q5⟩ := He.ba r3
    clear h1 r1 r2 r3
    obtain ⟨nm, bs, mro, ns, qn, hd, sn, sb, ab, col, del⟩ := cd
    dsimp only at q2 q3 q4
    have q1' := of_decide_eq_true q1
    clear q1
    subst q1'
    split at q2
    · rename_i c bm
      obtain ⟨z1, z2⟩ := He.ba q2
      have z1' := Nat.eq_of_beq_eq_true z1
      clear z1 q2
      subst z1'
      split at q5
      · rename_i k0 k1 k2 k3 n k5 es
        have q5' := of_decide_eq_true q5
        clear q5
        subst q5'
        have es' : sl = #[k0, k1, k2, k3, some (.builtin "ValueError.__new__"), k5] := by rw [← es]
        cases hd with
        | false => cases q3
        | true =>
          cases del with
          | true => cases q4
          | false => exact ⟨nm, qn, ns, bs, bm, sn, sb, ab, col, dd, k0, k1, k2, k3, k5, by rw [e, es'], z2⟩
      · cases q5
    · cases q2
  · cases h1
def kfnB (K : PySem.W.Frag) (fl qual : Str) (C : Addr) (dV cd : Value) (clo : List (Str × Addr)) : Bool := match dV, cd, clo with
  | .none, .ref cda, [(_, cc)] => PySem.W.codeIn K (.ref cda) qual && ((match K.lookup cda with
    | some ⟨_, _, .fields vs, _⟩ => (match vs.toList with
      | _ :: _ :: .str n _ :: _ => fl == n
      | _ => false)
    | _ => false) && (match K.lookup cc with
    | some ⟨_, _, .cell (some (.ref c)), _⟩ => Nat.beq c C
    | _ => false))
  | _, _, _ => false
def DefX.ok (K : PySem.W.Frag) (fl : Str) (d : DefX) : Bool := oexB K (d.C K) && (He.eqO (PySem.W.findIn K (.ref (d.C K)) d.fld) (some none) && (He.eqO (PySem.W.nsIn K cStatics "thirdparty.any") (some none) && (He.eqO (PySem.W.ks_superIn K (d.C K) (d.C K) "__init__") (some (some (.builtin "ValueError.__init__"))) &&
  (decide (PySem.W.mroIn K (d.C K) (.ref (d.C K)) = some true) && (decide (PySem.W.subIn K (.ref (d.C K)) (.type "ValueError") = some true) && (He.eqO (PySem.W.findIn K (.ref (d.C K)) "__init__") (some (some (.ref (d.at_ K)))) && (decide (PySem.W.typeIn K (.ref (d.at_ K)) = some (.type "function")) &&
  (match K.lookup (d.at_ K) with
  | some ⟨_, _, .func fd, _⟩ => kfnB K fl d.qual (d.C K) fd.defaults fd.code fd.closure
  | _ => false))))))))
theorem DefX.fn {pg : Program} {K : PySem.W.Frag} {d : DefX} (e : fnXA K (d.at_ K) = d.val) (c : d.ok K pg.main.file = true) : ∃ fd, ExK pg K (d.C K) (d.at_ K) d.qual d.params d.body d.scope d.fld fd := by
  obtain ⟨h1, c⟩ := He.ba c
  obtain ⟨h2, c⟩ := He.ba c
  obtain ⟨h3, c⟩ := He.ba c
  obtain ⟨h4, c⟩ := He.ba c
  obtain ⟨h5, c⟩ := He.ba c
  obtain ⟨h6, c⟩ := He.ba c
  obtain ⟨h7, c⟩ := He.ba c
  obtain ⟨h8, c⟩ := He.ba c
  unfold fnXA at e
  cases q : K.lookup (d.at_ K) with
  | none =>
    rw [q] at c
    cases c
  | some o =>
    obtain ⟨oc, od, dt, osl⟩ := o
    rw [q] at c e
    cases dt with
    | func fd =>
      obtain ⟨n1, n2, n3, n4, n5, n6, n7, n8, n9, n10, n11, n12, n13, n14, n15⟩ := fd
      have e2 : (some (n1, n2, n3, n4, n5, n6, n7.map (fun q => (q.1, 0)), n15) : He5.FnW) = some (d.name, d.qual, d.params, FuncBody.stmts d.body, d.scope, mainGlobals, [(("__class__" : Str), (0 : Addr))], builtinsNs) := e
      simp only [Option.some.injEq, Prod.mk.injEq] at e2
      obtain ⟨g1, g2, g3, g4, g5, g6, g7, g8⟩ := e2
      have c2 : kfnB K pg.main.file d.qual (d.C K) n8 n13 n7 = true := c
      unfold kfnB at c2
      clear c e
      split at c2
      · rename_i cda cn cc
        obtain ⟨k1, c3⟩ := He.ba c2
        obtain ⟨k2, k3⟩ := He.ba c3
        clear c2 c3
        split at k2
        · rename_i ccl cdd vs ccs e3
          split at k2
          · rename_i file tf _ e4
            have e4 : vs[2]? = some (.str file tf) := by rw [← Array.getElem?_toList, e4]; rfl
            split at k3
            · rename_i cl cld cx csl e5
              have k3' := Nat.eq_of_beq_eq_true k3
              clear k3
              subst k3'
              have g7' : cn = "__class__" := by
                have := g7
                simp only [List.map_cons, List.map_nil, List.cons.injEq, Prod.mk.injEq, and_true] at this
                exact this
              subst g1 g2 g3 g4 g5 g6 g7' g8
              exact ⟨_, oexB_ok h1, He.eqO_ok h2, He.eqO_ok h3, He.eqO_ok h4, of_decide_eq_true h5, of_decide_eq_true h6, He.eqO_ok h7, of_decide_eq_true h8,
                d.name, n9, n10, n11, n12, cda, n14, cc, oc, od, osl, cl, cld, csl, ccl, cdd, ccs, vs, file, tf, rfl, q, k1, e3, e4, k2, e5⟩
            · cases k3
          · cases k2
        · cases k2
      · cases c2
    | _ => cases c
/-- what an object names, a def's cells too -/
def refsX (o : Obj) : List Addr := match o.data with
  | .func fd => fd.closure.map (·.2) ++ refsT o
  | _ => refsT o
def frFX (g : Addr → Option Obj) : Nat → List Addr → (List Addr → List Addr) → List Addr
  | 0, as, k => k as
  | n + 1, as, k => frL (as.flatMap fun a => match g a with
    | some o => refsX o
    | none => []) fun bs => frFX g n bs fun cs => k (as ++ cs)
def asX (g : Addr → Option Obj) (n : Nat) : List Addr := frFX g n [mainGlobals] fun as => cStatics :: as
/-! ### the Hook -/
abbrev MXl : Type := MAl × (Bool × List He5.FnW)
def obsX (fn : List He5.DefA) (ex : List (PySem.W.Frag → Bool)) (ts : List He.Tab) (fl : Str) (xs : List DefX) (K : PySem.W.Frag) : MXl := (obsMT fn ex ts K, (xs.all fun d => d.ok K fl), xs.map fun d => fnXA K (d.at_ K))
def valX (fn : List He5.DefA) (ts : List He.Tab) (xs : List DefX) (w : World) : MXl := (valMT fn ts w, true, xs.map DefX.val)
def SaysX (fn : List He5.DefA) (ex : List (PySem.W.Frag → Bool)) (ts : List He.Tab) (fl : Str) (xs : List DefX) (w : World) (K : PySem.W.Frag) : Prop := obsX fn ex ts fl xs K = valX fn ts xs w
def obsXG (n : Nat) (fn : List He5.DefA) (ex : List (PySem.W.Frag → Bool)) (ts : List He.Tab) (fl : Str) (xs : List DefX) (g : Addr → Option Obj) : MXl := frL (asX g n) fun as => frK (He.frG g as) fun K => obsX fn ex ts fl xs K
theorem obsXG_plain {n : Nat} {fn : List He5.DefA} {ex : List (PySem.W.Frag → Bool)} {ts : List He.Tab} {fl : Str} {xs : List DefX} {g : Addr → Option Obj} : obsXG n fn ex ts fl xs g = obsX fn ex ts fl xs (He.frG g (asX g n)) := by
  unfold obsXG
  rw [frL_eq, frK_eq]
def hookX (n : Nat) (fn : List He5.DefA) (ex : List (PySem.W.Frag → Bool)) (ts : List He.Tab) (fl : Str) (xs : List DefX) : PySem.W.Hook where
  α := MXl
  obs := fun s => obsXG n fn ex ts fl xs s.heap.get?
  val := fun w => valX fn ts xs w
  says := fun w h => ∃ K : PySem.W.Frag, K.In h ∧ SaysX fn ex ts fl xs w K
  of := fun _ _ e => ⟨_, He.frG_in, Eq.trans obsXG_plain.symm e⟩
  keeps := fun _ _ _ ⟨K, hK, c⟩ k => ⟨K, PySem.W.Frag.In.keeps hK k, c⟩
theorem obsXG_eq {n : Nat} {fn : List He5.DefA} {ex : List (PySem.W.Frag → Bool)} {ts : List He.Tab} {fl : Str} {xs : List DefX} {g : Addr → Option Obj} {s : Shared} (h : ∀ a, g a = s.heap.get? a) : obsXG n fn ex ts fl xs g = (hookX n fn ex ts fl xs).obs s := by
  have e : g = s.heap.get? := funext h
  rw [e] <;> rfl
section
variable {fn : List He5.DefA} {ex : List (PySem.W.Frag → Bool)} {ts : List He.Tab} {fl : Str} {xs : List DefX} {w : World} {K : PySem.W.Frag}
theorem SaysX.mt (c : SaysX fn ex ts fl xs w K) : SaysMT fn ex ts w K := congrArg (fun z : MXl => z.1) c
theorem SaysX.m (c : SaysX fn ex ts fl xs w K) : SaysM fn ex K := c.mt.m
theorem SaysX.ck (c : SaysX fn ex ts fl xs w K) (i : Nat) {f : PySem.W.Frag → Bool} (h : ex[i]? = some f := by rfl) : f K = true := c.m.ck i h
theorem SaysX.fd (c : SaysX fn ex ts fl xs w K) (i : Nat) {d : He5.DefA} (h : fn[i]? = some d := by rfl) : ∃ fd, FunD K d.name d.qual d.params d.body d.scope (d.dvs K) (d.kws K) (d.at_ K) fd := c.m.fd i h
theorem SaysX.tb (c : SaysX fn ex ts fl xs w K) (i : Nat) {t : He.Tab} (h : ts[i]? = some t := by rfl) : He.dicW K (t.1 K) = some (He.keysIn w.params t.2) := c.mt.tb i h
theorem SaysX.xf {pg : Program} (c : SaysX fn ex ts pg.main.file xs w K) (i : Nat) {d : DefX} (h : xs[i]? = some d := by rfl) : ∃ fd, ExK pg K (d.C K) (d.at_ K) d.qual d.params d.body d.scope d.fld fd := by
  have e : xs.map (fun d => fnXA K (d.at_ K)) = xs.map DefX.val := congrArg (fun z : MXl => z.2.2) c
  have e2 : (xs.map fun d => fnXA K (d.at_ K))[i]? = (xs.map DefX.val)[i]? := by rw [e]
  rw [List.getElem?_map, List.getElem?_map, h] at e2
  have b : (xs.all fun d => d.ok K pg.main.file) = true := congrArg (fun z : MXl => z.2.1) c
  exact DefX.fn (Option.some.inj e2) (List.all_eq_true.mp b d (List.mem_of_getElem? h))
end
/-- .. ready for raise -/
theorem gX_ok {P' : Program} {w : World} {K : PySem.W.Frag} {mg : Str → Option Value} {base : Heap} {P : Par} {xn : Str} {C f : Nat} {fI : Addr} {qual : Str} {params : Arguments} {body : List Stmt} {scope : Scope} {k : Nat} {x : Str} (hx : P.nm f = x) (F : ∃ fd, ExK P' K (P.cA C) fI qual params body scope x fd) (S : ExS x params body scope)
    (htop : (P'.main.scope.names.lookup ("super" : Str)).isSome = false) (hms : mg "super" = none) (hm : mg xn = some (.ref (P.cA C)))
    (hb : ∀ (name : Str) (kV doc pm : Value) (an : Option Addr) (cdv ct : Value) (cc : Addr) (u v : Value), bindArgs (ksFn name qual params body scope .none kV doc pm an cdv ct cc) ⟨[u, v], []⟩ = pure [(("self" : Str), u), (x, v)]) : GX P' w K mg base P xn C f (k + 1) := by
  subst hx
  obtain ⟨fd, F⟩ := F
  refine ⟨fI, fd, F.T, F.ini, F.ty, exI_fn S F htop hms, hm, ?_⟩
  obtain ⟨name, kV, doc, pm, an, cda, ct, cc, oc, od, osl, cl, cld, csl, ccl, cdd, ccs, vf, file, tf, rfl, _⟩ := F.fn
  exact .all fun us hl => match us, hl with
    | [u, v], _ => hb name kV doc pm an _ ct cc u v
end M7
end

noncomputable section
/-! ### try: one statement / except C as e: found = e.f if isinstance(e, S) and not isinstance(e, ..) else ".." -/
namespace M7
open PySem PySem.Spec PyProof.Rows L2
open PySem.W (kitOne kitAny kitx_exc kia_one kia_tup any_some)
/-- the exception's value goes into slot j, nothing is known of the others -/
def sTryV (C f j : Nat) (m : MS) : MS := fun σ h => match m σ h with
  | .exc x h1 => (match Nat.beq x.C C, Nat.beq x.f f, x.us with
    | true, true, [u] => .nx (setF (List.replicate σ.length .no) j (.val u)) h1
    | _, _, _ => .bad)
  | .nx σ1 h1 => .nx σ1 h1
  | .rt u h1 => .rt u h1
  | .ct σ1 h1 => .ct σ1 h1
  | .bk σ1 h1 => .bk σ1 h1
  | .bad => .bad
/-- what an exception of the body wishes, whatever the slots are then -/
def EW (n : Nat) (W : WX) : XK := fun cls d H => ∀ σ : L2.St, σ.length = n → W cls d σ H
/-- the facts of the class C, its field fn -/
structure HX (K : PySem.W.Frag) (C : Addr) (fn : Str) : Prop where
  E : ExcC K C
  F : XfC K C
  no : PySem.W.findIn K (.ref C) fn = some none
  ex : PySem.W.exmOne K (.ref C) (.ref C) = some true
def hxB (K : PySem.W.Frag) (C : Addr) (fn : Str) : Bool := He.eqO (PySem.W.findIn K (.ref C) "__getattribute__") (some (some (.builtin "BaseException.__getattribute__"))) && (He.eqO (PySem.W.findIn K (.ref C) "__getattr__") (some none) && (decide (PySem.W.subIn K (.ref C) (.type "BaseException") = some true) && (PySem.W.hasDictIn K C &&
  (He.eqO (PySem.W.findIn K (.ref C) "__class__") (some (some (.builtin "object.__class__"))) && (He.eqO (PySem.W.specialIn K (.builtin "object.__class__") "__get__") (some (some (.builtin "getset_descriptor.__get__"))) && (decide (PySem.W.takesIn K (.builtin "object.__class__") = some true) && (decide (PySem.W.mroIn K C (.type "object") = some true) &&
  (He.eqO (PySem.W.findIn K (.ref C) fn) (some none) && decide (PySem.W.exmOne K (.ref C) (.ref C) = some true)))))))))
theorem hxB_ok {K : PySem.W.Frag} {C : Addr} {fn : Str} (h : hxB K C fn = true) : HX K C fn := by
  obtain ⟨h1, h⟩ := He.ba h
  obtain ⟨h2, h⟩ := He.ba h
  obtain ⟨h3, h⟩ := He.ba h
  obtain ⟨h4, h⟩ := He.ba h
  obtain ⟨h5, h⟩ := He.ba h
  obtain ⟨h6, h⟩ := He.ba h
  obtain ⟨h7, h⟩ := He.ba h
  obtain ⟨h8, h⟩ := He.ba h
  obtain ⟨h9, h10⟩ := He.ba h
  exact ⟨⟨He.eqO_ok h1, He.eqO_ok h2, of_decide_eq_true h3, h4, He.eqO_ok h5, He.eqO_ok h6, of_decide_eq_true h7, of_decide_eq_true h8⟩, ⟨He.eqO_ok h1, He.eqO_ok h2, of_decide_eq_true h3, h4⟩, He.eqO_ok h9, of_decide_eq_true h10⟩
def kitB (K : PySem.W.Frag) (C : Addr) (Cs : List Addr) (b : Bool) : Bool := decide (kitAny K (.ref C) (Cs.map .ref) = some b)
/-- the heap with at most one thing more -/
def Grow (H H' : Hp) : Prop := H' = H ∨ ∃ p o, H p = none ∧ H' = upd H p o
/-- the suite's state: e's slot holds the exception, its dict stands -/
def tSui (i : Nat) (a : Addr) (d : Option Addr) (b : Bool) : TT := fun σ H Q => σ[i]? = some (some (.ref a)) ∧ (∃ dd fs, d = some dd ∧ H dd = some (.xd fs)) ∧ ∀ H', Grow H H' → Q b H'
section
variable {X : Cx} {a D S dd : Addr} {oe : Obj} {cls : Value} {d : Option Addr} {pn : List (Addr × Obj)} {i : Nat} {n sn : Str} {b : Bool} {es : List Expr} {Cs : List Addr}
theorem inst_xd {pins : List (Addr × Obj)} {s : Shared} {σ : L2.St} {H : Hp} {fs : List (Str × V)} (I : Inv (X.suite a ((a, oe) :: pn)) pins σ H s) (hz : Zc (.ref D) (some dd) oe) (hf : ∃ vs, oe.data = .fields vs) (ea : H dd = some (.xd fs)) : ∃ od, PySem.W.InstAt s.heap a oe D (some od) := by
  obtain ⟨ha, _⟩ := I.pin (a, oe) (List.mem_append_left _ List.mem_cons_self)
  obtain ⟨vs, hd⟩ := hf
  have hx : ObjOk X.prog X.w H s.heap dd (.xd fs) := I.hok dd _ ea
  obtain ⟨mA, hns, hr⟩ := hx
  obtain ⟨od, ho, hl⟩ := lookIn_ns hns
  exact ⟨od, ha, hz.1, by unfold PySem.W.notCls; rw [hd] <;> rfl, by rw [hz.2]; exact ho⟩
theorem kitx_of {K : PySem.W.Frag} {od : Obj} (E : ExcC K D) : PySem.W.KitX K (.ref a) (.ref D) (fun h => PySem.W.InstAt h a oe D (some od)) := by
  obtain ⟨cd, hc, _⟩ := any_some E.hd
  exact kitx_exc (by rw [hc]; rfl) E.hg E.hk E.hs E.ha E.hn E.ht E.hm
theorem call_isX (E : ExcC X.K D) (hz : Zc (.ref D) (some dd) oe) (hf : ∃ vs, oe.data = .fields vs) : CallR (X.suite a ((a, oe) :: pn)) (.builtin "isinstance") (fun xs H Q => ∃ (c : Addr) (b : Bool) (fs : List (Str × V)), xs = [.ref a, .ref c] ∧ kitOne X.K (.ref D) (.ref c) = some b ∧ H dd = some (.xd fs) ∧ Q (.bl b) H) := by
  intro pins s σ H xs us Q I r h
  obtain ⟨c, b, fs, rfl, e, ea, q⟩ := h
  cases r with
  | cons rx rr =>
    cases rr with
    | cons rt rr =>
      cases rr
      cases rx
      cases rt
      obtain ⟨od, J⟩ := inst_xd I hz hf ea
      exact kia_one (kitx_of E) I.kIn J e (fun z => nomatch z) fun tk => ⟨.bl b, H, I.kept (t' := tk) fun _ _ z => z, rfl, q⟩
theorem refs_vals : ∀ {Cs : List Addr} {us : List Value}, Vals (Cs.map V.ref) us → us = Cs.map Value.ref
  | [], us, r => by cases r; rfl
  | c :: Cs, us, r => by
    cases r with
    | cons r1 r2 =>
      cases r1
      rw [refs_vals r2]
      rfl
theorem call_isXT (E : ExcC X.K D) (hz : Zc (.ref D) (some dd) oe) (hf : ∃ vs, oe.data = .fields vs) : CallR (X.suite a ((a, oe) :: pn)) (.builtin "isinstance") (fun xs H Q => ∃ (t : Addr) (Cs : List Addr) (b : Bool) (fs : List (Str × V)), xs = [.ref a, .ref t] ∧ H t = some (.tup (Cs.map .ref)) ∧ kitAny X.K (.ref D) (Cs.map .ref) = some b ∧ H dd = some (.xd fs) ∧ Q (.bl b) H) := by
  intro pins s σ H xs us Q I r h
  obtain ⟨t, Cs, b, fs, rfl, ht, e, ea, q⟩ := h
  cases r with
  | cons rx rr =>
    cases rr with
    | cons rt rr =>
      cases rr
      cases rx
      cases rt
      obtain ⟨od, J⟩ := inst_xd I hz hf ea
      have hx : ObjOk X.prog X.w H s.heap t (.tup (Cs.map .ref)) := I.hok t _ ht
      obtain ⟨z, its, rv, o, ho, hc, nn, hd⟩ := hx
      have ei := refs_vals rv
      subst ei
      obtain ⟨oc, od2, oda, osl⟩ := o
      dsimp only at hc hd
      subst hc hd
      exact kia_tup (kitx_of E) I.kIn J ho e (fun z => nomatch z) fun tk => ⟨.bl b, H, I.kept (t' := tk) fun _ _ z => z, rfl, q⟩
/-- isinstance(e, S) -/
theorem pt_isX {p1 p2 p3 pos : Pos} (E : ExcC X.K D) (hz : Zc (.ref D) (some dd) oe) (hf : ∃ vs, oe.data = .fields vs) (hg : Gl X "isinstance") (hm : X.mg "isinstance" = none) (hN : X.N[i]? = some n) (hv : Vis X.env.scope n) (hnd : (n == ("__debug__" : Str)) = false) (hnc : (n == ("__classdict__" : Str)) = false)
    (hgS : Gl X sn) (hmS : X.mg sn = some (.ref S)) (hsd : (sn == ("__debug__" : Str)) = false) (hk : kitAny X.K (.ref D) [.ref S] = some b)
    (hst : ∀ env, starEach [.Name n p2, .Name sn p3] env = (false, eval (.Name n p2) env) :: starEach [.Name sn p3] env) (hst2 : ∀ env, starEach [.Name sn p3] env = (false, eval (.Name sn p3) env) :: starEach [] env) (hpl : ∀ env, (backTo pos (starEach [.Name sn p3] env)).any (·.1) = false) :
    PT (X.suite a ((a, oe) :: pn)) (.Call (.Name "isinstance" p1) [.Name n p2, .Name sn p3] [] pos) (tSui i a (some dd) b) := by
  have ho : kitOne X.K (.ref D) (.ref S) = some b := by
    unfold kitAny at hk
    split at hk
    · rename_i q; cases hk; exact q
    · rename_i q; unfold kitAny at hk; cases hk; exact q
    · cases hk
  refine ⟨fun pins s σ H Q I h => ?_⟩
  refine (pt_truth (pe_callB (call_isX E hz hf) hg hm rfl (pa_cons (pe_var hN hv hnd hnc) (pa_cons (pe_glob (v := V.ref S) hgS hmS rfl hsd) pa_nil (hst2 _)) (hst _)) (by decide) (by decide) (hst _) (hpl _)) fun _ => rfl).run pins s σ H Q I ?_
  obtain ⟨h1, ⟨d2, fs, h2, h3⟩, h4⟩ := h
  cases h2
  exact ⟨.ref a, h1, S, b, fs, rfl, ho, h3, b, rfl, h4 H (.inl rfl)⟩
/-- isinstance(e, (S, T)) -/
theorem pt_isXT {p1 p2 pt pos : Pos} {x1 : Nat} (E : ExcC X.K D) (hz : Zc (.ref D) (some dd) oe) (hf : ∃ vs, oe.data = .fields vs) (hg : Gl X "isinstance") (hm : X.mg "isinstance" = none) (hN : X.N[i]? = some n) (hv : Vis X.env.scope n) (hnd : (n == ("__debug__" : Str)) = false) (hnc : (n == ("__classdict__" : Str)) = false)
    (hes : PA (X.suite a ((a, oe) :: pn)) es (fun _ H Q => Q (Cs.map V.ref) H)) (hl : Cs.length ≤ 1000) (hk : kitAny X.K (.ref D) (Cs.map .ref) = some b)
    (hst : ∀ env, starEach [.Name n p2, .Tuple es x1 pt] env = (false, eval (.Name n p2) env) :: starEach [.Tuple es x1 pt] env) (hst2 : ∀ env, starEach [.Tuple es x1 pt] env = (false, eval (.Tuple es x1 pt) env) :: starEach [] env) (hpl : ∀ env, (backTo pos (starEach [.Tuple es x1 pt] env)).any (·.1) = false) :
    PT (X.suite a ((a, oe) :: pn)) (.Call (.Name "isinstance" p1) [.Name n p2, .Tuple es x1 pt] [] pos) (tSui i a (some dd) b) := by
  refine ⟨fun pins s σ H Q I h => ?_⟩
  refine (pt_truth (pe_callB (call_isXT E hz hf) hg hm rfl (pa_cons (pe_var hN hv hnd hnc) (pa_cons (pe_tup hes) pa_nil (hst2 _)) (hst _)) (by decide) (by decide) (hst _) (hpl _)) fun _ => rfl).run pins s σ H Q I ?_
  obtain ⟨h1, ⟨d2, fs, h2, h3⟩, h4⟩ := h
  cases h2
  refine ⟨.ref a, h1, by rw [List.length_map, sizeLine_eq]; omega, fun t ht => ⟨t, Cs, b, fs, rfl, upd_same, hk, ?_, b, rfl, h4 _ (.inr ⟨t, _, ht, rfl⟩)⟩⟩
  rw [upd_ne fun z => by rw [z, ht] at h3; cases h3]
  exact h3
theorem pa_nils : PA (X.suite a ((a, oe) :: pn)) [] (fun _ H Q => Q ((([] : List Addr)).map V.ref) H) := pa_nil
theorem pa_refs {p : Pos} (hgS : Gl X sn) (hmS : X.mg sn = some (.ref S)) (hsd : (sn == ("__debug__" : Str)) = false) (h : PA (X.suite a ((a, oe) :: pn)) es (fun _ H Q => Q (Cs.map V.ref) H)) (hst : ∀ env, starEach (.Name sn p :: es) env = (false, eval (.Name sn p) env) :: starEach es env) :
    PA (X.suite a ((a, oe) :: pn)) (.Name sn p :: es) (fun _ H Q => Q ((S :: Cs).map V.ref) H) := pa_cons (pe_glob (X := X.suite a ((a, oe) :: pn)) (v := V.ref S) hgS hmS rfl hsd) h (hst _)
end
section
variable {P : Par} {X : Cx} {E : XK} {C f i j : Nat} {n y cn : Str} {b0 : Stmt} {mb : MS} {tA tB : Expr} {z : Str} {zk : Nat} {p1 p2 p3 p4 p5 p6 p7 p8 p9 p10 p11 : Pos}
theorem grow_ext {ρ : List Addr} {H H' : Hp} (g : Grow H H') : Ext ρ H ρ H' := by
  rcases g with g | ⟨p, o, h1, h2⟩
  · rw [g]; exact Ext.refl
  · rw [h2]; exact Ext.fresh h1
theorem grow_rh {ρ : List Addr} {W : WS} {hp : HP} {H H' : Hp} (rh : RH P ρ W hp H) (g : Grow H H') : RH P ρ W hp H' := by
  rcases g with g | ⟨p, o, h1, h2⟩
  · rw [g]; exact rh
  · rw [h2]; exact rh.fresh h1
theorem tS_tryV {fld : Str} (hfn : P.nm f = fld) (hs : X.stack = X.env :: X.outer) (hf : X.env.frame = some X.env.locals) (hN : X.N.Nodup) (hi : X.N[i]? = some n) (hln : X.env.kindOf n = some .local) (hj : X.N[j]? = some y) (hly : Loc X.env.scope y) (hfy : X.fn y = true ∨ X.env.scope.names.lookup y = some .local) (hij : i ≠ j)
    (hcn : Gl X cn) (hcd : (cn == ("__debug__" : Str)) = false) (hcm : X.mg cn = some (.ref (P.cA C))) (tk : ∀ W : WX, (∀ c d σ H, ¬ W c d σ H) → Takes X W) (hx : HX X.K (P.cA C) (P.nm f)) (hnd : (n == ("__debug__" : Str)) = false) (hnc : (n == ("__classdict__" : Str)) = false) (hv : Vis X.env.scope n)
    (hb : ∀ (W : WX) (pn : List (Addr × Obj)) (xe : Value → Shared → Prop), Takes (X.tr pn xe) W → PassesOwn (model X.prog X.w) X.A X.env xe → PS (X.tr pn xe) b0 (tS P (EW X.N.length W) mb))
    (hA : ∀ (a dd : Addr) (oe : Obj) (pn : List (Addr × Obj)), Zc (.ref (P.cA C)) (some dd) oe → (∃ vs, oe.data = .fields vs) → PT (X.suite a ((a, oe) :: pn)) tA (tSui i a (some dd) true))
    (hB : ∀ (a dd : Addr) (oe : Obj) (pn : List (Addr × Obj)), Zc (.ref (P.cA C)) (some dd) oe → (∃ vs, oe.data = .fields vs) → PT (X.suite a ((a, oe) :: pn)) tB (tSui i a (some dd) false))
    (hat : attributeBase (.Name n p7) fld X.env (eval (.Name n p7) X.env) = eval (.Name n p7) X.env)
    (hsw : swapsWith (.IfExp (.BoolOp .And [tA, .UnaryOp .Not tB p5] p6) (.Attribute (.Name n p7) fld p8) (.Constant (.str z) zk p9) p10) (some (.Name y p4)) p11.line X.env = pure false) :
    PS X (.Try [b0] [.ExceptHandler (some (.Name cn p1)) (some n) [.Assign [.Name y p4] (.IfExp (.BoolOp .And [tA, .UnaryOp .Not tB p5] p6) (.Attribute (.Name n p7) fld p8) (.Constant (.str z) zk p9) p10) p11] p2] [] [] p3) (tS P E (sTryV C f j mb)) := by
  subst hfn
  refine ⟨fun pins s σ H D I q => ?_⟩
  refine (ps_try_as (c := .ref (P.cA C)) (i := i) (tb := fun W => tS P (EW X.N.length W) mb) (Wout := fun _ _ _ _ => False)
    (ts := fun a cls d => fun D σ H => ∃ dd, d = some dd ∧ cls = .ref (P.cA C) ∧ tAsg (tIf (tAnd (tSui i a (some dd) true) (tNot (tSui i a (some dd) false))) (tXf a cls d (P.cA C) (P.nm f) (tVar i)) (tC (.str z))) (gName j) D σ H)
    hs hf hN hi hln ⟨hcn, hcd, .inl hcm⟩ (tk _ fun _ _ _ _ z => z) (fun W pn xe t1 t2 => pss_one (hb W pn xe t1 t2)) (fun a oe cls d pn hz hfd => ⟨fun pins s σ H D I q => ?_⟩)).run pins s σ H D I ?_
  · obtain ⟨dd, rfl, rfl, q⟩ := q
    exact (pss_one (ps_set (X := X.suite a ((a, oe) :: pn)) hN hj hly (pe_ifExp (pw_and (hA a dd oe pn hz hfd) (pw_and1 (pt_not (hB a dd oe pn hz hfd)))).pt (pe_xf hx.F hx.no hz hfd (pe_var (X := X.suite a ((a, oe) :: pn)) hi hv hnd hnc) hat) pe_str) hsw hfy)).run pins s σ H D I q
  obtain ⟨ρ, W0, W, σ', hp, rs, rh, po⟩ := q
  refine ⟨ρ, W0, W, σ', hp, rs, rh, ?_⟩
  unfold sTryV at po
  cases e : mb σ' hp with
  | nx σ1 h1 => rw [e] at po; exact po
  | rt u h1 => rw [e] at po; exact po
  | ct σ1 h1 => rw [e] at po; exact po
  | bk σ1 h1 => rw [e] at po; exact po
  | bad => rw [e] at po; exact po
  | exc x h1 =>
    rw [e] at po
    obtain ⟨xC, xf, xus⟩ := x
    dsimp only at po
    split at po
    · rename_i u e1 e2
      have e1 := Nat.eq_of_beq_eq_true e1
      have e2 := Nat.eq_of_beq_eq_true e2
      subst e1 e2
      intro ρ1 W1 H1 cls d x1 sub1 rh1 rx σ2 hl2
      obtain ⟨rfl, dd, fs, v, rfl, hdd, rfl, nρ, nW, ru⟩ := rx
      refine ⟨true, hx.ex, fun _ a ha => ⟨dd, rfl, rfl, ?_⟩, fun z => by cases z⟩
      have hil : i < X.N.length := (List.getElem?_eq_some_iff.mp hi).1
      have hjl : j < X.N.length := (List.getElem?_eq_some_iff.mp hj).1
      have hsi : (σ2.set i (some (V.ref a)))[i]? = some (some (V.ref a)) := List.getElem?_set_self (by omega)
      refine ⟨hsi, ⟨dd, _, rfl, hdd⟩, fun H2 g2 => ?_⟩
      have keep : ∀ {H H' : Hp}, Grow H H' → H dd = some (.xd [(P.nm xf, v)]) → H' dd = some (.xd [(P.nm xf, v)]) := fun {H H'} g h => by
        rcases g with g | ⟨p, o, k1, k2⟩
        · rw [g]; exact h
        · rw [k2, upd_ne fun z => by rw [z, k1] at h; cases h]
          exact h
      refine ⟨hsi, ⟨dd, _, rfl, keep g2 hdd⟩, fun H3 g3 => ?_⟩
      refine ⟨_, hsi, rfl, rfl, dd, _, v, rfl, keep g3 (keep g2 hdd), by rw [List.lookup_cons]; simp, ?_⟩
      have x3 : Ext ρ1 H1 ρ1 H3 := (grow_ext g2).trans (grow_ext g3)
      have hl0 : σ'.length = X.N.length := rs.len.trans I.len
      refine po ρ1 W1 H3 _ (x1.trans x3.toS) ⟨?_, sub1, fun k w e3 => ?_, fun k o e3 => ?_, fun k l o o' b e3 => ?_⟩ (grow_rh (grow_rh rh1 g2) g3)
      · rw [setF_eq]; simp [hl0, hl2]
      · rw [setF_eq] at e3
        by_cases hk : k = j
        · subst hk
          rw [List.getElem?_set_self (by simp; omega)] at e3
          cases e3
          refine ⟨v, ?_, ru.ext x3⟩
          rw [List.getElem?_set_ne hij, List.getElem?_set_self (by simp; omega)]
        · rw [List.getElem?_set_ne (Ne.symm hk)] at e3
          rw [List.getElem?_replicate] at e3
          split at e3 <;> cases e3
      · rw [setF_eq] at e3
        by_cases hk : k = j
        · subst hk
          rw [List.getElem?_set_self (by simp; omega)] at e3
          cases e3
        · rw [List.getElem?_set_ne (Ne.symm hk)] at e3
          rw [List.getElem?_replicate] at e3
          split at e3 <;> cases e3
      · rw [setF_eq] at e3
        by_cases hk : k = j
        · subst hk
          rw [List.getElem?_set_self (by simp; omega)] at e3
          cases e3
        · rw [List.getElem?_set_ne (Ne.symm hk)] at e3
          rw [List.getElem?_replicate] at e3
          split at e3 <;> cases e3
    · exact po.elim
end
end M7
end

noncomputable section
/-! ### d.get(k, x), d a dict of the logical heap -/
namespace M7
open PySem PySem.Spec PyProof.Rows L2
def eDGet (mo mk md : ME) : ME := fun σ h => (mo σ h).bind fun o h1 => match o with
  | .ref n => (match h1.m n with
    | some (.dK _ _) => (mk σ h1).bind fun k h2 => (md σ h2).bind fun d h3 => (match h3.m n with
      | some (.dK ks us) => (match keyU k with
        | some kk => (match lookK ks us kk with
          | some u => .ok u h3
          | none => .ok d h3)
        | none => .bad)
      | _ => .bad)
    | _ => .bad)
  | _ => .bad
section
variable {P : Par} {X : Cx} {E : XK} {o e f : Expr} {apos cpos : Pos} {mo mk md : ME}
theorem tM_dget (hu64 : X.A.units + 64 < cLine) (ho : PE X o (tM P E mo)) (he : PE X e (tM P E mk)) (hf : PE X f (tM P E md)) (m : M2 X o "get" apos e f cpos) : PE X (.Call (.Attribute o "get" apos) [e, f] [] cpos) (tM P E (eDGet mo mk md)) :=
  ⟨fun pins s σ H Q I q => (pe_dget2 (by omega) ho he hf m).run pins s σ H Q I (by
    obtain ⟨ρ, W0, W, σ', hp, rs, rh, po⟩ := q
    refine tM_then rs rh po fun ρ1 H1 u v hp1 rs1 rh1 ru1 x1 po1 => ?_
    split at po1
    · rename_i n
      split at po1
      · rename_i ks0 us0 e0
        obtain ⟨a, kvs0, rfl, ha, hd, rk⟩ := dictRef rh1 ru1 e0
        refine ⟨a, rfl, .inl ⟨kvs0, .inl hd⟩, ?_⟩
        refine tM_then rs1 rh1 po1 fun ρ2 H2 k kv hp2 rs2 rh2 rk2 x2 po2 => ?_
        refine tM_then rs2 rh2 po2 fun ρ3 H3 d dv hp3 rs3 rh3 rd3 x3 po3 => ?_
        split at po3
        · rename_i ks us e3
          split at po3
          · rename_i kk ek
            obtain ⟨a', kvs, ea', ha', hd', rk'⟩ := dictRef rh3 ((ru1.ext x2).ext x3) e3
            cases ea'
            have ekv := keyU_ok (rk2.ext x3) ek
            subst ekv
            obtain ⟨l1, l2⟩ := lookK_ok (x := kk) rk'
            refine ⟨_, DGet.k hd', ?_⟩
            split at po3
            · rename_i u2 e4
              obtain ⟨w, ew, rw'⟩ := l2 u2 e4
              rw [ew]
              exact po3.pure rh3 rw'
            · rename_i e4
              rw [l1 e4]
              exact po3.pure rh3 rd3
          · exact po3.elim
        · exact po3.elim
      · exact po1.elim
    · exact po1.elim)⟩
end
/-- an exception of a callee, in a try's body -/
theorem pass_EW {X : Cx} {W : WX} (t : Takes X W) : Passes (L2.CX X.prog X.w) X (EW X.N.length W) := fun pins σ H s e s' I c => t e s' (XE.of_call I (fun cls d H' h => h σ I.len) c)
section
variable {P' : Program} {w : World} {K : PySem.W.Frag} {mg : Str → Option Value} {base : Heap} {N : List Str} {qual : Str} {scope : Scope} {f : Addr} {cdv : Value} {A : Around} {outer : List Env} {s : Shared} {H : Hp} {E : XK}
theorem tk_own : Takes (cxOf (L2.CX P' w) P' w K mg base N qual scope f cdv A outer s H E) (fun cls d _ H => E cls d H) := takes_of rfl rfl rfl rfl
theorem tk_not (W : WX) (h : ∀ c d σ H, ¬ W c d σ H) : Takes (cxOf (L2.CX P' w) P' w K mg base N qual scope f cdv A outer s H E) W := (takes_of rfl rfl rfl rfl).imp fun c d σ H z => absurd z (h c d σ H)
theorem pass_not (E' : XK) (h : ∀ c d H, ¬ E' c d H) : Passes (L2.CX P' w) (cxOf (L2.CX P' w) P' w K mg base N qual scope f cdv A outer s H E) E' := passes_call (takes_of rfl rfl rfl rfl) fun c d _ H z => absurd z (h c d H)
end
/-- a def that calls itself: nothing at first -/
theorem fnBad {P' : Program} {w : World} {K : PySem.W.Frag} {mg : Str → Option Value} {base : Heap} {CX : CXT} {k n : Nat} {f : Addr} {fd : FuncData} {ps : List Str} {P : Par} (hn : ps.length = n) : FnOk P' w K mg base CX k f fd ps (spM P n fun _ _ => .bad) := by
  refine ⟨fun vs H Q E h => h.1.trans hn.symm, fun A outer s H args us vs Q E hr e0 hb rv h => ?_⟩
  obtain ⟨_, ρ, W, us, hp, ru, rh, po⟩ := h
  exact po.elim
/-! ### list(a text) -/
def cListS (m : ME) : MA := fun σ h => (m σ h).bindA fun u h1 => match u with
  | .str x => if fits x.length = true then .ok (x.map fun c => .str [c]) h1 else .bad
  | _ => .bad
theorem call_listS {X : Cx} (hc : X.calm = true) : CallR X (.type "list") (fun xs H Q => ∃ x : Str, xs = [.str x] ∧ x.cps.size ≤ sizeLine ∧ ∀ l, H l = none → Q (.ref l) (upd H l (.lst (x.cps.toList.map fun c => V.str ⟨#[c]⟩)))) := by
  intro pins s σ H xs us Q I r h
  obtain ⟨x, e, hz, q⟩ := h
  subst e
  obtain ⟨u, eu, rx⟩ := vals1 r
  subst eu
  obtain ⟨t, rfl⟩ := rx
  refine PySem.call_list_str (I.ok.hd hc) x t (hn := hz) fun h' tk acc' c' hkeep hS hacc => ?_
  have el : acc'.toList.length = acc'.size := by simp
  refine ⟨.ref s.heap.objs.size, upd H s.heap.objs.size (.lst (x.cps.toList.map fun c => V.str ⟨#[c]⟩)), I.laid hkeep (Nat.le_refl _) (show ObjOk X.prog X.w _ _ _ (.lst (x.cps.toList.map fun c => V.str ⟨#[c]⟩)) from ⟨?_, acc'.toList, c', ?_, ?_⟩), rfl, q _ (I.hok.fresh (Nat.le_refl _))⟩
  · rw [List.length_map]; simpa using hz
  · refine vals_of_at (by rw [List.length_map, el, hacc.1]; simp) fun j v w h1 h2 => ?_
    obtain ⟨c, u, hj, rfl⟩ := hacc.2 j w (by rw [← Array.getElem?_toList]; exact h2)
    rw [List.getElem?_map, Array.getElem?_toList, hj] at h1
    cases h1
    exact ⟨u, rfl⟩
  · rw [Array.toArray_toList]; exact hS
section
variable {P : Par} {X : Cx} {E : XK} {pos : Pos}
theorem tC_listS {e : Expr} {m : ME} {p : Pos} (hc : X.calm = true) (hg : Gl X "list") (hm : X.mg "list" = none) (hv : bootBuiltins "list" = some (.type "list")) (he : PE X e (tM P E m)) (q1 : starEach [e] X.env = (false, eval e X.env) :: starEach [] X.env) (q2 : (backTo pos (starEach [] X.env)).any (·.1) = false) :
    PE X (.Call (.Name "list" p) [e] [] pos) (tMC P E (cListS m)) := ⟨fun pins s σ H Q I q => by
  refine (pe_callTy (call_listS hc) hg hm hv (pa_cons he pa_nil q1) (by decide) (by decide) q1 q2).run pins s σ H Q I ?_
  obtain ⟨ρ, W0, W, σ', hp, rs, rh, po⟩ := q
  refine tM_thenC rs rh po fun ρ1 H1 u v hp1 rs1 rh1 ru1 x1 po1 => ?_
  split at po1
  · rename_i x
    split at po1
    · rename_i hf
      cases ru1
      refine ⟨_, rfl, by simpa using fits_le hf, PostC.now po1 rh1 ?_⟩
      show RUs P ρ1 _ H1 (x.map fun c => U.str [c]) (x.map fun c => V.str ⟨#[c]⟩)
      clear po1 hf
      induction x with
      | nil => exact .nil
      | cons c x ih => exact .cons (.str [c]) ih
    · exact po1.elim
  · exact po1.elim⟩
end
/-! ### repr of a text -/
def reprL (x : List Nat) : List Nat := (reprText ⟨x.toArray⟩).cps.toList
def gReprT : HP → U → Option U := fun _ u => match u with
  | .str x => if fits (reprL x).length = true then some (.str (reprL x)) else none
  | _ => none
theorem cr_reprT {P : Par} {X : Cx} : CallR X (.builtin "repr") (cOf P (g1 gReprT)) := by
  intro pins s σ H xs us Q I rv ⟨ρ, W, hp, ls, c, rh, rs, e, k⟩
  obtain ⟨u, v, rfl, ru, e⟩ := g1_ok rs e
  unfold gReprT at e
  split at e
  · rename_i x
    split at e
    · rename_i hf
      cases e
      cases ru
      obtain ⟨u0, eu, rx⟩ := vals1 rv
      subst eu
      obtain ⟨t, rfl⟩ := rx
      refine PySem.P.repr_of_str (hsz := fits_le (by unfold reprL at hf; rw [Array.length_toList] at hf; exact hf)) ⟨.str (reprText ⟨x.toArray⟩), H, I.tok _, ⟨_, rfl⟩, ?_⟩
      have z := k.now rh (.str (reprL x))
      have e2 : (⟨(reprL x).toArray⟩ : Str) = reprText ⟨x.toArray⟩ := by
        unfold reprL
        cases reprText ⟨x.toArray⟩ with
        | mk cps => simp
      rw [e2] at z
      exact z
    · cases e
  · cases e
def gReprX : GA := gaOr gReprA (g1 gReprT)
def gReprY : GA := gaOr gReprS (g1 gReprT)
theorem cr_reprX {P : Par} {X : Cx} (hK : X.K = P.K) (hg : X.A.guards = some []) (hu : X.A.units + 64 < cLine) : CallR X (.builtin "repr") (cOf P gReprX) := callOr (cr_reprA hK hg hu) cr_reprT
theorem cr_reprY {P : Par} {X : Cx} : CallR X (.builtin "repr") (cOf P gReprY) := callOr cr_reprS cr_reprT
end M7
end

noncomputable section
/-! ### comprehensions and loops over known rows -/
namespace M7
open PySem PySem.Spec PyProof.Rows L2
/-- [f(x) for x in xs if p(x)], under an invariant of the heap -/
theorem lc_fm {I : HP → Prop} {g : GT} {tt : MT} {e : ME} {vs : List Nat} {s : Src} {σ : SS} {xs : List U} {σu : U → SS} {p : U → Bool} {f : U → U}
    (hs : ∀ h, I h → ∀ i, s h i = some (xs[i]?)) (hg : ∀ h, I h → ∀ u ∈ xs, g (wipeU σ vs) h u = some (σu u)) (ht : ∀ h, I h → ∀ u ∈ xs, ∃ h', tt (σu u) h = .ok (p u) h' ∧ I h') (he : ∀ h, I h → ∀ u ∈ xs, p u = true → ∃ h', e (σu u) h = .ok (f u) h' ∧ I h') :
    ∀ (m i : Nat) (acc : List U) (h : HP), I h → i + m = xs.length → acc.length + m ≤ 1000000 → ∃ h', lcG g tt (bElt e) vs s m i (.lst acc) σ h = .ok (.lst (acc ++ ((xs.drop i).filter p).map f)) h' ∧ I h'
  | 0, i, acc, h, hI, hm, ha => by
    refine ⟨h, ?_, hI⟩
    rw [lcG_eq, hs h hI i, List.getElem?_eq_none (by omega), List.drop_eq_nil_of_le (by omega)]
    simp
  | m + 1, i, acc, h, hI, hm, ha => by
    have hi : i < xs.length := by omega
    have hd : xs.drop i = xs[i] :: xs.drop (i + 1) := List.drop_eq_getElem_cons hi
    have mem := List.getElem_mem hi
    obtain ⟨h1, e1, I1⟩ := ht h hI xs[i] mem
    cases hp : p xs[i] with
    | true =>
      obtain ⟨h2, e2, I2⟩ := he h1 I1 xs[i] mem hp
      obtain ⟨h3, e3, I3⟩ := lc_fm hs hg ht he m (i + 1) (acc ++ [f xs[i]]) h2 I2 (by omega) (by rw [List.length_append, List.length_singleton]; omega)
      refine ⟨h3, ?_, I3⟩
      rw [lcG_eq, hs h hI i, List.getElem?_eq_getElem hi]
      have hb : bElt e (.lst acc) (σu xs[i]) h1 = .ok (.lst (acc ++ [f xs[i]])) h2 := by
        unfold bElt
        rw [e2]
        dsimp only
        have hb0 : Nat.blt acc.length 16777216 = true := Nat.ble_eq_true_of_le (by omega)
        rw [if_pos hb0]
      dsimp only
      rw [hg h hI _ mem]
      dsimp only
      rw [e1, hp]
      dsimp only
      rw [hb]
      dsimp only
      rw [e3, hd, List.filter_cons, hp, List.append_assoc]
      rfl
    | false =>
      obtain ⟨h3, e3, I3⟩ := lc_fm hs hg ht he m (i + 1) acc h1 I1 (by omega) (by omega)
      refine ⟨h3, ?_, I3⟩
      rw [lcG_eq, hs h hI i, List.getElem?_eq_getElem hi]
      dsimp only
      rw [hg h hI _ mem]
      dsimp only
      rw [e1, hp]
      dsimp only
      rw [e3, hd, List.filter_cons, hp]
      rfl
/-- .. that leaves the heap alone -/
theorem lc_p {g : GT} {tt : MT} {e : ME} {vs : List Nat} {s : Src} {σ : SS} {xs : List U} {h : HP} {j : MJ} {σu : U → SS} {p : U → Bool} {f : U → U} (hj : j σ h = .ok s xs.length h) (hl : xs.length ≤ 1000000)
    (hs : ∀ i, s h i = some (xs[i]?)) (hg : ∀ u ∈ xs, g (wipeU σ vs) h u = some (σu u)) (ht : ∀ u ∈ xs, tt (σu u) h = .ok (p u) h) (he : ∀ u ∈ xs, p u = true → e (σu u) h = .ok (f u) h) :
    eFz (cLc j g tt (bElt e) vs) σ h = .ok (.lst ((xs.filter p).map f)) h := by
  obtain ⟨h', e1, e2⟩ := lc_fm (s := s) (σ := σ) (I := fun h' => h' = h) (xs := xs) (p := p) (f := f) (fun _ z i => by rw [z]; exact hs i) (fun _ z u hu => by rw [z]; exact hg u hu) (fun _ z u hu => ⟨h, by rw [z]; exact ht u hu, rfl⟩) (fun _ z u hu hp => ⟨h, by rw [z]; exact he u hu hp, rfl⟩)
    xs.length 0 [] h rfl (Nat.zero_add _) (by simpa using hl)
  subst e2
  exact ev_fz (ea_lc hj e1)
theorem nth_src (xs : List U) (h : HP) (i : Nat) : srcL xs h i = some (xs[i]?) := congrArg some (nthF_eq xs i)
/-- the row with its numbers -/
def enU : Nat → List U → List U
  | _, [] => []
  | i, u :: us => pairI i u :: enU (i + 1) us
theorem enU_len : ∀ (i : Nat) (us : List U), (enU i us).length = us.length
  | _, [] => rfl
  | i, u :: us => congrArg (· + 1) (enU_len (i + 1) us)
theorem enU_at : ∀ (k : Nat) (us : List U) (i : Nat), (enU k us)[i]? = (us[i]?).map (pairI (k + i))
  | _, [], _ => by simp [enU]
  | k, u :: us, 0 => rfl
  | k, u :: us, i + 1 => by
    show (enU (k + 1) us)[i]? = _
    rw [enU_at (k + 1) us i, List.getElem?_cons_succ]
    have : k + 1 + i = k + (i + 1) := by omega
    rw [this]
theorem enU_mem : ∀ {k : Nat} {us : List U} {w : U}, w ∈ enU k us → ∃ i u, u ∈ us ∧ w = pairI i u
  | _, [], _, h => by cases h
  | k, u :: us, w, h => by
    rcases List.mem_cons.mp h with z | z
    · exact ⟨k, u, List.mem_cons_self, z⟩
    · obtain ⟨i, v, h1, h2⟩ := enU_mem z
      exact ⟨i, v, List.mem_cons_of_mem _ h1, h2⟩
theorem srcE_at {s : Src} {h : HP} {us : List U} (hs : ∀ i, s h i = some (us[i]?)) (i : Nat) : srcE s h i = some ((enU 0 us)[i]?) := by
  unfold srcE
  rw [hs i, enU_at, Nat.zero_add]
  cases us[i]? <;> rfl
/-- what leaves a loop -/
def stopS : RS → Bool
  | .rt _ _ => true
  | .exc _ _ => true
  | _ => false
/-- for x in xs: b, b ending the loop at the first x with p -/
theorem for_find {g : GT} {b : MS} {s : Src} {h : HP} {xs : List U} {J : SS → Prop} {p : U → Bool} {r : U → RS} (hs : ∀ i, s h i = some (xs[i]?)) (hr : ∀ u, stopS (r u) = true)
    (hb : ∀ σ u, J σ → u ∈ xs → ∃ σ1, g σ h u = some σ1 ∧ ((p u = false → ∃ σ2, b σ1 h = .nx σ2 h ∧ J σ2) ∧ (p u = true → b σ1 h = r u))) :
    ∀ (m i : Nat) (σ : SS), i + m = xs.length → J σ → (match (xs.drop i).find? p with
      | none => ∃ σ', forR g b s m i σ h = .nx σ' h ∧ J σ'
      | some u => forR g b s m i σ h = r u)
  | 0, i, σ, hm, hJ => by
    rw [List.drop_eq_nil_of_le (by omega)]
    refine ⟨σ, ?_, hJ⟩
    rw [forR_eq, hs i, List.getElem?_eq_none (by omega)]
  | m + 1, i, σ, hm, hJ => by
    have hi : i < xs.length := by omega
    have hd : xs.drop i = xs[i] :: xs.drop (i + 1) := List.drop_eq_getElem_cons hi
    obtain ⟨σ1, e1, hF, hT⟩ := hb σ xs[i] hJ (List.getElem_mem hi)
    cases hp : p xs[i] with
    | false =>
      obtain ⟨σ2, e2, J2⟩ := hF hp
      have ih := for_find hs hr hb m (i + 1) σ2 (by omega) J2
      have step : forR g b s (m + 1) i σ h = forR g b s m (i + 1) σ2 h := by
        rw [forR_eq, hs i, List.getElem?_eq_getElem hi]
        dsimp only
        rw [e1]
        dsimp only
        rw [e2]
      rw [hd, List.find?_cons, hp, step]
      exact ih
    | true =>
      have e2 := hT hp
      rw [hd, List.find?_cons, hp]
      dsimp only
      rw [forR_eq, hs i, List.getElem?_eq_getElem hi]
      dsimp only
      rw [e1]
      dsimp only
      rw [e2]
      have := hr xs[i]
      cases e : r xs[i] with
      | rt u h => rfl
      | exc x h => rfl
      | nx σ h => rw [e] at this; cases this
      | ct σ h => rw [e] at this; cases this
      | bk σ h => rw [e] at this; cases this
      | bad => rfl

/-! ### words -/
theorem split_ne (y e : List Nat) : ∃ w ws, splitL y e = w :: ws := by
  exact ⟨_, _, rfl⟩
theorem split_facts {y : List Nat} (hy : y ≠ []) : ∀ (n : Nat) (e : List Nat), e.length ≤ n → (splitL y e).length ≤ e.length + 1 ∧ ∀ w ∈ splitL y e, w.length ≤ e.length ∧ ∀ c ∈ w, c ∈ e
  | n, [], _ => by
    rw [split_nil]
    exact ⟨Nat.le_refl _, fun w hw => by rw [List.mem_singleton.mp hw]; exact ⟨Nat.le_refl _, fun c hc => by cases hc⟩⟩
  | 0, c :: r, hn => by cases hn
  | n + 1, c :: r, hn => by
    have hr : r.length ≤ n := by simpa using hn
    by_cases h : (c :: r).take y.length = y
    · have hyl : 1 ≤ y.length := by
        cases y with
        | nil => exact absurd rfl hy
        | cons a b => simp
      obtain ⟨h1, h2⟩ := split_facts hy n ((c :: r).drop y.length) (by rw [List.length_drop, List.length_cons]; omega)
      rw [split_hit hy h]
      rw [List.length_drop] at h1
      refine ⟨by rw [List.length_cons]; rw [List.length_cons] at *; omega, fun w hw => ?_⟩
      rcases List.mem_cons.mp hw with z | z
      · rw [z]; exact ⟨Nat.zero_le _, fun c hc => by cases hc⟩
      · obtain ⟨k1, k2⟩ := h2 w z
        rw [List.length_drop] at k1
        exact ⟨by omega, fun d hd => List.mem_of_mem_drop (k2 d hd)⟩
    · obtain ⟨h1, h2⟩ := split_facts hy n r hr
      rw [split_miss h]
      obtain ⟨w, ws, ew⟩ := split_ne y r
      rw [ew] at h1 h2 ⊢
      refine ⟨by show (([c] ++ w) :: ws).length ≤ _; rw [List.length_cons, List.length_cons]; rw [List.length_cons] at h1; omega, fun x hx => ?_⟩
      have hx' : x ∈ ([c] ++ w) :: ws := hx
      rcases List.mem_cons.mp hx' with z | z
      · obtain ⟨k1, k2⟩ := h2 w List.mem_cons_self
        rw [z]
        refine ⟨by rw [List.length_append, List.length_singleton, List.length_cons]; omega, fun d hd => ?_⟩
        rcases List.mem_append.mp hd with q | q
        · rw [List.mem_singleton.mp q]; exact List.mem_cons_self
        · exact List.mem_cons_of_mem _ (k2 d q)
      · obtain ⟨k1, k2⟩ := h2 x (List.mem_cons_of_mem _ z)
        exact ⟨by rw [List.length_cons]; omega, fun d hd => List.mem_cons_of_mem _ (k2 d hd)⟩
theorem anyEq_T (x : List Nat) : ∀ ws : List (List Nat), anyEq (.str x) (T ws) = some (decide (x ∈ ws))
  | [] => by simp [anyEq]
  | w :: ws => by
    have e1 : eqF (.str w) (.str x) = some (decide (w = x)) := congrArg some (listEq_iff w x)
    show (match eqF (.str w) (.str x), anyEq (.str x) (T ws) with | some a, some b => some (a || b) | _, _ => none) = _
    rw [e1, anyEq_T x ws]
    show some (decide (w = x) || decide (x ∈ ws)) = _
    refine congrArg some ?_
    by_cases h1 : w = x
    · rw [decide_eq_true h1, decide_eq_true (show x ∈ w :: ws from h1 ▸ List.mem_cons_self)]
      rfl
    · rw [decide_eq_false h1, Bool.false_or]
      refine decide_eq_decide.mpr ⟨fun z => List.mem_cons_of_mem _ z, fun z => ?_⟩
      rcases List.mem_cons.mp z with q | q
      · exact absurd q.symm h1
      · exact q
theorem inS_of {h : HP} {x : List Nat} {u : U} {ws : List (List Nat)} (e : asSeq h u = some (T ws)) (nu : ∀ z, u ≠ .str z) : gInAll h (.str x) u = some (.bl (decide (x ∈ ws))) := by
  have e1 : gInStr false h (.str x) u = none := by
    unfold gInStr
    cases u <;> first | rfl | exact absurd rfl (nu _)
  have e2 : gInSeq false h (.str x) u = some (.bl (decide (x ∈ ws))) := by
    unfold gInSeq
    rw [e]
    show (anyEq (.str x) (T ws)).map _ = _
    rw [anyEq_T]
    rfl
  unfold gInAll gInAny gOr
  rw [e1, e2]
theorem notInS_of {h : HP} {x : List Nat} {u : U} {ws : List (List Nat)} (e : asSeq h u = some (T ws)) (nu : ∀ z, u ≠ .str z) : gNotInAll h (.str x) u = some (.bl (!decide (x ∈ ws))) := by
  have e1 : gInStr true h (.str x) u = none := by
    unfold gInStr
    cases u <;> first | rfl | exact absurd rfl (nu _)
  have e2 : gInSeq true h (.str x) u = some (.bl (!decide (x ∈ ws))) := by
    unfold gInSeq
    rw [e]
    show (anyEq (.str x) (T ws)).map _ = _
    rw [anyEq_T]
    rfl
  unfold gNotInAll gNotInAny gOr
  rw [e1, e2]
theorem allB_map {α : Type} (f : α → Bool) : ∀ xs : List α, allB (xs.map fun x => .bl (f x)) = some (xs.all f)
  | [] => rfl
  | x :: xs => by
    show (allB (xs.map fun x => U.bl (f x))).map _ = _
    rw [allB_map f xs]
    rfl
theorem gAll_of {α : Type} {h : HP} {f : α → Bool} {xs : List α} : (g1 gAll) h [.lst (xs.map fun x => .bl (f x))] = some (.bl (xs.all f)) := by
  show gAll h (.lst (xs.map fun x => U.bl (f x))) = _
  unfold gAll
  show (allB (xs.map fun x => U.bl (f x))).map U.bl = _
  rw [allB_map]
  rfl
theorem tt_not {σ : SS} {h h1 : HP} {m : ME} {k : Bool} (e : m σ h = .ok (.bl k) h1) : tNot' (tVal m) σ h = .ok (!k) h1 := by
  unfold tNot' tVal
  rw [e]
  cases k <;> rfl
theorem tt_val {σ : SS} {h h1 : HP} {m : ME} {k : Bool} (e : m σ h = .ok (.bl k) h1) : tVal m σ h = .ok k h1 := by
  unfold tVal
  rw [e]
  cases k <;> rfl
theorem ev_andB {σ : SS} {h : HP} {a b : ME} {x y : Bool} (e1 : a σ h = .ok (.bl x) h) (e2 : x = true → b σ h = .ok (.bl y) h) : eAnd a b σ h = .ok (.bl (x && y)) h := by
  cases x with
  | true => exact ev_and e1 (e2 rfl)
  | false => exact ev_andF e1
theorem cut_takeP {α : Type} (xs : List α) (m : Nat) : cutU xs none (some (m : Int)) = xs.take m := by
  unfold cutU
  rw [HT.sIx_none, HT.sIx_nat, List.drop_zero, Nat.sub_zero]
  rcases Nat.le_total m xs.length with h | h
  · rw [Nat.min_eq_left h]
  · rw [Nat.min_eq_right h, List.take_of_length_le (Nat.le_refl _), List.take_of_length_le h]
theorem cut_drop {α : Type} (xs : List α) (m : Nat) : cutU xs (some (m : Int)) none = xs.drop m := by
  unfold cutU
  rw [HT.sIx_none, HT.sIx_nat]
  rcases Nat.le_total m xs.length with h | h
  · rw [Nat.min_eq_left h]
    exact List.take_of_length_le (by rw [List.length_drop]; omega)
  · rw [Nat.min_eq_right h, List.drop_eq_nil_of_le (Nat.le_refl _), List.drop_eq_nil_of_le h]
    exact List.take_nil
theorem ev_slL {σ : SS} {h h1 h2 : HP} {ma mb : ME} {x r : U} {m : Nat} (e1 : ma σ h = .ok x h1) (e2 : mb σ h1 = .ok (.int (m : Int)) h2) (e3 : gSl h2 x (some (m : Int)) none = some r) : eSl ma (some mb) none σ h = .ok r h2 := by
  unfold eSl
  rw [e1]
  show (mb σ h1).bind _ = _
  rw [e2]
  show (match gSl h2 x (some (m : Int)) none with | some r => R.ok r h2 | none => R.bad) = _
  rw [e3]
theorem ev_slH {σ : SS} {h h1 h2 : HP} {ma mb : ME} {x r : U} {m : Nat} (e1 : ma σ h = .ok x h1) (e2 : mb σ h1 = .ok (.int (m : Int)) h2) (e3 : gSl h2 x none (some (m : Int)) = some r) : eSl ma none (some mb) σ h = .ok r h2 := by
  unfold eSl
  rw [e1]
  show (mb σ h1).bind _ = _
  rw [e2]
  show (match gSl h2 x none (some (m : Int)) with | some r => R.ok r h2 | none => R.bad) = _
  rw [e3]
theorem sl_dropL {h : HP} {us : List U} {m : Nat} : gSl h (.lst us) (some (m : Int)) none = some (.lst (us.drop m)) := by
  show some (U.lst (cutU us (some (m : Int)) none)) = _
  rw [cut_drop]
theorem sl_takeL {h : HP} {us : List U} {m : Nat} : gSl h (.lst us) none (some (m : Int)) = some (.lst (us.take m)) := by
  show some (U.lst (cutU us none (some (m : Int)))) = _
  rw [cut_takeP]
/-! ### more steps -/
theorem st_exprP {σ : SS} {h h1 : HP} {m : ME} {u : U} (e : m σ h = .ok u h1) : sExpr m σ h = .nx σ h1 := by
  unfold sExpr
  rw [e]
  rfl
theorem bind_okP {u : U} {h : HP} {f : U → HP → R} : (R.ok u h).bind f = f u h := rfl
theorem ev_appP {σ : SS} {h : HP} {mo m : ME} {n : Nat} {xs : List U} {w : U} (e1 : mo σ h = .ok (.ref n) h) (e2 : m σ h = .ok w h) (e3 : h.m n = some (.lst xs)) (e4 : xs.length < 16777216) : eAppH mo m σ h = .ok .non (h.set n (.lst (xs ++ [w]))) := by
  have hb : Nat.blt xs.length 16777216 = true := Nat.ble_eq_true_of_le e4
  unfold eAppH
  rw [e1, bind_okP]
  dsimp only
  rw [e3]
  dsimp only
  rw [e2, bind_okP, e3]
  dsimp only
  rw [hb]
theorem ev_tupP {σ : SS} {h h1 : HP} {k : MA} {us : List U} (e1 : k σ h = .ok us h1) (e2 : fits us.length = true) : eTup k σ h = .ok (.tup us) h1 := by
  unfold eTup
  rw [e1]
  show (if fits us.length = true then R.ok (U.tup us) h1 else R.bad) = _
  rw [if_pos e2]
theorem gAdd_llP {h : HP} {xs ys : List U} (hl : xs.length + ys.length ≤ 16777216) : gAddAny h (.lst xs) (.lst ys) = some (.lst (xs ++ ys)) := by
  have hf : fits (xs.length + ys.length) = true := Nat.ble_eq_true_of_le hl
  show gOr (gOr _ gAddS) (gOr gAddL gAddT) h (.lst xs) (.lst ys) = _
  unfold gOr gII gAddS gAddL asLstT
  dsimp only
  rw [if_pos hf]
theorem gAdd_ssP {h : HP} {a b : List Nat} (hl : a.length + b.length ≤ 16777216) : gAddAny h (.str a) (.str b) = some (.str (a ++ b)) := by
  have hf : fits (a.length + b.length) = true := Nat.ble_eq_true_of_le hl
  show gOr (gOr _ gAddS) _ h (.str a) (.str b) = _
  unfold gOr gII gAddS
  dsimp only
  rw [if_pos hf]
theorem str_intP {h : HP} {r : Nat} (hr : r < 1000) : (g1 gStr) h [.int (r : Int)] = some (.str (strI (r : Int))) := by
  show (if Nat.ble ((r : Int)).natAbs 1000000000000000000 = true then some (U.str (strI (r : Int))) else none) = _
  rw [if_pos (Nat.ble_eq_true_of_le (by omega))]
theorem gAdd_ttP {h : HP} {xs ys : List U} (hl : xs.length + ys.length ≤ 16777216) : gAddAny h (.tup xs) (.tup ys) = some (.tup (xs ++ ys)) := by
  have hf : fits (xs.length + ys.length) = true := Nat.ble_eq_true_of_le hl
  show gOr (gOr _ gAddS) (gOr gAddL gAddT) h (.tup xs) (.tup ys) = _
  unfold gOr gII gAddS gAddL gAddT asLstT asTup
  dsimp only
  rw [if_pos hf]
theorem ev_if {σ : SS} {h h1 : HP} {c : MT} {a b : ME} {k : Bool} {r : R} (e1 : c σ h = .ok k h1) (e2 : (if k = true then a σ h1 else b σ h1) = r) : eIf c a b σ h = r := by
  unfold eIf
  rw [e1]
  exact e2
theorem tt_or_t {a b : MT} {σ : SS} {h h1 : HP} (e1 : a σ h = .ok true h1) : tOr' a b σ h = .ok true h1 := by
  unfold tOr'
  rw [e1]
  rfl
theorem st_forP {σ σ1 : SS} {h h1 h2 : HP} {j : MJ} {g : GT} {b : MS} {s : Src} {n : Nat} (e1 : j σ h = .ok s n h1) (e2 : forR g b s n 0 σ h1 = .nx σ1 h2) : sFor j g b σ h = .nx σ1 h2 := by
  unfold sFor
  rw [e1]
  exact e2
/-- for i in range(M), an invariant that knows the turn's number -/
theorem for_rng {j M : Nat} {b : MS} {J : Nat → SS → HP → Prop} (hb : ∀ (i : Nat) (σ : SS) (h : HP), i < M → J i σ h → ∃ σ' h', b (setF σ j (.val (.int ((0 : Int) + (i : Nat))))) h = .nx σ' h' ∧ J (i + 1) σ' h') :
    ∀ (n i : Nat) (σ : SS) (h : HP), i + n = M → J i σ h → ∃ σ' h', forR (gmName j) b (srcR 0 M) n i σ h = .nx σ' h' ∧ J M σ' h'
  | 0, i, σ, h, e, hJ => by
    have : i = M := by omega
    subst this
    refine ⟨σ, h, ?_, hJ⟩
    rw [forR_eq]
    have : srcR 0 i h i = some none := by
      unfold srcR
      rw [if_neg (by omega)]
    rw [this]
  | n + 1, i, σ, h, e, hJ => by
    obtain ⟨σ1, h1, e1, J1⟩ := hb i σ h (by omega) hJ
    obtain ⟨σ2, h2, e2, J2⟩ := for_rng hb n (i + 1) σ1 h1 (by omega) J1
    refine ⟨σ2, h2, ?_, J2⟩
    rw [forR_eq]
    have : srcR 0 M h i = some (some (.int ((0 : Int) + (i : Nat)))) := by
      unfold srcR
      rw [if_pos (by omega)]
    rw [this]
    show (match b (setF σ j (.val (.int ((0 : Int) + (i : Nat))))) h with
      | .nx σ2 h2 => forR (gmName j) b (srcR 0 M) n (i + 1) σ2 h2
      | .ct σ2 h2 => forR (gmName j) b (srcR 0 M) n (i + 1) σ2 h2
      | .bk σ2 h2 => .nx σ2 h2
      | r => r) = _
    rw [e1]
    exact e2
/-- range(max(1, min(4, len(script)))) -/
def TOPJ : MJ := jRng1 (eCallB (g2 gMax2) (aCons (eC (.int 1)) (aCons (eCallB (g2 gMin2) (aCons (eC (.int 4)) (aCons (eCallB (gLenA) (aCons (eVar 0) (aNil))) (aNil)))) (aNil))))
theorem topj_ok (ns : List Int) : ∃ m : Nat, m ≤ 4 ∧ ∀ (σ : SS) (h : HP), nthF σ 0 = some (.val (scrU ns)) → TOPJ σ h = .ok (srcR 0 m) m h := by
  let M : Int := if (if (ns.length : Int) < 4 then (ns.length : Int) else 4) > 1 then (if (ns.length : Int) < 4 then (ns.length : Int) else 4) else 1
  have M4 : 1 ≤ M ∧ M ≤ 4 := by
    show 1 ≤ (if (if (ns.length : Int) < 4 then (ns.length : Int) else 4) > 1 then (if (ns.length : Int) < 4 then (ns.length : Int) else 4) else (1 : Int)) ∧ (if (if (ns.length : Int) < 4 then (ns.length : Int) else 4) > 1 then (if (ns.length : Int) < 4 then (ns.length : Int) else 4) else (1 : Int)) ≤ 4
    split <;> split <;> omega
  refine ⟨M.toNat, by omega, fun σ h e => ?_⟩
  have e0 : eCallB (g2 gMax2) (aCons (eC (.int 1)) (aCons (eCallB (g2 gMin2) (aCons (eC (.int 4)) (aCons (eCallB (gLenA) (aCons (eVar 0) (aNil))) (aNil)))) (aNil))) σ h = .ok (.int (M.toNat : Int)) h := by
    have : (M.toNat : Int) = M := Int.toNat_of_nonneg (by omega)
    rw [this]
    exact ev_callB (ea_cons ev_c (ea_cons (ev_callB (ea_cons ev_c (ea_cons (ev_callB (ea_cons (ev_var e) ea_nil) (len_scr ns)) ea_nil)) rfl) ea_nil)) rfl
  exact ej_rng e0 (by omega)
theorem repr_intX {h : HP} {r : Nat} (hr : r < 1000000) : gReprX h [.int (r : Int)] = some (.str (strI (r : Int))) := by
  have e : g1 gReprI h [.int (r : Int)] = some (.str (strI (r : Int))) := by
    show (if Nat.ble ((r : Int)).natAbs 1000000000000000000 = true then some (U.str (strI (r : Int))) else none) = _
    rw [if_pos (Nat.ble_eq_true_of_le (by omega))]
  have e2 : gReprS h [.int (r : Int)] = some (.str (strI (r : Int))) := by
    unfold gReprS gaOr
    show (match (none : Option U) with | some r => some r | none => g1 gReprI h [.int (r : Int)]) = _
    exact e
  unfold gReprX gReprA gaOr
  rw [e2]
theorem repr_strX {h : HP} {x : List Nat} (hx : fits (reprL x).length = true) : gReprX h [.str x] = some (.str (reprL x)) := by
  have e : g1 gReprT h [.str x] = some (.str (reprL x)) := by
    show (if fits (reprL x).length = true then some (U.str (reprL x)) else none) = _
    rw [if_pos hx]
  show gaOr gReprA (g1 gReprT) h [.str x] = _
  unfold gaOr
  rw [show gReprA h [.str x] = none from rfl]
  exact e
/-- one of a list of the heap -/
theorem dpick_ref {n nr : Nat} {us : List U} {h : HP} {K : Int} (hn : nr ≠ n) (h0 : 0 < us.length) (h1 : us.length < 1000000) (B : Box h n K) (hK : K + 1 ≤ 9000000) (hm : h.m nr = some (.lst us)) :
    ∃ u h', f_dpick [.ref n, .ref nr] h = .ok u h' ∧ u ∈ us ∧ Box h' n (K + 1) ∧ Kept n h h' := by
  obtain ⟨u, h', et, ⟨r, hr, rfl⟩, B', k'⟩ := dtake_ok n us.length h0 h1 h K B hK
  have hl : gLenA h [.ref nr] = some (.int us.length) := by
    have : g1 gLen h [.ref nr] = some (.int us.length) := by
      show (asSeq h (.ref nr)).map _ = _
      unfold asSeq asLst lstAt
      dsimp only
      rw [hm]
      rfl
    show gaOr (g1 gLen) (g1 gLenD) h [.ref nr] = _
    unfold gaOr
    rw [this]
  have hm' : h'.m nr = some (.lst us) := (k'.mm nr hn).trans hm
  refine ⟨us[r], h', ?_, List.getElem_mem hr, B', k'⟩
  refine rf_rt rfl (st_ret (ev_ix (ev_var rfl) (ev_call (ea_cons (ev_var rfl) (ea_cons (ev_callB (ea_cons (ev_var rfl) ea_nil) hl) ea_nil)) rfl et) (gIx_ref hm' ?_)))
  unfold atU atI ixN
  rw [if_pos (by omega), if_pos (by omega)]
  show us[(r : Int).toNat]? = _
  rw [Int.toNat_natCast, List.getElem?_eq_getElem hr]
end M7
end

noncomputable section
/-! ### texts of parts: join, split, what they weigh -/
namespace M7
open PySem PySem.Spec PyProof.Rows L2
theorem join_split {y : List Nat} (hy : y ≠ []) : ∀ (n : Nat) (e : List Nat), e.length ≤ n → joinL y (splitL y e) = e
  | n, [], _ => rfl
  | 0, c :: r, hn => by cases hn
  | n + 1, c :: r, hn => by
    have hr : r.length ≤ n := by simpa using hn
    by_cases h : (c :: r).take y.length = y
    · have hyl : 1 ≤ y.length := by
        cases y with
        | nil => exact absurd rfl hy
        | cons a b => simp
      have ih := join_split hy n ((c :: r).drop y.length) (by rw [List.length_drop, List.length_cons]; omega)
      rw [split_hit hy h]
      obtain ⟨w, ws, ew⟩ := split_ne y ((c :: r).drop y.length)
      rw [ew] at ih ⊢
      show [] ++ (y ++ joinL y (w :: ws)) = _
      rw [ih, List.nil_append]
      have := List.take_append_drop y.length (c :: r)
      rw [h] at this
      exact this
    · have ih := join_split hy n r hr
      rw [split_miss h]
      obtain ⟨w, ws, ew⟩ := split_ne y r
      rw [ew] at ih ⊢
      show c :: joinL y (w :: ws) = _
      rw [ih]
/-- an additive measure of texts -/
structure Wt (w : List Nat → Nat) : Prop where
  nil : w [] = 0
  app : ∀ a b, w (a ++ b) = w a + w b
theorem wt_len : Wt List.length := ⟨rfl, fun a b => List.length_append⟩
theorem wt_cnt (c : Nat) : Wt (List.count c) := ⟨rfl, fun a b => List.count_append⟩
def sumW (w : List Nat → Nat) : List (List Nat) → Nat
  | [] => 0
  | e :: es => w e + sumW w es
section
variable {w : List Nat → Nat}
theorem sumW_app (a b : List (List Nat)) : sumW w (a ++ b) = sumW w a + sumW w b := by
  induction a with
  | nil => simp [sumW]
  | cons e a ih => simp only [List.cons_append, sumW, ih]; omega
theorem sumW_mem : ∀ {es : List (List Nat)} {e : List Nat}, e ∈ es → w e ≤ sumW w es
  | [], _, h => by cases h
  | x :: es, e, h => by
    rcases List.mem_cons.mp h with z | z
    · rw [z]; exact Nat.le_add_right _ _
    · exact Nat.le_trans (sumW_mem z) (Nat.le_add_left _ _)
theorem sumW_cut (es : List (List Nat)) (m : Nat) : sumW w (es.take m) + sumW w (es.drop m) = sumW w es := by
  rw [← sumW_app, List.take_append_drop]
theorem sumW_drop (es : List (List Nat)) (m : Nat) : sumW w (es.drop m) ≤ sumW w es := by have := sumW_cut (w := w) es m; omega
theorem sumW_take (es : List (List Nat)) (m : Nat) : sumW w (es.take m) ≤ sumW w es := by have := sumW_cut (w := w) es m; omega
theorem w_go (W : Wt w) (z : List Nat) : ∀ es : List (List Nat), w (joinL.go z es) = sumW w es + es.length * w z
  | [] => by show w [] = _; rw [W.nil]; simp [sumW]
  | e :: es => by
    show w (z ++ (e ++ joinL.go z es)) = _
    rw [W.app, W.app, w_go W z es]
    simp only [sumW, List.length_cons, Nat.add_mul]
    omega
theorem w_join (W : Wt w) (z : List Nat) (es : List (List Nat)) : w (joinL z es) ≤ sumW w es + es.length * w z := by
  cases es with
  | nil => show w [] ≤ _; rw [W.nil]; exact Nat.zero_le _
  | cons e es =>
    show w (e ++ joinL.go z es) ≤ _
    rw [W.app, w_go W]
    simp only [sumW, List.length_cons, Nat.add_mul]
    omega
theorem w_joinE (W : Wt w) (z : List Nat) {es : List (List Nat)} (h : es ≠ []) : w (joinL z es) + w z = sumW w es + es.length * w z := by
  cases es with
  | nil => exact absurd rfl h
  | cons e es =>
    show w (e ++ joinL.go z es) + _ = _
    rw [W.app, w_go W]
    simp only [sumW, List.length_cons, Nat.add_mul]
    omega
/-- a text's parts weigh what it weighs -/
theorem w_split (W : Wt w) {z : List Nat} (hz : z ≠ []) (e : List Nat) : w e + w z = sumW w (splitL z e) + (splitL z e).length * w z := by
  have h := join_split hz e.length e (Nat.le_refl _)
  obtain ⟨a, b, eab⟩ := split_ne z e
  have := w_joinE W z (es := splitL z e) (by rw [eab]; exact List.cons_ne_nil _ _)
  rw [h] at this
  exact this
end
theorem mem_join {z : List Nat} {c : Nat} : ∀ {es : List (List Nat)}, c ∈ joinL z es → c ∈ z ∨ ∃ e ∈ es, c ∈ e := by
  have go : ∀ {es : List (List Nat)}, c ∈ joinL.go z es → c ∈ z ∨ ∃ e ∈ es, c ∈ e := by
    intro es
    induction es with
    | nil => intro h; cases h
    | cons e es ih =>
      intro h
      have h' : c ∈ z ++ (e ++ joinL.go z es) := h
      rcases List.mem_append.mp h' with q | q
      · exact .inl q
      · rcases List.mem_append.mp q with q | q
        · exact .inr ⟨e, List.mem_cons_self, q⟩
        · rcases ih q with r | ⟨x, hx, hc⟩
          · exact .inl r
          · exact .inr ⟨x, List.mem_cons_of_mem _ hx, hc⟩
  intro es h
  cases es with
  | nil => cases h
  | cons e es =>
    have h' : c ∈ e ++ joinL.go z es := h
    rcases List.mem_append.mp h' with q | q
    · exact .inr ⟨e, List.mem_cons_self, q⟩
    · rcases go q with r | ⟨x, hx, hc⟩
      · exact .inl r
      · exact .inr ⟨x, List.mem_cons_of_mem _ hx, hc⟩
/-- a text within bounds -/
structure Tx3 (L C : Nat) (e : List Nat) : Prop where
  len : e.length ≤ L
  cnt : List.count 32 e ≤ C
  ok : okS e
theorem Tx3.mono {L C L' C' : Nat} {e : List Nat} (t : Tx3 L C e) (h1 : L ≤ L') (h2 : C ≤ C') : Tx3 L' C' e := ⟨Nat.le_trans t.len h1, Nat.le_trans t.cnt h2, t.ok⟩
theorem okS_app {a b : List Nat} (ha : okS a) (hb : okS b) : okS (a ++ b) := fun c hc => (List.mem_append.mp hc).elim (ha c) (hb c)
theorem okS_take {a : List Nat} (ha : okS a) (m : Nat) : okS (a.take m) := fun c hc => ha c (List.mem_of_mem_take hc)
theorem okS_drop {a : List Nat} (ha : okS a) (m : Nat) : okS (a.drop m) := fun c hc => ha c (List.mem_of_mem_drop hc)
/-- words are few where blanks are -/
theorem words_le (e : List Nat) : (splitL [32] e).length ≤ List.count 32 e + 1 := by
  have := w_split (wt_cnt 32) (z := [32]) (List.cons_ne_nil _ _) e
  have e1 : List.count 32 [32] = 1 := rfl
  rw [e1, Nat.mul_one] at this
  omega
theorem fits_repr {x : List Nat} (hl : x.length ≤ 1000000) (ok : okS x) : fits (reprL x).length = true := by
  have := StrLaws.reprText_len ⟨x.toArray⟩ fun c hc => by
    have := ok c (by simpa using hc)
    omega
  have e1 : (reprL x).length = (reprText ⟨x.toArray⟩).length := by unfold reprL; rw [Array.length_toList]; rfl
  have e2 : (⟨x.toArray⟩ : Str).length = x.length := by simp [Str.length]
  rw [e2] at this
  refine Nat.ble_eq_true_of_le ?_
  rw [e1]
  omega
theorem cut_mid {α : Type} (xs : List α) (m : Nat) : cutU xs (some (m : Int)) (some ((m + 1 : Nat) : Int)) = (xs.drop m).take 1 := by
  unfold cutU
  rw [HT.sIx_nat, HT.sIx_nat]
  rcases Nat.lt_or_ge m xs.length with h | h
  · rw [Nat.min_eq_left (Nat.le_of_lt h), Nat.min_eq_left h]
    congr 1
    omega
  · rw [Nat.min_eq_right h, Nat.min_eq_right (by omega), List.drop_eq_nil_of_le (Nat.le_refl _), List.drop_eq_nil_of_le h, List.take_nil, List.take_nil]
theorem sl_midL {h : HP} {us : List U} {m : Nat} : gSl h (.lst us) (some (m : Int)) (some ((m + 1 : Nat) : Int)) = some (.lst ((us.drop m).take 1)) := by
  show some (U.lst (cutU us (some (m : Int)) (some ((m + 1 : Nat) : Int)))) = _
  rw [cut_mid]
theorem ev_slM {σ : SS} {h h1 h2 h3 : HP} {ma mb mc : ME} {x r : U} {m k : Int} (e1 : ma σ h = .ok x h1) (e2 : mb σ h1 = .ok (.int m) h2) (e2' : mc σ h2 = .ok (.int k) h3) (e3 : gSl h3 x (some m) (some k) = some r) : eSl ma (some mb) (some mc) σ h = .ok r h3 := by
  unfold eSl
  rw [e1]
  show (mb σ h1).bind _ = _
  rw [e2]
  show (mc σ h2).bind _ = _
  rw [e2']
  show (match gSl h3 x (some m) (some k) with | some r => R.ok r h3 | none => R.bad) = _
  rw [e3]
theorem sl_takeS {h : HP} {x : List Nat} {m : Nat} (hf : fits x.length = true) : gSl h (.str x) none (some (m : Int)) = some (.str (x.take m)) := by
  show (if fits x.length = true then some (U.str (cutU x none (some (m : Int)))) else none) = _
  rw [if_pos hf, cut_takeP]
theorem sl_dropS {h : HP} {x : List Nat} {m : Nat} (hf : fits x.length = true) : gSl h (.str x) (some (m : Int)) none = some (.str (x.drop m)) := by
  show (if fits x.length = true then some (U.str (cutU x (some (m : Int)) none)) else none) = _
  rw [if_pos hf, cut_drop]
end M7
end

noncomputable section
/-! ### xs.pop(i), xs a list of the logical heap, i not below 0 -/
namespace M7
open PySem PySem.Spec PyProof.Rows L2
def ePopAt (mo m : ME) : ME := fun σ h => (mo σ h).bind fun u h1 => match u with
  | .ref n => (match h1.m n with
    | some (.lst _) => (m σ h1).bind fun w h2 => (match h2.m n with
      | some (.lst us) => (match w with
        | .int (.ofNat i) => (match us[i]? with
          | some x => (match Nat.ble us.length 16777216 with
            | true => .ok x (h2.set n (.lst (us.eraseIdx i)))
            | false => .bad)
          | none => .bad)
        | _ => .bad)
      | _ => .bad)
    | _ => .bad)
  | _ => .bad
section
variable {P : Par} {ρ : List Addr} {W : WS} {H : Hp} {X : Cx} {E : XK} {o e : Expr} {apos cpos : Pos} {mo m : ME}
theorem RUs.erase : ∀ {us : List U} {vs : List V} (k : Nat), RUs P ρ W H us vs → RUs P ρ W H (us.eraseIdx k) (vs.eraseIdx k)
  | _, _, _, .nil => .nil
  | _, _, 0, .cons _ t => t
  | _, _, k + 1, .cons r t => .cons r (RUs.erase k t)
theorem RUs.at' : ∀ {us : List U} {vs : List V} {k : Nat} {u : U}, RUs P ρ W H us vs → us[k]? = some u → ∃ v, vs[k]? = some v ∧ RU P ρ W H u v
  | _, _, _, _, .nil, h => by cases h
  | _, _, 0, _, .cons r _, h => by cases h; exact ⟨_, rfl, r⟩
  | _, _, k + 1, _, .cons _ t, h => RUs.at' (k := k) t h
theorem tM_popAt (ho : PE X o (tM P E mo)) (he : PE X e (tM P E m)) (hst : starEach [e] X.env = (false, eval e X.env) :: starEach [] X.env) (hbase : attributeBase o "pop" X.env (eval o X.env) = eval o X.env)
    (hfew : ((backTo cpos (starEach [e] X.env)).all (fun x => !x.1) && (backToKw cpos (keywordEach [] X.env)).all (fun x => x.1.isSome)
      && decide ([e].length + ([] : List Keyword).length + (if ([] : List Keyword).isEmpty then 0 else 1) < 30)) = true)
    (hline : (apos.endLine == cpos.line) = true) (hpl : (backTo cpos (starEach [] X.env)).any (·.1) = false) : PE X (.Call (.Attribute o "pop" apos) [e] [] cpos) (tM P E (ePopAt mo m)) := ⟨fun pins s σ H Q I q => by
  refine (pe_bm PySem.F.plainAttrs_list PySem.F.slot_list_pop PySem.F.type_list_pop mt_popAt ho (pa_cons he pa_nil hst) hbase hfew hline hst hpl).run pins s σ H Q I ?_
  obtain ⟨ρ, W0, W, σ', hp, rs, rh, po⟩ := q
  refine tM_then rs rh po fun ρ1 H1 u v hp1 rs1 rh1 ru1 x1 po1 => ?_
  split at po1
  · rename_i n
    split at po1
    · rename_i us0 e0
      obtain ⟨a0, vs0, rfl, hn0, h0, _⟩ := lstRef rh1 ru1 e0
      refine ⟨.inl ⟨rfl, vs0, SqL.of h0⟩, tM_then rs1 rh1 po1 fun ρ2 H2 w y hp2 rs2 rh2 ru2 x2 po2 => ?_⟩
      split at po2
      · rename_i us e2
        split at po2
        · rename_i i
          split at po2
          · rename_i x ex
            split at po2
            · rename_i hl
              obtain ⟨a, vs, ea, hn, h, r⟩ := lstRef rh2 (ru1.ext x2) e2
              cases ea
              cases ru2
              obtain ⟨x3, rh3⟩ := put_lst rh2 hn h (r.erase i)
              obtain ⟨vx, evx, rx⟩ := r.at' ex
              have hil := (List.getElem?_eq_some_iff.mp evx).1
              have hll := Nat.le_of_ble_eq_true hl
              rw [r.length] at hll
              refine ⟨a0, vs, (i : Int), i, vx, rfl, rfl, h, by omega, by omega, ?_, evx, po2 ρ2 _ _ x3 rh3 (rx.ext x3)⟩
              unfold seqIndex?
              simp only []
              first
                | (rw [if_pos (by omega)]; rfl)
                | (simp; omega)
            · exact po2.elim
          · exact po2.elim
        · exact po2.elim
      · exact po2.elim
    · exact po1.elim
  · exact po1.elim⟩
end
end M7
end

noncomputable section
/-! ### rows in a drawn order -/
namespace M7
open PySem PySem.Spec PyProof.Rows L2
/-- the heap has grown, but for the box -/
structure Gb (n : Nat) (h h' : HP) : Prop where
  nn : h.n ≤ h'.n
  mm : ∀ j, j < h.n → j ≠ n → h'.m j = h.m j
theorem Gb.refl {n : Nat} {h : HP} : Gb n h h := ⟨Nat.le_refl _, fun _ _ _ => rfl⟩
theorem Gb.of {n : Nat} {h h' : HP} (k : Kept n h h') : Gb n h h' := ⟨Nat.le_of_eq k.nn.symm, fun j _ hj => k.mm j hj⟩
theorem Gb.trans {n : Nat} {h h' h2 : HP} (a : Gb n h h') (b : Gb n h' h2) : Gb n h h2 := ⟨Nat.le_trans a.nn b.nn, fun j hj hn => (b.mm j (Nat.lt_of_lt_of_le hj a.nn) hn).trans (a.mm j hj hn)⟩
theorem gb_new {n : Nat} {h : HP} {o : O} : Gb n h (h.new o) := ⟨Nat.le_succ _, fun j hj _ => hnew_ne (by omega)⟩
theorem gb_set {n : Nat} {h : HP} {i : Nat} {o : O} {g : HP} (gg : Gb n g h) (hi : g.n ≤ i) : Gb n g (h.set i o) := ⟨gg.nn, fun j hj hn => (hset_ne (by omega)).trans (gg.mm j hj hn)⟩
theorem T_take (l : List (List Nat)) (m : Nat) : (T l).take m = T (l.take m) := (List.map_take ..).symm
theorem T_drop (l : List (List Nat)) (m : Nat) : (T l).drop m = T (l.drop m) := (List.map_drop ..).symm
theorem T_app (a b : List (List Nat)) : T a ++ T b = T (a ++ b) := (List.map_append ..).symm
theorem ev_appG {σ : SS} {h h2 : HP} {mo m : ME} {n : Nat} {xs0 xs : List U} {w : U} (e1 : mo σ h = .ok (.ref n) h) (e3 : h.m n = some (.lst xs0)) (e2 : m σ h = .ok w h2) (e4 : h2.m n = some (.lst xs)) (e5 : xs.length < 16777216) : eAppH mo m σ h = .ok .non (h2.set n (.lst (xs ++ [w]))) := by
  have hb : Nat.blt xs.length 16777216 = true := Nat.ble_eq_true_of_le e5
  unfold eAppH
  rw [e1, bind_okP]
  dsimp only
  rw [e3]
  dsimp only
  rw [e2, bind_okP, e4]
  dsimp only
  rw [hb]
theorem ev_popG {σ : SS} {h h2 : HP} {mo m : ME} {n i : Nat} {xs0 xs : List U} {x : U} (e1 : mo σ h = .ok (.ref n) h) (e3 : h.m n = some (.lst xs0)) (e2 : m σ h = .ok (.int (i : Nat)) h2) (e4 : h2.m n = some (.lst xs)) (e5 : xs[i]? = some x) (e6 : xs.length ≤ 16777216) : ePopAt mo m σ h = .ok x (h2.set n (.lst (xs.eraseIdx i))) := by
  have hb : Nat.ble xs.length 16777216 = true := Nat.ble_eq_true_of_le e6
  unfold ePopAt
  rw [e1, bind_okP]
  dsimp only
  rw [e3]
  dsimp only
  rw [e2, bind_okP, e4]
  show (match xs[i]? with
    | some x => (match Nat.ble xs.length 16777216 with
      | true => R.ok x (h2.set n (.lst (xs.eraseIdx i)))
      | false => R.bad)
    | none => R.bad) = _
  rw [e5]
  dsimp only
  rw [hb]
theorem len_refP {h : HP} {n : Nat} {us : List U} (hm : h.m n = some (.lst us)) : gLenA h [.ref n] = some (.int us.length) := by
  have : g1 gLen h [.ref n] = some (.int us.length) := by
    show (asSeq h (.ref n)).map _ = _
    unfold asSeq asLst lstAt
    dsimp only
    rw [hm]
    rfl
  show gaOr (g1 gLen) (g1 gLenD) h [.ref n] = _
  unfold gaOr
  rw [this]
def b_mixed : MS := sSeq (sPar [2, 3] (aCons (eHp (cList (eVar 1))) (aCons (eHp (cLst (aNil))) (aNil))))
  (sSeq (sFor (jRng1 (eCallB (gLenA) (aCons (eVar 2) (aNil)))) (gmName 4) (sExpr (eAppH (eVar 3) (ePopAt (eVar 2) (eCall 2 f_dtake [] (aCons (eVar 0) (aCons (eCallB (gLenA) (aCons (eVar 2) (aNil))) (aNil))))))))
  (sRet (eVar 3)))
def f_mixed : FM := runF 5 2 b_mixed
theorem mem_erase {α : Type} {x : α} : ∀ {l : List α} {i : Nat}, x ∈ l.eraseIdx i → x ∈ l
  | [], _, h => h
  | _ :: _, 0, h => List.mem_cons_of_mem _ h
  | a :: l, i + 1, h => by
    rcases List.mem_cons.mp (show x ∈ a :: l.eraseIdx i from h) with z | z
    · rw [z]; exact List.mem_cons_self
    · exact List.mem_cons_of_mem _ (mem_erase z)
theorem len_erase {α : Type} : ∀ {l : List α} {i : Nat}, i < l.length → (l.eraseIdx i).length + 1 = l.length
  | [], _, h => absurd h (Nat.not_lt_zero _)
  | _ :: _, 0, _ => rfl
  | a :: l, i + 1, h => by
    show (l.eraseIdx i).length + 1 + 1 = l.length + 1
    rw [len_erase (by simpa using h)]
theorem mixed_ok (n : Nat) (us : List U) (hl : us.length ≤ 1000) (h : HP) (K : Int) (B : Box h n K) (hK : K + us.length ≤ 9000000) (hn : n < h.n) :
    ∃ fs nf h', f_mixed [.ref n, .lst us] h = .ok (.ref nf) h' ∧ h'.m nf = some (.lst fs) ∧ fs.length = us.length ∧ (∀ x ∈ fs, x ∈ us) ∧ Box h' n (K + us.length) ∧ Gb n h h' ∧ h.n ≤ nf ∧ nf < h'.n := by
  let h1 := h.new (.lst us)
  let h2 := h1.new (.lst [])
  have hn1 : h1.n = h.n + 1 := rfl
  have hn2 : h2.n = h.n + 2 := rfl
  have ml : h2.m h.n = some (.lst us) := (hnew_ne (by omega)).trans hnew_m
  have mf : h2.m h1.n = some (.lst []) := hnew_m
  have B2 : Box h2 n K := B.keep ((hnew_ne (by omega)).trans (hnew_ne (by omega)))
  have g2 : Gb n h h2 := gb_new.trans gb_new
  let σ2 : SS := [.val (.ref n), .val (.lst us), .val (.ref h.n), .val (.ref h1.n), .no]
  let J : Nat → SS → HP → Prop := fun i σ g => (∃ s4, σ = [.val (.ref n), .val (.lst us), .val (.ref h.n), .val (.ref h1.n), s4]) ∧ ∃ l f : List U, g.m h.n = some (.lst l) ∧ g.m h1.n = some (.lst f) ∧ l.length + i = us.length ∧ f.length = i ∧ (∀ x ∈ l, x ∈ us) ∧ (∀ x ∈ f, x ∈ us) ∧ Box g n (K + (i : Nat)) ∧ g.n = h2.n ∧ Gb n h g
  obtain ⟨σ', h', e8, ⟨s4, rfl⟩, l, f, m1, m2, l1, l2, p1, p2, B', hn', g'⟩ := for_rng (j := 4) (M := us.length) (b := sExpr (eAppH (eVar 3) (ePopAt (eVar 2) (eCall 2 f_dtake [] (aCons (eVar 0) (aCons (eCallB (gLenA) (aCons (eVar 2) (aNil))) (aNil))))))) (J := J)
    (fun i σ g hi ⟨⟨s4, e⟩, l, f, m1, m2, l1, l2, p1, p2, B, hgn, gg⟩ => by
      subst e
      obtain ⟨w, g3, e3, ⟨r, hr, rfl⟩, B3, k3⟩ := dtake_ok n l.length (by omega) (by omega) g _ B (by omega)
      have m1' : g3.m h.n = some (.lst l) := (k3.mm _ (by omega)).trans m1
      have m2' : g3.m h1.n = some (.lst f) := (k3.mm _ (by omega)).trans m2
      have ex : l[r]? = some l[r] := List.getElem?_eq_getElem hr
      let σi : SS := [.val (.ref n), .val (.lst us), .val (.ref h.n), .val (.ref h1.n), .val (.int ((0 : Int) + (i : Nat)))]
      have pop : ePopAt (eVar 2) (eCall 2 f_dtake [] (aCons (eVar 0) (aCons (eCallB (gLenA) (aCons (eVar 2) (aNil))) (aNil)))) σi g = .ok l[r] (g3.set h.n (.lst (l.eraseIdx r))) :=
        ev_popG (ev_var rfl) m1 (ev_call (ea_cons (ev_var rfl) (ea_cons (ev_callB (ea_cons (ev_var rfl) ea_nil) (len_refP m1)) ea_nil)) rfl e3) m1' ex (by omega)
      have m2'' : (g3.set h.n (.lst (l.eraseIdx r))).m h1.n = some (.lst f) := (hset_ne (by omega)).trans m2'
      refine ⟨σi, (g3.set h.n (.lst (l.eraseIdx r))).set h1.n (.lst (f ++ [l[r]])), st_exprP (ev_appG (ev_var rfl) m2 pop m2'' (by omega)), ⟨_, rfl⟩, l.eraseIdx r, f ++ [l[r]], (hset_ne (by omega)).trans hset_m, hset_m, ?_, by rw [List.length_append, List.length_singleton]; omega, fun x hx => p1 x (mem_erase hx), fun x hx => ?_, ?_, ?_, ?_⟩
      · have := len_erase hr; omega
      · rcases List.mem_append.mp hx with z | z
        · exact p2 x z
        · rw [List.mem_singleton.mp z]; exact p1 _ (List.getElem_mem hr)
      · refine (B3.mono (by omega)).keep ((hset_ne (by omega)).trans (hset_ne (by omega)))
      · show g3.n = _; rw [k3.nn]; exact hgn
      · exact gb_set (gb_set (gg.trans (Gb.of k3)) (Nat.le_refl _)) (by omega)) us.length 0 σ2 h2 (Nat.zero_add _) ⟨⟨_, rfl⟩, us, [], ml, mf, rfl, rfl, fun x hx => hx, (fun x hx => by cases hx), B2.mono (by omega), rfl, g2⟩
  refine ⟨f, h1.n, h', rf_rt rfl (st_seq (σ1 := σ2) (h1 := h2) (st_par2 (ea_cons (ev_hp (us := us) rfl) (ea_cons (ev_hp (us := []) rfl) ea_nil))) (st_seq (st_forP (ej_rng (k := us.length) (ev_callB (ea_cons (ev_var rfl) ea_nil) (len_refP ml)) (by omega)) e8) (st_ret (ev_var rfl)))), m2, by omega, p2, B', g', by omega, by omega⟩
/-- [e(x) for x in xs] whose turns draw -/
theorem lc_ix {I : Nat → HP → Prop} {g : GT} {e : ME} {vs : List Nat} {s : Src} {σ : SS} {xs : List U} {σu : U → SS} {P : U → Prop}
    (hs : ∀ i h, I i h → ∀ k, s h k = some (xs[k]?)) (hg : ∀ h, ∀ u ∈ xs, g (wipeU σ vs) h u = some (σu u)) (he : ∀ i h (hi : i < xs.length), I i h → ∃ u h', e (σu xs[i]) h = .ok u h' ∧ P u ∧ I (i + 1) h') :
    ∀ (m i : Nat) (acc : List U) (h : HP), I i h → i + m = xs.length → acc.length + m ≤ 1000000 → ∃ us h', lcG g tTyes (bElt e) vs s m i (.lst acc) σ h = .ok (.lst (acc ++ us)) h' ∧ us.length = m ∧ (∀ u ∈ us, P u) ∧ I xs.length h'
  | 0, i, acc, h, hI, hm, ha => by
    have : i = xs.length := by omega
    subst this
    refine ⟨[], h, ?_, rfl, (fun u hu => by cases hu), hI⟩
    rw [lcG_eq, hs _ h hI, List.getElem?_eq_none (Nat.le_refl _), List.append_nil]
  | m + 1, i, acc, h, hI, hm, ha => by
    have hi : i < xs.length := by omega
    obtain ⟨u, h1, e1, p1, I1⟩ := he i h hi hI
    obtain ⟨us, h2, e2, l2, p2, I2⟩ := lc_ix hs hg he m (i + 1) (acc ++ [u]) h1 I1 (by omega) (by rw [List.length_append, List.length_singleton]; omega)
    refine ⟨u :: us, h2, ?_, by rw [List.length_cons, l2], fun w hw => ?_, I2⟩
    · rw [lcG_eq, hs i h hI, List.getElem?_eq_getElem hi]
      have hb : bElt e (.lst acc) (σu xs[i]) h = .ok (.lst (acc ++ [u])) h1 := by
        unfold bElt
        rw [e1]
        dsimp only
        have hb0 : Nat.blt acc.length 16777216 = true := Nat.ble_eq_true_of_le (by omega)
        rw [if_pos hb0]
      dsimp only
      rw [hg h _ (List.getElem_mem hi)]
      show (match bElt e (.lst acc) (σu xs[i]) h with
        | .ok acc2 h2 => lcG g tTyes (bElt e) vs s m (i + 1) acc2 σ h2
        | _ => .bad) = _
      rw [hb]
      dsimp only
      rw [e2, List.append_assoc]
      rfl
    · rcases List.mem_cons.mp hw with z | z
      · rw [z]; exact p1
      · exact p2 w z
theorem srcH_at {h : HP} {n : Nat} {us : List U} (hm : h.m n = some (.lst us)) (i : Nat) : srcH n h i = some (us[i]?) := by
  unfold srcH
  rw [hm]
  dsimp only
  rw [nthF_eq]
theorem ej_refP {σ : SS} {h h1 : HP} {m : ME} {n : Nat} {us : List U} (e : m σ h = .ok (.ref n) h1) (hm : h1.m n = some (.lst us)) : jSeq m σ h = .ok (srcH n) us.length h1 := by
  unfold jSeq
  rw [e]
  show (match srcOf h1 (.ref n) with | some (s, n) => RJ.ok s n h1 | none => .bad) = _
  have e2 : srcOf h1 (.ref n) = some (srcH n, us.length) := by
    unfold srcOf
    dsimp only
    rw [hm]
  rw [e2]
theorem sl_takeR {h : HP} {n : Nat} {us : List U} {m : Nat} (hm : h.m n = some (.lst us)) : gSl h (.ref n) none (some (m : Int)) = some (.lst (us.take m)) := by
  show (asLst h (.ref n)).map _ = _
  unfold asLst lstAt
  dsimp only
  rw [hm]
  show some (U.lst (cutU us none (some (m : Int)))) = _
  rw [cut_takeP]
end M7
end

noncomputable section
/-! ### [e for _ in range(r)] whose turns draw and make new things -/
namespace M7
open PySem PySem.Spec PyProof.Rows L2
theorem srcR_at (h : HP) (r k : Nat) : srcR 0 r h k = some (((List.range r).map fun i : Nat => U.int ((0 : Int) + (i : Nat)))[k]?) := by
  rw [List.getElem?_map]
  show (if k < r then some (some (U.int (0 + (k : Nat)))) else some none) = _
  by_cases hk : k < r
  · rw [if_pos hk, List.getElem?_range hk]
    rfl
  · rw [if_neg hk, List.getElem?_eq_none (by rw [List.length_range]; omega)]
    rfl
theorem lcr_ok {n j : Nat} {vs : List Nat} {e : ME} {P : U → Prop} {σ : SS} {c : Int} (hc : 0 ≤ c) {Q : HP → Prop}
    (he : ∀ (i : Nat) (g : HP) (K : Int), Box g n K → K + c ≤ 9000000 → n < g.n → Q g → ∃ u g', e (setF (wipeU σ vs) j (.val (.int ((0 : Int) + (i : Nat))))) g = .ok u g' ∧ P u ∧ Box g' n (K + c) ∧ Gb n g g' ∧ Q g')
    (r : Nat) (h : HP) (K : Int) (hr : r ≤ 100000) (B : Box h n K) (hK : K + c * r ≤ 9000000) (hn : n < h.n) (q : Q h) :
    ∃ us h', lcG (gmName j) tTyes (bElt e) vs (srcR 0 r) r 0 (.lst []) σ h = .ok (.lst us) h' ∧ us.length = r ∧ (∀ u ∈ us, P u) ∧ Box h' n (K + c * r) ∧ Gb n h h' ∧ Q h' := by
  let xs : List U := (List.range r).map fun i : Nat => U.int ((0 : Int) + (i : Nat))
  have lx : xs.length = r := by show ((List.range r).map _).length = r; rw [List.length_map, List.length_range]
  obtain ⟨us, h2, e2, l2, p2, ⟨B2, g2, q2⟩⟩ := lc_ix (I := fun i g => Box g n (K + c * (i : Nat)) ∧ Gb n h g ∧ Q g) (g := gmName j) (e := e) (vs := vs) (s := srcR 0 r) (σ := σ) (xs := xs) (σu := fun u => setF (wipeU σ vs) j (.val u)) (P := P)
    (fun i g _ k => srcR_at g r k) (fun g u hu => rfl)
    (fun i g hi ⟨B, gg, q⟩ => by
      have ir : i < r := by rw [lx] at hi; exact hi
      have h1 : c * ((i + 1 : Nat) : Int) = c * (i : Int) + c := by rw [Int.natCast_add, Int.mul_add]; simp
      have h2 : c * ((i + 1 : Nat) : Int) ≤ c * (r : Int) := Int.mul_le_mul_of_nonneg_left (by omega) hc
      obtain ⟨u, g', e1, pu, B', g1, q1⟩ := he i g _ B (by omega) (by have := gg.nn; omega) q
      have ex : xs[i] = .int ((0 : Int) + (i : Nat)) := by
        show ((List.range r).map fun i : Nat => U.int ((0 : Int) + (i : Nat)))[i]'hi = _
        rw [List.getElem_map, List.getElem_range]
      refine ⟨u, g', by rw [ex]; exact e1, pu, by rw [h1, ← Int.add_assoc]; exact B', gg.trans g1, q1⟩) r 0 [] h ⟨by rw [show c * ((0 : Nat) : Int) = 0 from Int.mul_zero c, Int.add_zero]; exact B, Gb.refl, q⟩ (by rw [lx, Nat.zero_add]) (by show 0 + r ≤ _; omega)
  rw [lx] at B2
  exact ⟨us, h2, e2, l2, p2, B2, g2, q2⟩
/-- name = [..] on one line, the list in the logical heap -/
theorem tS_setH {X : Cx} {P : Par} {E : XK} {i : Nat} {st : Stmt} {m : MA} (h : PS X st (tAsg (tMC P E m) (gName i))) : PS X st (tS P E (sSet i (eHp m))) := ⟨fun pins s σ H D I q => by
  obtain ⟨ρ, W0, W, σ', hp, rs, rh, po⟩ := q
  refine h.run pins s σ H D I ⟨ρ, W0, W, σ', hp, rs, rh, ?_⟩
  unfold sSet eHp at po
  cases e : m σ' hp with
  | bad => rw [e] at po; exact po
  | exc x h1 => rw [e] at po; exact fun ρ1 H1 c d x1 rh1 rx => po ρ1 W H1 c d x1.toS rs.sub rh1 rx
  | ok us h1 =>
    rw [e] at po
    intro ρ1 H1 vs p x1 rh1 ru1 hn
    have x2 := Ext.newRef (ρ := ρ1) (o := .lst vs) hn
    exact po _ W _ _ (x1.trans x2).toS (((rs.ext rh x1).ext rh1 x2).setValF (.ref rh1.lastIx)) (rh1.newRef hn (.lst upd_same (RUs.ext (Ext.newRef hn) ru1)))⟩
end M7
end

noncomputable section
/-! ### any values, nested not too deep -/
namespace M7
open PySem PySem.Spec PyProof.Rows L2
/-- a short text -/
structure Tx2 (e : List Nat) : Prop where
  len : e.length ≤ 200
  ok : okS e
def tx2B (e : List Nat) : Bool := Nat.ble e.length 200 && e.all fun c => Nat.blt c 1114112
theorem tx2B_ok {e : List Nat} (h : tx2B e = true) : Tx2 e := by
  unfold tx2B at h
  simp only [Bool.and_eq_true, List.all_eq_true] at h
  exact ⟨Nat.le_of_ble_eq_true h.1, fun c hc => Nat.le_of_ble_eq_true (h.2 c hc)⟩
inductive VD : Nat → U → Prop
  | non {k : Nat} : VD k .non
  | bl {k : Nat} (b : Bool) : VD k (.bl b)
  | int {k : Nat} (i : Int) : VD k (.int i)
  | str {k : Nat} {e : List Nat} (h : Tx2 e) : VD k (.str e)
  | tup {k : Nat} {us : List U} (hl : us.length ≤ 100) (h : ∀ u ∈ us, VD k u) : VD (k + 1) (.tup us)
  | lst {k : Nat} {us : List U} (hl : us.length ≤ 100) (h : ∀ u ∈ us, VD k u) : VD (k + 1) (.lst us)
theorem VD.mono {k l : Nat} (hl : k ≤ l) {u : U} (v : VD k u) : VD l u := by
  induction v generalizing l with
  | non => exact .non
  | bl b => exact .bl b
  | int i => exact .int i
  | str h => exact .str h
  | tup n _ ih =>
    cases l with
    | zero => omega
    | succ l => exact .tup n fun u hu => ih u hu (by omega)
  | lst n _ ih =>
    cases l with
    | zero => omega
    | succ l => exact .lst n fun u hu => ih u hu (by omega)
/-- whether a value is such a one -/
def vdB : Nat → U → Bool
  | 0, u => match u with
    | .non => true
    | .bl _ => true
    | .int _ => true
    | .str e => tx2B e
    | _ => false
  | k + 1, u => match u with
    | .non => true
    | .bl _ => true
    | .int _ => true
    | .str e => tx2B e
    | .tup us => Nat.ble us.length 100 && us.all (vdB k)
    | .lst us => Nat.ble us.length 100 && us.all (vdB k)
    | _ => false
theorem vdB_ok : ∀ {k : Nat} {u : U}, vdB k u = true → VD k u
  | 0, u, h => by
    cases u with
    | non => exact .non
    | bl b => exact .bl b
    | int i => exact .int i
    | str e => exact .str (tx2B_ok h)
    | tup us => cases h
    | lst us => cases h
    | lsx us => cases h
    | obj C ns us => cases h
    | ref i => cases h
    | cls C => cases h
  | k + 1, u, h => by
    cases u with
    | non => exact .non
    | bl b => exact .bl b
    | int i => exact .int i
    | str e => exact .str (tx2B_ok h)
    | tup us =>
      obtain ⟨h1, h2⟩ := Bool.and_eq_true_iff.mp (show (Nat.ble us.length 100 && us.all (vdB k)) = true from h)
      exact .tup (Nat.le_of_ble_eq_true h1) fun x hx => vdB_ok (List.all_eq_true.mp h2 x hx)
    | lst us =>
      obtain ⟨h1, h2⟩ := Bool.and_eq_true_iff.mp (show (Nat.ble us.length 100 && us.all (vdB k)) = true from h)
      exact .lst (Nat.le_of_ble_eq_true h1) fun x hx => vdB_ok (List.all_eq_true.mp h2 x hx)
    | lsx us => cases h
    | obj C ns us => cases h
    | ref i => cases h
    | cls C => cases h
/-- as data -/
def PyOk (k n : Nat) (h : HP) (u : U) : Prop := ∃ d, toPy n h u = some d ∧ PyData.canLay0 d = true ∧ PyData.depth d ≤ k
theorem toPys_vd {k n : Nat} {h : HP} : ∀ {us : List U} {m : Nat}, (∀ j, n ≤ j → ∀ u ∈ us, PyOk k j h u) → n + us.length + 1 ≤ m → ∃ ds, toPys m h us = some ds ∧ PyData.canLayAll0 ds = true ∧ PyData.depthAll ds ≤ k ∧ ds.length = us.length
  | [], m + 1, _, _ => ⟨[], rfl, by simp [PyData.canLayAll0], by simp [PyData.depthAll], rfl⟩
  | u :: us, m + 1, hu, hm => by
    rw [List.length_cons] at hm
    obtain ⟨d, e1, c1, p1⟩ := hu m (by omega) u List.mem_cons_self
    obtain ⟨ds, e2, c2, p2, l2⟩ := toPys_vd (us := us) (m := m) (fun j hj w hw => hu j hj w (List.mem_cons_of_mem _ hw)) (by omega)
    refine ⟨d :: ds, ?_, ?_, ?_, by rw [List.length_cons, List.length_cons, l2]⟩
    · show (match toPy m h u, toPys m h us with
        | some d, some ds => some (d :: ds)
        | _, _ => none) = _
      rw [e1, e2]
    · show (PyData.canLay0 d && PyData.canLayAll0 ds) = true
      rw [c1, c2]; rfl
    · show max (PyData.depth d) (PyData.depthAll ds) ≤ k
      omega
theorem py_vd {h : HP} : ∀ {k : Nat} {u : U}, VD k u → ∀ n, 110 * k + 1 ≤ n → PyOk k n h u
  | k, _, .non, n + 1, _ => ⟨.none, rfl, by simp [PyData.canLay0], by simp [PyData.depth]⟩
  | k, _, .bl b, n + 1, _ => ⟨.bool b, rfl, by simp [PyData.canLay0], by simp [PyData.depth]⟩
  | k, _, .int i, n + 1, _ => ⟨.int i, rfl, by simp [PyData.canLay0], by simp [PyData.depth]⟩
  | k, _, .str (e := e) q, n + 1, _ => ⟨.str ⟨e.toArray⟩, rfl, strOk_of q.ok, by simp [PyData.depth]⟩
  | k + 1, _, .tup (us := us) hl hu, n + 1, hn => by
    obtain ⟨ds, e, c, p, _⟩ := toPys_vd (k := k) (n := 110 * k + 1) (h := h) (us := us) (m := n) (fun j hj u m => py_vd (hu u m) j hj) (by omega)
    refine ⟨.tuple ds, ?_, c, ?_⟩
    · show (toPys n h us).map PyData.tuple = _
      rw [e]; rfl
    · show PyData.depthAll ds + 1 ≤ _
      omega
  | k + 1, _, .lst (us := us) hl hu, n + 1, hn => by
    obtain ⟨ds, e, c, p, _⟩ := toPys_vd (k := k) (n := 110 * k + 1) (h := h) (us := us) (m := n) (fun j hj u m => py_vd (hu u m) j hj) (by omega)
    refine ⟨.list ds, ?_, c, ?_⟩
    · show (toPys n h us).map PyData.list = _
      rw [e]; rfl
    · show PyData.depthAll ds + 1 ≤ _
      omega
/-- us == [] -/
theorem eq_nilV {h : HP} {k : Nat} {us : List U} (hk : k ≤ 20) (hl : us.length ≤ 100) (hu : ∀ u ∈ us, VD k u) : gEq h (.lst us) (.lst []) = some (.bl us.isEmpty) := by
  obtain ⟨ds, e, c, p, l⟩ := toPys_vd (k := k) (n := 110 * k + 1) (h := h) (us := us) (m := 2999) (fun j hj u m => py_vd (hu u m) j hj) (by omega)
  have e1 : toPy deep h (.lst us) = some (.list ds) := by
    show (toPys 2999 h us).map PyData.list = _
    rw [e]; rfl
  have sh : SeqAt.shaped (.list ds) = true := by
    show (PyData.canLayAll0 ds && decide (PyData.depthAll ds + 1 ≤ 64)) = true
    rw [c, Bool.true_and]
    exact decide_eq_true (by omega)
  rw [gEq_of (d := .list ds) (e := .list []) rfl e1 rfl sh rfl]
  congr 2
  show PyData.eqvAll ds [] = _
  cases us with
  | nil =>
    cases ds with
    | nil => simp [PyData.eqvAll]
    | cons d ds => cases l
  | cons u us =>
    cases ds with
    | nil => cases l
    | cons d ds => simp [PyData.eqvAll]
theorem bl_dec (b : Bool) : decide (b = true) = b := by cases b <;> rfl
/-- .. whose own list is short -/
def VS (k : Nat) (u : U) : Prop := VD k u ∧ ∀ us, u = .lst us → us.length ≤ 15
def ODDV : List U := [.non, .bl true, .bl false, .int 0, .int 1, .int (-1), .int 100000000000000000000, .str [], .str [109, 97, 105, 110], .str [109, 97, 107, 101], .str [109, 97, 107, 101, 32, 109, 97, 105, 110], .str [104, 101, 114, 101], .str [114, 101, 97, 100], .str [108, 111, 99, 107], .str [115, 116, 101, 112, 32, 48]]
theorem odd_vd : ∀ u ∈ ODDV, VD 0 u := fun u hu => by
  have hb : ODDV.all (vdB 0) = true := by decide +kernel
  exact vdB_ok (List.all_eq_true.mp hb u hu)
def b_dany (f_self : FM) : MS := sSeq (sSet 2 (eLst (aCons (eC .non) (aCons (eC (.bl true)) (aCons (eC (.bl false)) (aCons (eC (.int 0)) (aCons (eC (.int 1)) (aCons (eNeg (eC (.int 1))) (aCons (eBin gPow (eC (.int 10)) (eC (.int 20))) (aCons (eC (.str [])) (aCons (eC (.str [109, 97, 105, 110])) (aCons (eC (.str [109, 97, 107, 101])) (aCons (eC (.str [109, 97, 107, 101, 32, 109, 97, 105, 110])) (aCons (eC (.str [104, 101, 114, 101])) (aCons (eC (.str [114, 101, 97, 100])) (aCons (eC (.str [108, 111, 99, 107])) (aCons (eC (.str [115, 116, 101, 112, 32, 48])) (aNil))))))))))))))))))
  (sSeq (sIf (tOr' (tBl (eBin gEq (eVar 1) (eC (.int 0)))) (tBl (eBin gGt (eCall 2 f_dtake [] (aCons (eVar 0) (aCons (eC (.int 3)) (aNil)))) (eC (.int 0))))) (sRet (eCall 2 f_dpick [] (aCons (eVar 0) (aCons (eVar 2) (aNil))))) (sSkip))
  (sSeq (sSet 3 (eFz (cLc (jRng1 (eCall 2 f_dtake [] (aCons (eVar 0) (aCons (eC (.int 3)) (aNil))))) (gmName 4) (tTyes) (bElt (eCall 2 f_self [] (aCons (eVar 0) (aCons (eBin gSubI (eVar 1) (eC (.int 1))) (aNil))))) [4])))
  (sRet (eIf (tBl (eBin gEq (eCall 2 f_dtake [] (aCons (eVar 0) (aCons (eC (.int 2)) (aNil)))) (eC (.int 0)))) (eCallB (g1 gTuple) (aCons (eVar 3) (aNil))) (eVar 3)))))
def n_dany (n : Nat) : FM := Nat.rec (motive := fun _ => FM) (fun _ _ => .bad) (fun _ ih => runF 5 2 (b_dany ih)) n
def f_dany : FM := n_dany 8
def dcost : Nat → Int
  | 0 => 1
  | d + 1 => 2 * dcost d + 3
theorem dcost_pos : ∀ d, 1 ≤ dcost d
  | 0 => by decide
  | d + 1 => by have := dcost_pos d; unfold dcost; omega
theorem dany_succ (m : Nat) : n_dany (m + 1) = runF 5 2 (b_dany (n_dany m)) := by
  unfold n_dany
  rfl
theorem dany_ok (n : Nat) : ∀ (m d : Nat), d < m → Dr (n_dany m [.ref n, .int (d : Int)]) n (dcost d) (VS d)
  | 0, d, hd => absurd hd (Nat.not_lt_zero _)
  | m + 1, d, hd => by
    intro h K B hK
    have cp := dcost_pos d
    let σ2 : SS := [.val (.ref n), .val (.int (d : Int)), .val (.lst ODDV), .no, .no]
    have s1 : sSet 2 (eLst (aCons (eC .non) (aCons (eC (.bl true)) (aCons (eC (.bl false)) (aCons (eC (.int 0)) (aCons (eC (.int 1)) (aCons (eNeg (eC (.int 1))) (aCons (eBin gPow (eC (.int 10)) (eC (.int 20))) (aCons (eC (.str [])) (aCons (eC (.str [109, 97, 105, 110])) (aCons (eC (.str [109, 97, 107, 101])) (aCons (eC (.str [109, 97, 107, 101, 32, 109, 97, 105, 110])) (aCons (eC (.str [104, 101, 114, 101])) (aCons (eC (.str [114, 101, 97, 100])) (aCons (eC (.str [108, 111, 99, 107])) (aCons (eC (.str [115, 116, 101, 112, 32, 48])) (aNil)))))))))))))))) ) (startU 5 [.ref n, .int (d : Int)]) h = .nx σ2 h := by kernel_rfl
    have pick : ∀ h1 K1, Box h1 n K1 → K1 + 1 ≤ 9000000 → ∃ u h', sRet (eCall 2 f_dpick [] (aCons (eVar 0) (aCons (eVar 2) (aNil)))) σ2 h1 = .rt u h' ∧ VS d u ∧ Box h' n (K1 + 1) ∧ Kept n h1 h' := by
      intro h1 K1 B1 hK1
      obtain ⟨u, h', e, mu, B', k'⟩ := dpick_ok n (us := ODDV) (by decide) (by decide) h1 K1 B1 hK1
      exact ⟨u, h', st_ret (ev_call (ea_cons (ev_var rfl) (ea_cons (ev_var rfl) ea_nil)) rfl e), ⟨(odd_vd u mu).mono (Nat.zero_le _), fun us e => by subst e; cases odd_vd _ mu⟩, B', k'⟩
    cases d with
    | zero =>
      obtain ⟨u, h', e, p, B', k'⟩ := pick h K B hK
      refine ⟨u, h', ?_, p, B', k'⟩
      have t0 : tBl (eBin gEq (eVar 1) (eC (.int 0))) σ2 h = .ok true h := by
        rw [tt_bl (ev_bin (ev_var rfl) ev_c (eq_ii _ _))]
        rfl
      rw [dany_succ]
      exact rf_rt rfl (st_seq s1 (st_seqR (st_ifT (tt_or_t t0) e)))
    | succ d =>
      have hc : dcost (d + 1) = 2 * dcost d + 3 := rfl
      have cd := dcost_pos d
      have t0 : tBl (eBin gEq (eVar 1) (eC (.int 0))) σ2 h = .ok false h := by
        rw [tt_bl (ev_bin (ev_var rfl) ev_c (eq_ii _ _)), decide_eq_false (by omega)]
      obtain ⟨w1, h1, e1, ⟨r1, hr1, rfl⟩, B1, k1⟩ := dtake_ok n 3 (by decide) (by decide) h K B (by omega)
      have t1 : tBl (eBin gGt (eCall 2 f_dtake [] (aCons (eVar 0) (aCons (eC (.int 3)) (aNil)))) (eC (.int 0))) σ2 h = .ok (decide ((0 : Int) < (r1 : Int))) h1 := tt_bl (ev_bin (ev_call (ea_cons (ev_var rfl) (ea_cons ev_c ea_nil)) rfl e1) ev_c (by rw [gt_ok]))
      by_cases hr : (0 : Int) < (r1 : Int)
      · rw [decide_eq_true hr] at t1
        obtain ⟨u, h', e, p, B', k'⟩ := pick h1 (K + 1) B1 (by omega)
        refine ⟨u, h', ?_, p, B'.mono (by omega), k1.trans k'⟩
        rw [dany_succ]
        exact rf_rt rfl (st_seq s1 (st_seqR (st_ifT (tt_or_f t0 t1) e)))
      · rw [decide_eq_false hr] at t1
        obtain ⟨w2, h2, e2, ⟨us, rfl, ul, uv⟩, B2, k2⟩ := lc_ok (n := n) (j := 4) (vs := [4]) (σ := σ2) (m := eCall 2 f_dtake [] (aCons (eVar 0) (aCons (eC (.int 3)) (aNil)))) (e := eCall 2 (n_dany m) [] (aCons (eVar 0) (aCons (eBin gSubI (eVar 1) (eC (.int 1))) (aNil)))) (k := dcost d) (c := 1) (P := VS d) (top := 2) (by omega) (by decide) (by decide)
          (fun h K B hK => by
            obtain ⟨w, h', e, ⟨r, hr, rfl⟩, B', k'⟩ := dtake_ok n 3 (by decide) (by decide) h K B hK
            exact ⟨_, h', ev_call (ea_cons (ev_var rfl) (ea_cons ev_c ea_nil)) rfl e, ⟨r, by omega, rfl⟩, B', k'⟩)
          (fun i hi h K B hK => by
            obtain ⟨u, h', e, p, B', k'⟩ := dany_ok n m d (by omega) h K B hK
            have sb : gSubI h (.int ((d + 1 : Nat) : Int)) (.int 1) = some (.int (d : Int)) := by
              show some (U.int (((d + 1 : Nat) : Int) - 1)) = _
              congr 2
              omega
            exact ⟨u, h', ev_call (ea_cons (ev_var rfl) (ea_cons (ev_bin (ev_var rfl) ev_c sb) ea_nil)) rfl e, p, B', k'⟩) h1 (K + 1) B1 (by omega)
        obtain ⟨w3, h3, e3, ⟨r3, hr3, rfl⟩, B3, k3⟩ := dtake_ok n 2 (by decide) (by decide) h2 _ B2 (by omega)
        have t3 : tBl (eBin gEq (eCall 2 f_dtake [] (aCons (eVar 0) (aCons (eC (.int 2)) (aNil)))) (eC (.int 0))) [.val (.ref n), .val (.int ((d + 1 : Nat) : Int)), .val (.lst ODDV), .val (.lst us), .no] h2 = .ok (decide ((r3 : Int) = 0)) h3 := tt_bl (ev_bin (ev_call (ea_cons (ev_var rfl) (ea_cons ev_c ea_nil)) rfl e3) ev_c (eq_ii _ _))
        have go : ∀ u, VS (d + 1) u → (if decide ((r3 : Int) = 0) = true then eCallB (g1 gTuple) (aCons (eVar 3) aNil) [.val (.ref n), .val (.int ((d + 1 : Nat) : Int)), .val (.lst ODDV), .val (.lst us), .no] h3 else eVar 3 [.val (.ref n), .val (.int ((d + 1 : Nat) : Int)), .val (.lst ODDV), .val (.lst us), .no] h3) = .ok u h3 →
            ∃ u h', n_dany (m + 1) [.ref n, .int ((d + 1 : Nat) : Int)] h = .ok u h' ∧ VS (d + 1) u ∧ Box h' n (K + dcost (d + 1)) ∧ Kept n h h' := by
          intro u vu hu
          refine ⟨u, h3, ?_, vu, B3.mono (by omega), k1.trans (k2.trans k3)⟩
          rw [dany_succ]
          exact rf_rt rfl (st_seq s1 (st_seq (σ1 := σ2) (h1 := h1) (st_ifF (tt_or_f t0 t1) rfl) (st_seq (σ1 := [.val (.ref n), .val (.int ((d + 1 : Nat) : Int)), .val (.lst ODDV), .val (.lst us), .no]) (h1 := h2) (st_set e2) (st_ret (ev_if t3 hu)))))
        by_cases h0 : (r3 : Int) = 0
        · exact go (.tup us) ⟨.tup (by omega) fun u hu => (uv u hu).1, fun us e => by cases e⟩ (by rw [decide_eq_true h0, if_pos rfl]; exact ev_callB (ea_cons (ev_var rfl) ea_nil) rfl)
        · exact go (.lst us) ⟨.lst (by omega) fun u hu => (uv u hu).1, fun zs e => by cases e; omega⟩ (by rw [decide_eq_false h0, if_neg Bool.false_ne_true]; exact ev_var rfl)
end M7
end

noncomputable section
namespace S7
open PySem PySem.Spec PyProof.Rows L2 M7
/-! the classes -/
def cN : Nat → PySem.Str
  | 0 => "SwapError"
  | 1 => "InvalidRow"
  | 2 => "InvalidWatcher"
  | 3 => "InvalidText"
  | 4 => "Row"
  | _ => "?"
abbrev cAk (K : PySem.W.Frag) (C : Nat) : Addr := He.ga K (cN C)
abbrev PP (pg : Program) (w : World) (K : PySem.W.Frag) : Par := ⟨K, cAk K, nmOf, w, pg⟩
theorem nmk {pg : Program} {w : World} {K : PySem.W.Frag} {n : Nat} {x : Str} (h : nmOf n = x) : (PP pg w K).nm n = x := h
theorem nmi {pg : Program} {w : World} {K : PySem.W.Frag} (i j : Nat) (h : (PP pg w K).nm i = (PP pg w K).nm j) : i = j := nmOf_inj h
def c_NEWS : U := .tup (([[97, 119, 97, 121], [103, 111, 110, 101], [104, 101, 114, 101], [108, 101, 102, 116], [109, 97, 100, 101], [111, 118, 101, 114], [116, 111, 117, 99, 104, 101, 100], [119, 114, 105, 116, 116, 101, 110]] : List (List Nat)).map .str)
def c_DEEDS : U := .tup (([[114, 101, 97, 100], [115, 99, 97, 110], [108, 111, 111, 107], [104, 111, 108, 100], [108, 101, 116]] : List (List Nat)).map .str)
def c_TESTS : U := .tup (([[116, 104, 101, 114, 101], [104, 111, 108, 100, 115], [115, 97, 109, 101], [103, 111, 111, 100]] : List (List Nat)).map .str)
def l_list : List (Tg × Bool) := [(.non, false), (.bl, false), (.int, false), (.str, false), (.lst, true), (.tup, false), (.dct, false), (.own 4, false)]
def l_list_tuple_T : List (Tg × Bool) := [(.non, false), (.bl, false), (.int, false), (.str, false), (.lst, true), (.tup, true), (.dct, false), (.own 4, false)]
def l_str : List (Tg × Bool) := [(.non, false), (.bl, false), (.int, false), (.str, true), (.lst, false), (.tup, false), (.dct, false), (.own 4, false)]
def b__law_take : MS := sSeq (sIf (tBl (eBin gGt (eIxA (eVar 0) (eC (.int 0))) (eC (.int 0)))) (sSeq (sSet 2 (eBin gModI (eCallB (g1 gInt) (aCons (eIxA (eVar 0) (eC (.int 0))) (aNil))) (eVar 1)))
  (sSeq (sAsg (eBin gFdiv (eIxA (eVar 0) (eC (.int 0))) (eVar 1)) (tgSub (eVar 0) (eC (.int 0))))
  (sRet (eVar 2)))) (sSkip))
  (sSeq (sAsg (eBin gAddAny (eIxA (eVar 0) (eC (.int 2))) (eC (.int 1))) (tgSub (eVar 0) (eC (.int 2))))
  (sSeq (sSet 3 (eBin gModI (eCallB (g1 gInt) (aCons (eBin gMulE (eBin gAddAny (eIxA (eVar 0) (eC (.int 1))) (eBin gMulE (eC (.int 104729)) (eIxA (eVar 0) (eC (.int 2))))) (eC (.int 69767))) (aNil))) (eC (.int 2147483647))))
  (sSeq (sAsg (eBin gAddAny (eBin gModI (eCallB (g1 gInt) (aCons (eBin gAddAny (eBin gMulE (eVar 3) (eC (.int 48271))) (eC (.int 30103))) (aNil))) (eC (.int 2147483629))) (eC (.int 1))) (tgSub (eVar 0) (eC (.int 1))))
  (sSeq (sIf (tBl (eBin gLt (eVar 1) (eBin gPow (eC (.int 2)) (eC (.int 40))))) (sRet (eBin gModI (eCallB (g1 gInt) (aCons (eBin gFdiv (eBin gAddAny (eBin gMulE (eVar 3) (eC (.int 2147483647))) (eIxA (eVar 0) (eC (.int 1)))) (eC (.int 8191))) (aNil))) (eVar 1))) (sSkip))
  (sSeq (sSet 4 (eBin gMulE (eBin gAddAny (eBin gMulE (eVar 3) (eC (.int 2147483647))) (eIxA (eVar 0) (eC (.int 1)))) (eBin gPow (eC (.int 2147483629)) (eC (.int 3)))))
  (sRet (eBin gModI (eCallB (g1 gInt) (aCons (eBin gAddAny (eBin gAddAny (eVar 4) (eBin gMulE (eBin gPow (eIxA (eVar 0) (eC (.int 1))) (eC (.int 3))) (eC (.int 8191)))) (eVar 3)) (aNil))) (eVar 1))))))))
def f__law_take : FM := runF 5 2 b__law_take
def b__law_pick : MS := sRet (eIxA (eVar 1) (eCall 2 f__law_take [] (aCons (eVar 0) (aCons (eCallB (gLenA) (aCons (eVar 1) (aNil))) (aNil)))))
def f__law_pick : FM := runF 2 2 b__law_pick
def b__law_any (f_self : FM) : MS := sSeq (sSet 2 (eLst (aCons (eC .non) (aCons (eC (.bl true)) (aCons (eC (.bl false)) (aCons (eC (.int 0)) (aCons (eC (.int 1)) (aCons (eNeg (eC (.int 1))) (aCons (eBin gPow (eC (.int 10)) (eC (.int 20))) (aCons (eC (.str [])) (aCons (eC (.str [109, 97, 105, 110])) (aCons (eC (.str [109, 97, 107, 101])) (aCons (eC (.str [109, 97, 107, 101, 32, 109, 97, 105, 110])) (aCons (eC (.str [104, 101, 114, 101])) (aCons (eC (.str [114, 101, 97, 100])) (aCons (eC (.str [108, 111, 99, 107])) (aCons (eC (.str [115, 116, 101, 112, 32, 48])) (aNil))))))))))))))))))
  (sSeq (sIf (tOr' (tBl (eBin gEq (eVar 1) (eC (.int 0)))) (tBl (eBin gGt (eCall 2 f__law_take [] (aCons (eVar 0) (aCons (eC (.int 3)) (aNil)))) (eC (.int 0))))) (sRet (eCall 2 f__law_pick [] (aCons (eVar 0) (aCons (eVar 2) (aNil))))) (sSkip))
  (sSeq (sSet 3 (eFz (cLc (jRng1 (eCall 2 f__law_take [] (aCons (eVar 0) (aCons (eC (.int 3)) (aNil))))) (gmName 4) (tTyes) (bElt (eCall 2 f_self [] (aCons (eVar 0) (aCons (eBin gSubI (eVar 1) (eC (.int 1))) (aNil))))) [4])))
  (sRet (eIf (tBl (eBin gEq (eCall 2 f__law_take [] (aCons (eVar 0) (aCons (eC (.int 2)) (aNil)))) (eC (.int 0)))) (eCallB (g1 gTuple) (aCons (eVar 3) (aNil))) (eVar 3)))))
def n__law_any (n : Nat) : FM := Nat.rec (motive := fun _ => FM) (fun _ _ => .bad) (fun _ ih => runF 5 2 (b__law_any ih)) n
def f__law_any : FM := n__law_any 8
def b__law_mixed : MS := sSeq (sPar [2, 3] (aCons (eHp (cList (eVar 1))) (aCons (eHp (cLst (aNil))) (aNil))))
  (sSeq (sFor (jRng1 (eCallB (gLenA) (aCons (eVar 2) (aNil)))) (gmName 4) (sExpr (eAppH (eVar 3) (ePopAt (eVar 2) (eCall 2 f__law_take [] (aCons (eVar 0) (aCons (eCallB (gLenA) (aCons (eVar 2) (aNil))) (aNil))))))))
  (sRet (eVar 3)))
def f__law_mixed : FM := runF 5 2 b__law_mixed
def b__law_any_row : MS := sSeq (sSet 1 (eLst (aCons (eC (.str [97, 119, 97, 121])) (aCons (eC (.str [103, 111, 110, 101])) (aCons (eC (.str [104, 101, 114, 101])) (aCons (eC (.str [108, 101, 102, 116])) (aCons (eC (.str [109, 97, 100, 101])) (aCons (eC (.str [111, 118, 101, 114])) (aCons (eC (.str [116, 111, 117, 99, 104, 101, 100])) (aCons (eC (.str [119, 114, 105, 116, 116, 101, 110])) (aNil)))))))))))
  (sSeq (sSet 2 (eFz (cLc (jSeq (eCall 2 f__law_mixed [] (aCons (eVar 0) (aCons (eLst (aCons (eC (.str [116, 104, 101, 114, 101])) (aCons (eC (.str [104, 111, 108, 100, 115])) (aCons (eC (.str [115, 97, 109, 101])) (aCons (eC (.str [103, 111, 111, 100])) (aNil)))))) (aNil))))) (gmName 5) (tTyes) (bElt (eBin gAddAny (eCall 2 f__law_pick [] (aCons (eVar 0) (aCons (eLst (aCons (eC (.str [])) (aCons (eC (.str [110, 111, 116, 32])) (aNil)))) (aNil)))) (eVar 5))) [5])))
  (sSeq (sSet 3 (eCall 2 f__law_mixed [] (aCons (eVar 0) (aCons (eLst (aCons (eC (.str [114, 101, 97, 100])) (aCons (eC (.str [115, 99, 97, 110])) (aCons (eC (.str [108, 111, 111, 107])) (aCons (eC (.str [104, 111, 108, 100])) (aCons (eC (.str [108, 101, 116])) (aNil))))))) (aNil)))))
  (sSeq (sSet 4 (eSl (eCall 2 f__law_mixed [] (aCons (eVar 0) (aCons (eVar 1) (aNil)))) none (some (eBin gAddAny (eC (.int 1)) (eCall 2 f__law_take [] (aCons (eVar 0) (aCons (eC (.int 8)) (aNil))))))))
  (sRet (eTup (aCons (eCallB (g1 gTuple) (aCons (eVar 4) (aNil))) (aCons (eCallB (g1 gTuple) (aCons (eSl (eVar 2) none (some (eCall 2 f__law_take [] (aCons (eVar 0) (aCons (eC (.int 5)) (aNil)))))) (aNil))) (aCons (eCallB (g1 gTuple) (aCons (eSl (eVar 3) none (some (eCall 2 f__law_take [] (aCons (eVar 0) (aCons (eC (.int 5)) (aNil)))))) (aNil))) (aNil)))))))))
def f__law_any_row : FM := runF 6 1 b__law_any_row
def b__law_box : MS := sSeq (sSet 3 (eBin gAddAny (eBin gAddAny (eBin gMulE (eC (.int 8699)) (eVar 1)) (eBin gMulE (eC (.int 104779)) (eVar 2))) (eC (.int 73))))
  (sSeq (sIf (tBl (eBin gLt (eVar 1) (eCallB (gLenA) (aCons (eVar 0) (aNil))))) (sSet 3 (eCallB (g1 gAbs) (aCons (eIxA (eVar 0) (eVar 1)) (aNil)))) (sIf (tBl (eBin gGt (eCallB (gLenA) (aCons (eVar 0) (aNil))) (eC (.int 0)))) (sSet 3 (eBin gAddAny (eVar 3) (eBin gMulE (eBin gModI (eCallB (g1 gInt) (aCons (eCallB (g1 gAbs) (aCons (eIxA (eVar 0) (eBin gModI (eCallB (g1 gInt) (aCons (eVar 1) (aNil))) (eCallB (gLenA) (aCons (eVar 0) (aNil))))) (aNil))) (aNil))) (eC (.int 2147483629))) (eC (.int 69767))))) (sSkip)))
  (sSeq (sSet 4 (eBin gAddAny (eBin gModI (eCallB (g1 gInt) (aCons (eBin gAddAny (eBin gMulE (eBin gModI (eCallB (g1 gInt) (aCons (eVar 3) (aNil))) (eC (.int 2147483629))) (eC (.int 48271))) (eBin gMulE (eC (.int 40692)) (eBin gAddAny (eVar 1) (eBin gMulE (eC (.int 11)) (eVar 2))))) (aNil))) (eC (.int 2147483629))) (eC (.int 1))))
  (sRet (eHp (cLst (aCons (eIxA (eLst (aCons (eC (.int 0)) (aCons (eVar 3) (aNil)))) (eCallB (g1 gInt) (aCons (eBin gGe (eVar 3) (eBin gPow (eC (.int 10)) (eC (.int 18)))) (aNil)))) (aCons (eVar 4) (aCons (eC (.int 0)) (aNil)))))))))
def f__law_box : FM := runF 5 3 b__law_box
def b__law_are : MS := sSeq (sIf (tNot' (tVal (eIsi l_list_tuple_T (eVar 0)))) (sRet (eC (.bl false))) (sSkip))
  (sRet (eBin gEq (eFz (cLc (jSeq (eVar 0)) (gmName 2) (tOr' (tNot' (tVal (eIsi l_str (eVar 2)))) (tBl (eBin gNotInAll (eVar 2) (eVar 1)))) (bElt (eVar 2)) [2])) (eLst (aNil))))
def f__law_are : FM := runF 3 2 b__law_are
def b__law_due : MS := sSeq (sSet 3 (eLst (aCons (eC (.str [116, 104, 101, 114, 101])) (aCons (eC (.str [104, 111, 108, 100, 115])) (aCons (eC (.str [115, 97, 109, 101])) (aCons (eC (.str [103, 111, 111, 100])) (aNil)))))))
  (sSeq (sSet 4 (eLst (aCons (eC (.str [97, 119, 97, 121])) (aCons (eC (.str [103, 111, 110, 101])) (aCons (eC (.str [104, 101, 114, 101])) (aCons (eC (.str [108, 101, 102, 116])) (aCons (eC (.str [109, 97, 100, 101])) (aCons (eC (.str [111, 118, 101, 114])) (aCons (eC (.str [116, 111, 117, 99, 104, 101, 100])) (aCons (eC (.str [119, 114, 105, 116, 116, 101, 110])) (aNil)))))))))))
  (sSeq (sIf (tOr' (tNot' (tVal (eCall 2 f__law_are [] (aCons (eVar 0) (aCons (eVar 4) (aNil)))))) (tBl (eBin gEq (eCallB (gLenA) (aCons (eVar 0) (aNil))) (eC (.int 0))))) (sRet (eC (.str [110, 101, 119, 115]))) (sSkip))
  (sSeq (sIf (tNot' (tVal (eCall 2 f__law_are [] (aCons (eVar 1) (aCons (eBin gAddAny (eVar 3) (eFz (cLc (jSeq (eVar 3)) (gmName 5) (tTyes) (bElt (eBin gAddAny (eC (.str [110, 111, 116, 32])) (eVar 5))) [5]))) (aNil)))))) (sRet (eC (.str [116, 101, 115, 116, 115]))) (sSkip))
  (sRet (eIf (tVal (eCall 2 f__law_are [] (aCons (eVar 2) (aCons (eLst (aCons (eC (.str [114, 101, 97, 100])) (aCons (eC (.str [115, 99, 97, 110])) (aCons (eC (.str [108, 111, 111, 107])) (aCons (eC (.str [104, 111, 108, 100])) (aCons (eC (.str [108, 101, 116])) (aNil))))))) (aNil))))) (eC (.str [109, 97, 100, 101])) (eC (.str [100, 101, 101, 100, 115])))))))
def f__law_due : FM := runF 6 3 b__law_due
def b_is_sequence : MS := sRet (eIsi l_list_tuple_T (eVar 0))
def f_is_sequence : FM := runF 1 1 b_is_sequence
def b_is_word_of : MS := sRet (eAnd (eIsi l_str (eVar 0)) (eBin gInAll (eVar 0) (eVar 1)))
def f_is_word_of : FM := runF 2 2 b_is_word_of
def b_are_words_of : MS := sRet (eAnd (eCall 1 f_is_sequence [] (aCons (eVar 0) (aNil))) (eCallB (g1 gAll) (aCons (eFz (cLc (jSeq (eVar 0)) (gmName 2) (tTyes) (bElt (eCall 2 f_is_word_of [] (aCons (eVar 2) (aCons (eVar 1) (aNil))))) [2])) (aNil))))
def f_are_words_of : FM := runF 3 2 b_are_words_of
def b_is_test : MS := sSeq (sIf (tNot' (tVal (eIsi l_str (eVar 0)))) (sRet (eC (.bl false))) (sSkip))
  (sRet (eOr (eBin gInAll (eVar 0) (eC c_TESTS)) (eAnd (eBin gEq (eSl (eVar 0) none (some (eC (.int 4)))) (eC (.str [110, 111, 116, 32]))) (eBin gInAll (eSl (eVar 0) (some (eC (.int 4))) none) (eC c_TESTS)))))
def f_is_test : FM := runF 1 1 b_is_test
def b_wrong_part : MS := sSeq (sIf (tOr' (tNot' (tVal (eCall 2 f_are_words_of [] (aCons (eVar 0) (aCons (eC c_NEWS) (aNil)))))) (tBl (eBin gEq (eCallB (gLenA) (aCons (eVar 0) (aNil))) (eC (.int 0))))) (sRet (eC (.str [110, 101, 119, 115]))) (sSkip))
  (sSeq (sIf (tOr' (tNot' (tVal (eCall 1 f_is_sequence [] (aCons (eVar 1) (aNil))))) (tNot' (tVal (eCallB (g1 gAll) (aCons (eFz (cLc (jSeq (eVar 1)) (gmName 3) (tTyes) (bElt (eCall 1 f_is_test [] (aCons (eVar 3) (aNil)))) [3])) (aNil)))))) (sRet (eC (.str [116, 101, 115, 116, 115]))) (sSkip))
  (sRet (eIf (tVal (eCall 2 f_are_words_of [] (aCons (eVar 2) (aCons (eC c_DEEDS) (aNil))))) (eC .non) (eC (.str [100, 101, 101, 100, 115])))))
def f_wrong_part : FM := runF 4 3 b_wrong_part
def b_Row___init__ : MS := sSeq (sSet 4 (eCall 3 f_wrong_part [] (aCons (eVar 1) (aCons (eVar 2) (aCons (eVar 3) (aNil))))))
  (sSeq (sIf (tBl (eBin gIsNot (eVar 4) (eC .non))) (sRaise 1 211597303 (eVar 4)) (sSkip))
  (sSeq (sOwnFld 0 243135214 [4] (eCallB (g1 gTuple) (aCons (eVar 1) (aNil))))
  (sSeq (sOwnFld 0 31115244276 [4] (eCallB (g1 gTuple) (aCons (eVar 2) (aNil))))
  (sSeq (sOwnFld 0 31081460452 [4] (eCallB (g1 gTuple) (aCons (eVar 3) (aNil))))
  (sSeq (sSet 5 (eHp (cLst (aCons (eC (.str [111, 110])) (aStarA (eOwnFld 0 243135214 [4]) (aNil))))))
  (sSeq (sExpr (eExtH (eVar 5) (eIf (tBl (eBin gGt (eCallB (gLenA) (aCons (eOwnFld 0 31115244276 [4]) (aNil))) (eC (.int 0)))) (eLst (aCons (eC (.str [105, 102])) (aCons (eMeth gJoin (eC (.str [32, 97, 110, 100, 32])) (aCons (eOwnFld 0 31115244276 [4]) (aNil))) (aNil)))) (eLst (aNil)))))
  (sSeq (sExpr (eExtH (eVar 5) (eIf (tBl (eBin gGt (eCallB (gLenA) (aCons (eOwnFld 0 31081460452 [4]) (aNil))) (eC (.int 0)))) (eLst (aCons (eC (.str [100, 111])) (aCons (eMeth gJoin (eC (.str [32, 116, 104, 101, 110, 32])) (aCons (eOwnFld 0 31081460452 [4]) (aNil))) (aNil)))) (eLst (aNil)))))
  (sOwnFld 0 245248756 [4] (eMeth gJoin (eC (.str [32])) (aCons (eVar 5) (aNil)))))))))))
def i_Row : FI := initF 6 3 4 b_Row___init__
def b__law_refused : MS := sSeq (sSet 3 (eC (.str [109, 97, 100, 101])))
  (sSeq (sTryV 1 211597303 3 (sExpr (eMake 3 (RI.obj 4) i_Row [] (aCons (eVar 0) (aCons (eVar 1) (aCons (eVar 2) (aNil)))))))
  (sRet (eVar 3)))
def f__law_refused : FM := runF 5 3 b__law_refused
def b_law : MS := sSeq (sFor (jRng1 (eCallB (g2 gMax2) (aCons (eC (.int 1)) (aCons (eCallB (g2 gMin2) (aCons (eC (.int 4)) (aCons (eCallB (gLenA) (aCons (eVar 0) (aNil))) (aNil)))) (aNil))))) (gmName 1) (sSeq (sSet 2 (eCall 3 f__law_box [] (aCons (eVar 0) (aCons (eVar 1) (aCons (eC (.int 11)) (aNil))))))
  (sSeq (sSet 3 (eHp (cLst (aCons (eC (.str [])) (aCons (eC (.str [110, 111, 116])) (aCons (eC (.str [110, 111, 116, 32, 110, 111, 116, 32, 115, 97, 109, 101])) (aCons (eC (.str [72, 101, 114, 101])) (aCons (eC (.str [104, 101, 114, 101, 32])) (aCons (eC (.str [110, 111, 116, 32, 32, 103, 111, 111, 100])) (aCons (eC (.str [119, 97, 107, 101])) (aCons (eC (.str [114, 101, 97, 100, 115])) (aCons (eC (.str [111, 110])) (aCons (eLst (aCons (eC (.str [104, 101, 114, 101])) (aNil))) (aCons (eC .non) (aCons (eC (.int 0)) (aNil))))))))))))))))
  (sSeq (sExpr (eAppH (eVar 3) (eC (.bl true))))
  (sFor (jRng1 (eC (.int 10))) (gmName 4) (sSeq (sSet 5 (eHp (cLc (jSeq (eCall 1 f__law_any_row [] (aCons (eVar 2) (aNil)))) (gmName 10) (tTyes) (bElt (eFz (cList (eVar 10)))) [10])))
  (sSeq (sIf (tBl (eBin gNe (eCall 3 f__law_refused [] (aCons (eIxA (eVar 5) (eC (.int 0))) (aCons (eIxA (eVar 5) (eC (.int 1))) (aCons (eIxA (eVar 5) (eC (.int 2))) (aNil))))) (eC (.str [109, 97, 100, 101])))) (sRet (eC (.bl false))) (sSkip))
  (sSeq (sFor (jRng1 (eBin gAddAny (eC (.int 1)) (eCall 2 f__law_take [] (aCons (eVar 2) (aCons (eC (.int 2)) (aNil)))))) (gmName 6) (sSeq (sPar [7, 8] (aCons (eCall 2 f__law_take [] (aCons (eVar 2) (aCons (eC (.int 3)) (aNil)))) (aCons (eCall 2 f__law_take [] (aCons (eVar 2) (aCons (eC (.int 3)) (aNil)))) (aNil))))
  (sIf (tBl (eBin gEq (eVar 8) (eC (.int 0)))) (sAsg (eCall 2 f__law_any [] (aCons (eVar 2) (aCons (eC (.int 7)) (aNil)))) (tgSub (eVar 5) (eVar 7))) (sIf (tAnd' (tBl (eBin gEq (eVar 8) (eC (.int 1)))) (tVal (eIsi l_list (eIxA (eVar 5) (eVar 7))))) (sSeq (sSet 9 (eCall 2 f__law_take [] (aCons (eVar 2) (aCons (eBin gAddAny (eCallB (gLenA) (aCons (eIxA (eVar 5) (eVar 7)) (aNil))) (eC (.int 1))) (aNil)))))
  (sAsg (eBin gAddAny (eBin gAddAny (eSl (eIxA (eVar 5) (eVar 7)) none (some (eVar 9))) (eLst (aCons (eCall 2 f__law_pick [] (aCons (eVar 2) (aCons (eVar 3) (aNil)))) (aNil)))) (eSl (eIxA (eVar 5) (eVar 7)) (some (eVar 9)) none)) (tgSub (eVar 5) (eVar 7)))) (sAsg (eCall 2 f__law_pick [] (aCons (eVar 2) (aCons (eLst (aCons (eTup (aNil)) (aCons (eLst (aNil)) (aCons (eC (.str [104, 101, 114, 101])) (aCons (eC (.str [114, 101, 97, 100])) (aCons (eTup (aCons (eC (.str [104, 101, 114, 101])) (aNil))) (aCons (eLst (aCons (eC (.str [115, 97, 109, 101])) (aNil))) (aCons (eLst (aCons (eC (.str [114, 101, 97, 100])) (aNil))) (aCons (eC .non) (aCons (eC (.int 3)) (aNil))))))))))) (aNil)))) (tgSub (eVar 5) (eVar 7)))))))
  (sIf (tBl (eBin gNe (eCall 3 f__law_refused [] (aCons (eIxA (eVar 5) (eC (.int 0))) (aCons (eIxA (eVar 5) (eC (.int 1))) (aCons (eIxA (eVar 5) (eC (.int 2))) (aNil))))) (eCall 3 f__law_due [] (aCons (eIxA (eVar 5) (eC (.int 0))) (aCons (eIxA (eVar 5) (eC (.int 1))) (aCons (eIxA (eVar 5) (eC (.int 2))) (aNil))))))) (sRet (eC (.bl false))) (sSkip))))))))))
  (sRet (eAnd (eBin gEq (eCall 3 f__law_refused [] (aCons (eLst (aNil)) (aCons (eLst (aNil)) (aCons (eLst (aNil)) (aNil))))) (eC (.str [110, 101, 119, 115]))) (eBin gEq (eCall 3 f__law_refused [] (aCons (eTup (aCons (eC (.str [111, 118, 101, 114])) (aNil))) (aCons (eTup (aNil)) (aCons (eTup (aNil)) (aNil))))) (eC (.str [109, 97, 100, 101])))))
def f_law : FM := runF 11 1 b_law
end S7
end

noncomputable section
namespace S7
open PySem PySem.Spec PyProof.Rows L2 M7
theorem tk : f__law_take = f_dtake := rfl
theorem bx : f__law_box = f_dbox := rfl
theorem pk : f__law_pick = f_dpick := rfl
theorem mx : f__law_mixed = f_mixed := rfl
def NW : List (List Nat) := [[97, 119, 97, 121], [103, 111, 110, 101], [104, 101, 114, 101], [108, 101, 102, 116], [109, 97, 100, 101], [111, 118, 101, 114], [116, 111, 117, 99, 104, 101, 100], [119, 114, 105, 116, 116, 101, 110]]
def TS : List (List Nat) := [[116, 104, 101, 114, 101], [104, 111, 108, 100, 115], [115, 97, 109, 101], [103, 111, 111, 100]]
def NOT : List Nat := [110, 111, 116, 32]
def TS8 : List (List Nat) := TS ++ TS.map fun t => NOT ++ t
def DE : List (List Nat) := [[114, 101, 97, 100], [115, 99, 97, 110], [108, 111, 111, 107], [104, 111, 108, 100], [108, 101, 116]]
theorem as_in (S : List (List Nat)) : ∀ us : List U, (∀ w ∈ us, ∃ e ∈ S, w = .str e) → ∃ es, us = T es ∧ ∀ e ∈ es, e ∈ S
  | [], _ => ⟨[], rfl, fun e h => by cases h⟩
  | u :: us, h => by
    obtain ⟨e, he, rfl⟩ := h u List.mem_cons_self
    obtain ⟨es, rfl, hs⟩ := as_in S us fun w hw => h w (List.mem_cons_of_mem _ hw)
    exact ⟨e :: es, rfl, fun x hx => (List.mem_cons.mp hx).elim (fun z => z ▸ he) (hs x)⟩
theorem in_T {S : List (List Nat)} {u : U} (h : u ∈ T S) : ∃ e ∈ S, u = .str e := by
  obtain ⟨e, he, rfl⟩ := List.mem_map.mp h
  exact ⟨e, he, rfl⟩
theorem ts8_all : (T [[], NOT]).all (fun a => TS.all fun t => match a with | .str a => decide (a ++ t ∈ TS8) | _ => false) = true := by decide +kernel
/-- a drawn row -/
structure RowOk (nw ts ds : List (List Nat)) : Prop where
  n : ∀ x ∈ nw, x ∈ NW
  t : ∀ x ∈ ts, x ∈ TS8
  d : ∀ x ∈ ds, x ∈ DE
  n0 : nw ≠ []
  nl : nw.length ≤ 8
  tl : ts.length ≤ 4
  dl : ds.length ≤ 5
theorem any_row_ok (n : Nat) (h : HP) (K : Int) (B : Box h n K) (hK : K + 40 ≤ 9000000) (hn : n < h.n) :
    ∃ nw ts ds h', f__law_any_row [.ref n] h = .ok (.tup [.tup (T nw), .tup (T ts), .tup (T ds)]) h' ∧ RowOk nw ts ds ∧ Box h' n (K + 40) ∧ Gb n h h' := by
  let σ1 : SS := [.val (.ref n), .val (.lst (T NW)), .no, .no, .no, .no]
  obtain ⟨f1, r1, h1, e1, m1, l1, p1, B1, g1, q1, q1'⟩ := mixed_ok n (T TS) (by decide) h K B (by show K + 4 ≤ _; omega) hn
  have l1' : f1.length = 4 := l1
  have B1' : Box h1 n (K + 4) := B1
  let pk : ME := eCall 2 f__law_pick [] (aCons (eVar 0) (aCons (eLst (aCons (eC (.str [])) (aCons (eC (.str [110, 111, 116, 32])) (aNil)))) (aNil)))
  obtain ⟨us, h2, e2, l2, p2, ⟨B2, m2, g2⟩⟩ := lc_ix (I := fun i g => Box g n (K + 4 + (i : Nat)) ∧ g.m r1 = some (.lst f1) ∧ Gb n h1 g) (g := gmName 5) (e := eBin gAddAny pk (eVar 5)) (vs := [5]) (s := srcH r1) (σ := σ1) (xs := f1)
    (σu := fun u => [.val (.ref n), .val (.lst (T NW)), .no, .no, .no, .val u]) (P := fun u => ∃ x ∈ TS8, u = .str x)
    (fun i g ⟨_, m, _⟩ k => srcH_at m k) (fun g u hu => rfl)
    (fun i g hi ⟨B, m, gg⟩ => by
      obtain ⟨t, ht, et⟩ := in_T (p1 _ (List.getElem_mem hi))
      obtain ⟨w, g3, e3, mw, B3, k3⟩ := dpick_ok n (us := T [[], NOT]) (by decide) (by decide) g _ B (by omega)
      obtain ⟨a, ha, rfl⟩ := in_T mw
      have mem : a ++ t ∈ TS8 := of_decide_eq_true (List.all_eq_true.mp (List.all_eq_true.mp ts8_all (.str a) mw) t ht)
      have la : a.length ≤ 4 := by
        rcases List.mem_cons.mp ha with z | z
        · rw [z]; decide
        · rw [List.mem_singleton.mp z]; decide
      have lt : t.length ≤ 10 := by
        have hb : TS.all (fun t => Nat.ble t.length 10) = true := by decide
        exact Nat.le_of_ble_eq_true (List.all_eq_true.mp hb t ht)
      rw [et]
      refine ⟨.str (a ++ t), g3, ev_bin (ev_call (ea_cons (ev_var rfl) (ea_cons (ev_lst (us := T [[], NOT]) rfl rfl) ea_nil)) rfl e3) (ev_var rfl) (gAdd_ssP (by omega)), ⟨_, mem, rfl⟩, B3.mono (by omega), (k3.mm _ (by omega)).trans m, gg.trans (Gb.of k3)⟩) f1.length 0 [] h1 ⟨B1'.mono (by omega), m1, Gb.refl⟩ (Nat.zero_add _) (by show 0 + f1.length ≤ _; omega)
  obtain ⟨ts, rfl, hts⟩ := as_in TS8 us p2
  have lts : ts.length = 4 := by rw [List.length_map] at l2; omega
  have n1 : n < h1.n := Nat.lt_of_lt_of_le hn g1.nn
  have n2 : n < h2.n := Nat.lt_of_lt_of_le n1 g2.nn
  have B2' : Box h2 n (K + 8) := by rw [l1'] at B2; exact B2.mono (by omega)
  let σ2 : SS := [.val (.ref n), .val (.lst (T NW)), .val (.lst (T ts)), .no, .no, .no]
  have s2 : sSet 2 (eFz (cLc (jSeq (eCall 2 f__law_mixed [] (aCons (eVar 0) (aCons (eLst (aCons (eC (.str [116, 104, 101, 114, 101])) (aCons (eC (.str [104, 111, 108, 100, 115])) (aCons (eC (.str [115, 97, 109, 101])) (aCons (eC (.str [103, 111, 111, 100])) (aNil)))))) (aNil))))) (gmName 5) (tTyes) (bElt (eBin gAddAny pk (eVar 5))) [5])) σ1 h = .nx σ2 h2 :=
    st_set (ev_fz (ea_lc (ej_refP (ev_call (ea_cons (ev_var rfl) (ea_cons (ev_lst (us := T TS) rfl rfl) ea_nil)) rfl e1) m1) e2))
  obtain ⟨f3, r3, h3, e3, m3, l3, p3, B3, g3, q3, q3'⟩ := mixed_ok n (T DE) (by decide) h2 _ B2' (by show K + 8 + 5 ≤ _; omega) n2
  have l3' : f3.length = 5 := l3
  have B3' : Box h3 n (K + 13) := B3.mono (by show K + 8 + 5 ≤ _; omega)
  have n3 : n < h3.n := Nat.lt_of_lt_of_le n2 g3.nn
  let σ3 : SS := [.val (.ref n), .val (.lst (T NW)), .val (.lst (T ts)), .val (.ref r3), .no, .no]
  have s3 : sSet 3 (eCall 2 f__law_mixed [] (aCons (eVar 0) (aCons (eLst (aCons (eC (.str [114, 101, 97, 100])) (aCons (eC (.str [115, 99, 97, 110])) (aCons (eC (.str [108, 111, 111, 107])) (aCons (eC (.str [104, 111, 108, 100])) (aCons (eC (.str [108, 101, 116])) (aNil))))))) (aNil)))) σ2 h2 = .nx σ3 h3 := st_set (ev_call (ea_cons (ev_var rfl) (ea_cons (ev_lst (us := T DE) rfl rfl) ea_nil)) rfl e3)
  obtain ⟨f4, r4, h4, e4, m4, l4, p4, B4, g4, q4, q4'⟩ := mixed_ok n (T NW) (by decide) h3 _ B3' (by show K + 13 + 8 ≤ _; omega) n3
  have l4' : f4.length = 8 := l4
  have B4' : Box h4 n (K + 21) := B4.mono (by show K + 13 + 8 ≤ _; omega)
  obtain ⟨w5, h5, e5, ⟨k5, hk5, rfl⟩, B5, kk5⟩ := dtake_ok n 8 (by decide) (by decide) h4 _ B4' (by omega)
  have m45 : h5.m r4 = some (.lst f4) := (kk5.mm _ (by omega)).trans m4
  obtain ⟨nw0, en, hnw⟩ := as_in NW f4 fun w hw => in_T (p4 w hw)
  subst en
  have lnw : nw0.length = 8 := by rw [List.length_map] at l4'; exact l4'
  let nw := nw0.take (1 + k5)
  let σ4 : SS := [.val (.ref n), .val (.lst (T NW)), .val (.lst (T ts)), .val (.ref r3), .val (.lst (T nw)), .no]
  have s4 : sSet 4 (eSl (eCall 2 f__law_mixed [] (aCons (eVar 0) (aCons (eVar 1) (aNil)))) none (some (eBin gAddAny (eC (.int 1)) (eCall 2 f__law_take [] (aCons (eVar 0) (aCons (eC (.int 8)) (aNil))))))) σ3 h3 = .nx σ4 h5 :=
    st_set (ev_slH (m := 1 + k5) (ev_call (ea_cons (ev_var rfl) (ea_cons (ev_var rfl) ea_nil)) rfl e4) (ev_bin ev_c (ev_call (ea_cons (ev_var rfl) (ea_cons ev_c ea_nil)) rfl e5) gAdd_ok) ((sl_takeR m45).trans (by rw [T_take])))
  obtain ⟨w6, h6, e6, ⟨k6, hk6, rfl⟩, B6, kk6⟩ := dtake_ok n 5 (by decide) (by decide) h5 _ B5 (by omega)
  obtain ⟨w7, h7, e7, ⟨k7, hk7, rfl⟩, B7, kk7⟩ := dtake_ok n 5 (by decide) (by decide) h6 _ B6 (by omega)
  obtain ⟨ds0, ed, hds⟩ := as_in DE f3 fun w hw => in_T (p3 w hw)
  subst ed
  have lds : ds0.length = 5 := by rw [List.length_map] at l3'; exact l3'
  have g45 : Gb n h3 h7 := g4.trans ((Gb.of kk5).trans ((Gb.of kk6).trans (Gb.of kk7)))
  have m37 : h7.m r3 = some (.lst (T ds0)) := (g45.mm r3 q3' (by omega)).trans m3
  refine ⟨nw, ts.take k6, ds0.take k7, h7, rf_rt rfl (st_seq (σ1 := σ1) (h1 := h) rfl (st_seq s2 (st_seq s3 (st_seq s4 (st_ret ?_))))), ⟨fun x hx => hnw x (List.mem_of_mem_take hx), fun x hx => hts x (List.mem_of_mem_take hx), fun x hx => hds x (List.mem_of_mem_take hx), fun z => ?_, by show (nw0.take (1 + k5)).length ≤ 8; rw [List.length_take]; omega, by rw [List.length_take]; omega, by rw [List.length_take]; omega⟩, B7.mono (by omega), g1.trans (g2.trans (g3.trans g45))⟩
  · exact ev_tupP (ea_cons (ev_callB (us := [.lst (T nw)]) (ea_cons (ev_var rfl) ea_nil) rfl) (ea_cons (ev_callB (us := [.lst (T (ts.take k6))]) (ea_cons (ev_slH (m := k6) (ev_var rfl) (ev_call (ea_cons (ev_var rfl) (ea_cons ev_c ea_nil)) rfl e6) (by rw [sl_takeL, T_take])) ea_nil) rfl) (ea_cons (ev_callB (us := [.lst (T (ds0.take k7))]) (ea_cons (ev_slH (m := k7) (ev_var rfl) (ev_call (ea_cons (ev_var rfl) (ea_cons ev_c ea_nil)) rfl e7) ((sl_takeR m37).trans (by rw [T_take]))) ea_nil) rfl) ea_nil))) rfl
  · have := congrArg List.length z
    have z2 : (nw0.take (1 + k5)).length = 0 := this
    rw [List.length_take] at z2
    omega
structure Gr (h h' : HP) : Prop where
  nn : h.n ≤ h'.n
  mm : ∀ j, j < h.n → h'.m j = h.m j
/-! ### values -/
structure Sh (e : List Nat) : Prop where
  len : e.length ≤ 200
  ok : okS e
inductive VV : U → Prop
  | non : VV .non
  | bl (b : Bool) : VV (.bl b)
  | int (i : Int) : VV (.int i)
  | str {e : List Nat} (h : Sh e) : VV (.str e)
  | tup {us : List U} (hl : us.length ≤ 100) (h : ∀ u ∈ us, VV u) : VV (.tup us)
  | lst {us : List U} (hl : us.length ≤ 100) (h : ∀ u ∈ us, VV u) : VV (.lst us)
def seqU (u : U) : Option (List U) := match u with
  | .tup us => some us
  | .lst us => some us
  | _ => none
theorem isq {h : HP} {u : U} (v : VV u) : f_is_sequence [u] h = .ok (.bl (seqU u).isSome) h := by cases v <;> rfl
theorem seq_items {u : U} {us : List U} (v : VV u) (e : seqU u = some us) : us.length ≤ 100 ∧ (∀ x ∈ us, VV x) ∧ (u = .tup us ∨ u = .lst us) := by
  cases v with
  | tup hl h => cases e; exact ⟨hl, h, .inl rfl⟩
  | lst hl h => cases e; exact ⟨hl, h, .inr rfl⟩
  | non => cases e
  | bl b => cases e
  | int i => cases e
  | str _ => cases e
theorem j_seq {h : HP} {σ : SS} {m : ME} {u : U} {us : List U} (e : m σ h = .ok u h) (q : u = .tup us ∨ u = .lst us) : jSeq m σ h = .ok (srcL us) us.length h := by
  unfold jSeq
  rw [e]
  rcases q with q | q <;> subst q <;> rfl
theorem g_tup {h : HP} {u : U} {us : List U} (q : u = .tup us ∨ u = .lst us) : (g1 gTuple) h [u] = some (.tup us) := by
  rcases q with q | q <;> subst q <;> rfl
theorem len_seq {h : HP} {u : U} {us : List U} (q : u = .tup us ∨ u = .lst us) : gLenA h [u] = some (.int us.length) := by
  rcases q with q | q <;> subst q <;> rfl
def isW (ws : List (List Nat)) (u : U) : Bool := match u with
  | .str e => decide (e ∈ ws)
  | _ => false
theorem word_ok {h : HP} {u : U} {ws : List (List Nat)} (v : VV u) : f_is_word_of [u, .tup (T ws)] h = .ok (.bl (isW ws u)) h := by
  cases v with
  | @str e q => exact rf_rt rfl (st_ret (ev_and (h1 := h) rfl (ev_bin (ev_var rfl) (ev_var rfl) (inS_of (ws := ws) rfl fun z q => by cases q))))
  | non => rfl
  | bl b => rfl
  | int i => rfl
  | tup _ _ => rfl
  | lst _ _ => rfl
def awB (ws : List (List Nat)) (u : U) : Bool := match seqU u with
  | none => false
  | some us => us.all (isW ws)
theorem words_ok {h : HP} {u : U} {ws : List (List Nat)} (v : VV u) : f_are_words_of [u, .tup (T ws)] h = .ok (.bl (awB ws u)) h := by
  have e1 : eCall 1 f_is_sequence [] (aCons (eVar 0) aNil) [.val u, .val (.tup (T ws)), .no] h = .ok (.bl (seqU u).isSome) h := ev_call (ea_cons (ev_var rfl) ea_nil) rfl (isq v)
  unfold awB
  cases es : seqU u with
  | none =>
    rw [es] at e1
    exact rf_rt rfl (st_ret (ev_andF e1))
  | some us =>
    rw [es] at e1
    obtain ⟨hl, hv, q⟩ := seq_items v es
    have lc := lc_p (h := h) (j := jSeq (eVar 0)) (g := gmName 2) (tt := tTyes) (e := eCall 2 f_is_word_of [] (aCons (eVar 2) (aCons (eVar 1) aNil))) (vs := [2]) (σ := [.val u, .val (.tup (T ws)), .no]) (s := srcL us) (xs := us)
      (σu := fun x => [.val u, .val (.tup (T ws)), .val x]) (p := fun _ => true) (f := fun x => .bl (isW ws x)) (j_seq (ev_var rfl) q) (by omega) (nth_src _ h) (fun x hx => rfl) (fun x hx => rfl)
      (fun x hx _ => ev_call (ea_cons (ev_var rfl) (ea_cons (ev_var rfl) ea_nil)) rfl (word_ok (hv x hx)))
    rw [List.filter_eq_self.mpr (fun _ _ => rfl)] at lc
    exact rf_rt rfl (st_ret (ev_and e1 (ev_callB (ea_cons lc ea_nil) gAll_of)))
def tsB (e : List Nat) : Bool := decide (e ∈ TS) || (decide (e.take 4 = NOT) && decide (e.drop 4 ∈ TS))
def isTst (u : U) : Bool := match u with
  | .str e => tsB e
  | _ => false
theorem ev_orB {σ : SS} {h : HP} {a b : ME} {x y : Bool} (e1 : a σ h = .ok (.bl x) h) (e2 : b σ h = .ok (.bl y) h) : eOr a b σ h = .ok (.bl (x || y)) h := by
  unfold eOr
  rw [e1]
  cases x with
  | true => rfl
  | false => exact e2
theorem test_ok {h : HP} {u : U} (v : VV u) : f_is_test [u] h = .ok (.bl (isTst u)) h := by
  cases v with
  | @str e q =>
    have fX : fits e.length = true := Nat.ble_eq_true_of_le (by have := q.len; omega)
    exact rf_rt rfl (st_seq (σ1 := [.val (.str e)]) (h1 := h) (st_ifF (h1 := h) (tt_not (k := true) rfl) rfl) (st_ret (ev_orB (ev_bin (ev_var rfl) ev_c (inS_of (ws := TS) rfl fun z q => by cases q)) (ev_andB (ev_bin (ev_slH (m := 4) (ev_var rfl) ev_c (sl_takeS fX)) ev_c (eq_ss _ _)) fun _ => ev_bin (ev_slL (m := 4) (ev_var rfl) ev_c (sl_dropS fX)) ev_c (inS_of (ws := TS) rfl fun z q => by cases q)))))
  | non => rfl
  | bl b => rfl
  | int i => rfl
  | tup _ _ => rfl
  | lst _ _ => rfl
def NEWSW : List Nat := [110, 101, 119, 115]
def TESTSW : List Nat := [116, 101, 115, 116, 115]
def DEEDSW : List Nat := [100, 101, 101, 100, 115]
def isN (u : U) : Bool := match seqU u with
  | some (_ :: _) => true
  | _ => false
def atB (u : U) : Bool := match seqU u with
  | none => false
  | some us => us.all isTst
/-- the name of the first part that is wrong -/
def wpU (a b c : U) : U := if (awB NW a && isN a) = true then (if atB b = true then (if awB DE c = true then .non else .str DEEDSW) else .str TESTSW) else .str NEWSW
theorem tt_orP {a b : MT} {σ : SS} {h h1 : HP} {k : Bool} {r : RT} (e1 : a σ h = .ok k h1) (e2 : (if k = true then .ok true h1 else b σ h1) = r) : tOr' a b σ h = r := by
  unfold tOr'
  rw [e1]
  exact e2
theorem wrong_ok {h : HP} {a b c : U} (va : VV a) (vb : VV b) (vc : VV c) : f_wrong_part [a, b, c] h = .ok (wpU a b c) h := by
  let σ : SS := [.val a, .val b, .val c, .no]
  have e1 : tNot' (tVal (eCall 2 f_are_words_of [] (aCons (eVar 0) (aCons (eC c_NEWS) (aNil))))) σ h = .ok (!awB NW a) h := tt_not (ev_call (ea_cons (ev_var rfl) (ea_cons ev_c ea_nil)) rfl (words_ok va))
  have e2 : awB NW a = true → tBl (eBin gEq (eCallB (gLenA) (aCons (eVar 0) (aNil))) (eC (.int 0))) σ h = .ok (!isN a) h := fun ha => by
    unfold awB at ha
    cases es : seqU a with
    | none => rw [es] at ha; cases ha
    | some us =>
      obtain ⟨_, _, q⟩ := seq_items va es
      have z := tt_bl (ev_bin (h := h) (σ := σ) (ma := eCallB (gLenA) (aCons (eVar 0) (aNil))) (mb := eC (.int 0)) (g := gEq) (ev_callB (ea_cons (ev_var rfl) ea_nil) (len_seq q)) ev_c (eq_ii _ _))
      rw [z]
      unfold isN
      rw [es]
      cases us with
      | nil => rfl
      | cons x us => rw [decide_eq_false (by rw [List.length_cons]; omega)]; rfl
  have t1 : tOr' (tNot' (tVal (eCall 2 f_are_words_of [] (aCons (eVar 0) (aCons (eC c_NEWS) (aNil)))))) (tBl (eBin gEq (eCallB (gLenA) (aCons (eVar 0) (aNil))) (eC (.int 0)))) σ h = .ok (!(awB NW a && isN a)) h := by
    refine tt_orP e1 ?_
    cases ha : awB NW a with
    | false => rfl
    | true => exact e2 ha
  have s1 : tNot' (tVal (eCall 1 f_is_sequence [] (aCons (eVar 1) (aNil)))) σ h = .ok (!(seqU b).isSome) h := tt_not (ev_call (ea_cons (ev_var rfl) ea_nil) rfl (isq vb))
  have t2 : tOr' (tNot' (tVal (eCall 1 f_is_sequence [] (aCons (eVar 1) (aNil))))) (tNot' (tVal (eCallB (g1 gAll) (aCons (eFz (cLc (jSeq (eVar 1)) (gmName 3) (tTyes) (bElt (eCall 1 f_is_test [] (aCons (eVar 3) (aNil)))) [3])) (aNil))))) σ h = .ok (!atB b) h := by
    refine tt_orP s1 ?_
    unfold atB
    cases es : seqU b with
    | none => rfl
    | some us =>
      obtain ⟨hl, hv, q⟩ := seq_items vb es
      have lc := lc_p (h := h) (j := jSeq (eVar 1)) (g := gmName 3) (tt := tTyes) (e := eCall 1 f_is_test [] (aCons (eVar 3) aNil)) (vs := [3]) (σ := σ) (s := srcL us) (xs := us)
        (σu := fun x => [.val a, .val b, .val c, .val x]) (p := fun _ => true) (f := fun x => .bl (isTst x)) (j_seq (ev_var rfl) q) (by omega) (nth_src _ h) (fun x hx => rfl) (fun x hx => rfl)
        (fun x hx _ => ev_call (ea_cons (ev_var rfl) ea_nil) rfl (test_ok (hv x hx)))
      rw [List.filter_eq_self.mpr (fun _ _ => rfl)] at lc
      exact tt_not (ev_callB (ea_cons lc ea_nil) gAll_of)
  unfold wpU
  cases ha : (awB NW a && isN a) with
  | false =>
    rw [ha] at t1
    exact rf_rt rfl (st_seqR (st_ifT t1 (st_ret ev_c)))
  | true =>
    rw [ha] at t1
    rw [if_pos rfl]
    cases hb : atB b with
    | false =>
      rw [hb] at t2
      exact rf_rt rfl (st_seq (st_ifF t1 rfl) (st_seqR (st_ifT t2 (st_ret ev_c))))
    | true =>
      rw [hb] at t2
      rw [if_pos rfl]
      refine rf_rt rfl (st_seq (st_ifF t1 rfl) (st_seq (st_ifF t2 rfl) (st_ret (ev_if (k := awB DE c) (tt_val (ev_call (ea_cons (ev_var rfl) (ea_cons ev_c ea_nil)) rfl (words_ok vc))) ?_))))
      split <;> exact ev_c
/-! ### Row(..) -/
def txtR (nw ts ds : List (List Nat)) : List Nat := joinL [32] ((([111, 110] :: nw) ++ (if ts = [] then [] else [[105, 102], joinL [32, 97, 110, 100, 32] ts])) ++ (if ds = [] then [] else [[100, 111], joinL [32, 116, 104, 101, 110, 32] ds]))
def RWU (nw ts ds : List (List Nat)) : U := .obj 4 [243135214, 31115244276, 31081460452, 245248756] [.tup (T nw), .tup (T ts), .tup (T ds), .str (txtR nw ts ds)]
theorem ev_extG {σ : SS} {h : HP} {mo m : ME} {n : Nat} {xs ws : List U} (e1 : mo σ h = .ok (.ref n) h) (e3 : h.m n = some (.lst xs)) (e2 : m σ h = .ok (.lst ws) h) (hf : fits (xs.length + ws.length) = true) : eExtH mo m σ h = .ok .non (h.set n (.lst (xs ++ ws))) := by
  unfold eExtH
  rw [e1, bind_okP]
  dsimp only
  rw [e3]
  dsimp only
  rw [e2, bind_okP, e3]
  show (match asLstT h (.lst ws) with
    | some ws => (match fits (xs.length + ws.length) with
      | true => R.ok .non (h.set n (.lst (xs ++ ws)))
      | false => R.bad)
    | none => R.bad) = _
  show (match fits (xs.length + ws.length) with
      | true => R.ok .non (h.set n (.lst (xs ++ ws)))
      | false => R.bad) = _
  rw [hf]
/-- short rows of short texts -/
structure Smal (l : List (List Nat)) : Prop where
  n : l.length ≤ 200
  e : ∀ x ∈ l, x.length ≤ 200
theorem smal_sum {l : List (List Nat)} (s : Smal l) : sumLen l ≤ 40000 := by
  have := sumLen_le l s.e
  have := s.n
  omega
theorem row_mk {h : HP} {a b c : U} {nw ts ds : List (List Nat)} (va : VV a) (vb : VV b) (vc : VV c) (ea : seqU a = some (T nw)) (eb : seqU b = some (T ts)) (ec : seqU c = some (T ds)) (sn : Smal nw) (st : Smal ts) (sd : Smal ds) (w : wpU a b c = .non) :
    ∃ h', eMake 3 (RI.obj 4) i_Row [] (fun _ _ => RA.ok [a, b, c] h) [] h = .ok (RWU nw ts ds) h' ∧ Gr h h' := by
  obtain ⟨_, _, qa⟩ := seq_items va ea
  obtain ⟨_, _, qb⟩ := seq_items vb eb
  obtain ⟨_, _, qc⟩ := seq_items vc ec
  let O1 : Sl := .own (.ins 4 [243135214, 31115244276, 31081460452] [.tup (T nw), .tup (T ts), .tup (T ds)])
  let σ4 : SS := [O1, .val a, .val b, .val c, .val .non, .no]
  have s0 : sSet 4 (eCall 3 f_wrong_part [] (aCons (eVar 1) (aCons (eVar 2) (aCons (eVar 3) (aNil))))) [.own (.ins 4 [] []), .val a, .val b, .val c, .no, .no] h = .nx [.own (.ins 4 [] []), .val a, .val b, .val c, .val .non, .no] h :=
    st_set (ev_call (ea_cons (ev_var rfl) (ea_cons (ev_var rfl) (ea_cons (ev_var rfl) ea_nil))) rfl ((wrong_ok va vb vc).trans (by rw [w])))
  have f1 : sOwnFld 0 243135214 [4] (eCallB (g1 gTuple) (aCons (eVar 1) (aNil))) [.own (.ins 4 [] []), .val a, .val b, .val c, .val .non, .no] h = .nx [.own (.ins 4 [243135214] [.tup (T nw)]), .val a, .val b, .val c, .val .non, .no] h := by
    unfold sOwnFld
    rw [ev_callB (us := [a]) (r := .tup (T nw)) (ea_cons (ev_var rfl) ea_nil) (g_tup qa)]
    rfl
  have f2 : sOwnFld 0 31115244276 [4] (eCallB (g1 gTuple) (aCons (eVar 2) (aNil))) [.own (.ins 4 [243135214] [.tup (T nw)]), .val a, .val b, .val c, .val .non, .no] h = .nx [.own (.ins 4 [243135214, 31115244276] [.tup (T nw), .tup (T ts)]), .val a, .val b, .val c, .val .non, .no] h := by
    unfold sOwnFld
    rw [ev_callB (us := [b]) (r := .tup (T ts)) (ea_cons (ev_var rfl) ea_nil) (g_tup qb)]
    rfl
  have f3 : sOwnFld 0 31081460452 [4] (eCallB (g1 gTuple) (aCons (eVar 3) (aNil))) [.own (.ins 4 [243135214, 31115244276] [.tup (T nw), .tup (T ts)]), .val a, .val b, .val c, .val .non, .no] h = .nx σ4 h := by
    unfold sOwnFld
    rw [ev_callB (us := [c]) (r := .tup (T ds)) (ea_cons (ev_var rfl) ea_nil) (g_tup qc)]
    rfl
  let W1 : List (List Nat) := [111, 110] :: nw
  let h1 := h.new (.lst (T W1))
  let σ5 : SS := [O1, .val a, .val b, .val c, .val .non, .val (.ref h.n)]
  have s5 : sSet 5 (eHp (cLst (aCons (eC (.str [111, 110])) (aStarA (eOwnFld 0 243135214 [4]) (aNil))))) σ4 h = .nx σ5 h1 := by
    refine st_set (ev_hp (us := T W1) (ea_lst (ea_cons ev_c (h1 := h) (us := T nw) ?_) ?_))
    · unfold aStarA
      rw [show eOwnFld 0 243135214 [4] σ4 h = .ok (.tup (T nw)) h from rfl]
      show RA.ok (T nw ++ []) h = _
      rw [List.append_nil]
    · refine Nat.ble_eq_true_of_le ?_
      show (T nw).length + 1 ≤ _
      rw [List.length_map]; have := sn.n; omega
  have m1 : h1.m h.n = some (.lst (T W1)) := hnew_m
  let Y2 : List (List Nat) := if ts = [] then [] else [[105, 102], joinL [32, 97, 110, 100, 32] ts]
  have y2l : Y2.length ≤ 2 := by show (if ts = [] then [] else [_, _]).length ≤ 2; split <;> simp
  let h2 := h1.set h.n (.lst (T (W1 ++ Y2)))
  have jts := join_len [32, 97, 110, 100, 32] ts
  have sts := smal_sum st
  have jds := join_len [32, 116, 104, 101, 110, 32] ds
  have sds := smal_sum sd
  have hst := st.n
  have hsd := sd.n
  have hsn := sn.n
  have c1 : ([32, 97, 110, 100, 32] : List Nat).length = 5 := rfl
  have c2 : ([32, 116, 104, 101, 110, 32] : List Nat).length = 6 := rfl
  rw [c1] at jts
  rw [c2] at jds
  have s6 : sExpr (eExtH (eVar 5) (eIf (tBl (eBin gGt (eCallB (gLenA) (aCons (eOwnFld 0 31115244276 [4]) (aNil))) (eC (.int 0)))) (eLst (aCons (eC (.str [105, 102])) (aCons (eMeth gJoin (eC (.str [32, 97, 110, 100, 32])) (aCons (eOwnFld 0 31115244276 [4]) (aNil))) (aNil)))) (eLst (aNil)))) σ5 h1 = .nx σ5 h2 := by
    have lt : gLenA h1 [.tup (T ts)] = some (.int ((T ts).length : Int)) := rfl
    refine st_exprP ((ev_extG (ws := T Y2) (ev_var rfl) m1 (ev_if (k := decide ((0 : Int) < (T ts).length)) (h1 := h1) (tt_bl (ev_bin (ev_callB (us := [.tup (T ts)]) (ea_cons rfl ea_nil) lt) ev_c (by rw [gt_ok]))) ?_) ?_).trans (by rw [T_app]))
    · by_cases hz : ts = []
      · rw [decide_eq_false (by rw [hz]; decide), if_neg Bool.false_ne_true]
        rw [show Y2 = [] from if_pos hz]
        exact ev_lst ea_nil rfl
      · have hp : 0 < ts.length := List.length_pos_iff.mpr hz
        rw [decide_eq_true (by rw [List.length_map]; omega), if_pos rfl]
        rw [show Y2 = [[105, 102], joinL [32, 97, 110, 100, 32] ts] from if_neg hz]
        exact ev_lst (ea_cons ev_c (ea_cons (ev_meth ev_c (us := [.tup (T ts)]) (ea_cons rfl ea_nil) (gJoin_of (es := ts) rfl (by rw [c1]; omega))) ea_nil)) rfl
    · refine Nat.ble_eq_true_of_le ?_
      rw [List.length_map, List.length_map]
      show (nw.length + 1) + Y2.length ≤ _
      omega
  have m2 : h2.m h.n = some (.lst (T (W1 ++ Y2))) := hset_m
  let Y3 : List (List Nat) := if ds = [] then [] else [[100, 111], joinL [32, 116, 104, 101, 110, 32] ds]
  have y3l : Y3.length ≤ 2 := by show (if ds = [] then [] else [_, _]).length ≤ 2; split <;> simp
  let h3 := h2.set h.n (.lst (T ((W1 ++ Y2) ++ Y3)))
  have s7 : sExpr (eExtH (eVar 5) (eIf (tBl (eBin gGt (eCallB (gLenA) (aCons (eOwnFld 0 31081460452 [4]) (aNil))) (eC (.int 0)))) (eLst (aCons (eC (.str [100, 111])) (aCons (eMeth gJoin (eC (.str [32, 116, 104, 101, 110, 32])) (aCons (eOwnFld 0 31081460452 [4]) (aNil))) (aNil)))) (eLst (aNil)))) σ5 h2 = .nx σ5 h3 := by
    have lt : gLenA h2 [.tup (T ds)] = some (.int ((T ds).length : Int)) := rfl
    refine st_exprP ((ev_extG (ws := T Y3) (ev_var rfl) m2 (ev_if (k := decide ((0 : Int) < (T ds).length)) (h1 := h2) (tt_bl (ev_bin (ev_callB (us := [.tup (T ds)]) (ea_cons rfl ea_nil) lt) ev_c (by rw [gt_ok]))) ?_) ?_).trans (by rw [T_app]))
    · by_cases hz : ds = []
      · rw [decide_eq_false (by rw [hz]; decide), if_neg Bool.false_ne_true]
        rw [show Y3 = [] from if_pos hz]
        exact ev_lst ea_nil rfl
      · have hp : 0 < ds.length := List.length_pos_iff.mpr hz
        rw [decide_eq_true (by rw [List.length_map]; omega), if_pos rfl]
        rw [show Y3 = [[100, 111], joinL [32, 116, 104, 101, 110, 32] ds] from if_neg hz]
        exact ev_lst (ea_cons ev_c (ea_cons (ev_meth ev_c (us := [.tup (T ds)]) (ea_cons rfl ea_nil) (gJoin_of (es := ds) rfl (by rw [c2]; omega))) ea_nil)) rfl
    · refine Nat.ble_eq_true_of_le ?_
      rw [List.length_map, List.length_map, List.length_append]
      show ((nw.length + 1) + Y2.length) + Y3.length ≤ _
      omega
  have m3 : h3.m h.n = some (.lst (T ((W1 ++ Y2) ++ Y3))) := hset_m
  have sl : sumLen ((W1 ++ Y2) ++ Y3) + ((W1 ++ Y2) ++ Y3).length * 1 ≤ 16777216 := by
    have key : ∀ l : List (List Nat), sumLen l = sumW List.length l := by
      intro l
      induction l with
      | nil => rfl
      | cons e l ih => show e.length + sumLen l = e.length + sumW List.length l; rw [ih]
    rw [key, sumW_app, sumW_app, List.length_append, List.length_append]
    have a1 : sumW List.length W1 ≤ 2 + 40000 := by
      show ([111, 110] : List Nat).length + sumW List.length nw ≤ _
      rw [← key]
      have := smal_sum sn
      show 2 + sumLen nw ≤ _
      omega
    have a2 : sumW List.length Y2 ≤ 2 + 50000 := by
      show sumW List.length (if ts = [] then [] else [[105, 102], joinL [32, 97, 110, 100, 32] ts]) ≤ _
      split
      · exact Nat.zero_le _
      · show 2 + ((joinL [32, 97, 110, 100, 32] ts).length + 0) ≤ _; omega
    have a3 : sumW List.length Y3 ≤ 2 + 50000 := by
      show sumW List.length (if ds = [] then [] else [[100, 111], joinL [32, 116, 104, 101, 110, 32] ds]) ≤ _
      split
      · exact Nat.zero_le _
      · show 2 + ((joinL [32, 116, 104, 101, 110, 32] ds).length + 0) ≤ _; omega
    have b1 : W1.length = nw.length + 1 := rfl
    omega
  have s8 : sOwnFld 0 245248756 [4] (eMeth gJoin (eC (.str [32])) (aCons (eVar 5) (aNil))) σ5 h3 = .nx [.own (.ins 4 [243135214, 31115244276, 31081460452, 245248756] [.tup (T nw), .tup (T ts), .tup (T ds), .str (txtR nw ts ds)]), .val a, .val b, .val c, .val .non, .val (.ref h.n)] h3 := by
    have e : eMeth gJoin (eC (.str [32])) (aCons (eVar 5) (aNil)) σ5 h3 = .ok (.str (txtR nw ts ds)) h3 := ev_meth ev_c (us := [.ref h.n]) (ea_cons (ev_var rfl) ea_nil) (gJoin_of (es := (W1 ++ Y2) ++ Y3) (by
      unfold asSeq asLst lstAt
      dsimp only
      rw [m3]
      rfl) sl)
    unfold sOwnFld
    rw [e]
    rfl
  have eb : b_Row___init__ [.own (.ins 4 [] []), .val a, .val b, .val c, .no, .no] h = .nx [.own (.ins 4 [243135214, 31115244276, 31081460452, 245248756] [.tup (T nw), .tup (T ts), .tup (T ds), .str (txtR nw ts ds)]), .val a, .val b, .val c, .val .non, .val (.ref h.n)] h3 :=
    st_seq s0 (st_seq (h1 := h) (st_ifF (h1 := h) (tt_bl (ev_bin (ev_var rfl) ev_c rfl)) rfl) (st_seq f1 (st_seq f2 (st_seq f3 (st_seq s5 (st_seq s6 (st_seq s7 s8)))))))
  refine ⟨h3, ev_mk (us := [a, b, c]) (dus := []) rfl rfl ?_, ⟨Nat.le_succ _, fun j hj => ?_⟩⟩
  · show (endI 4 (b_Row___init__ [.own (.ins 4 [] []), .val a, .val b, .val c, .no, .no] h)).obj 4 = _
    rw [eb]
    rfl
  · show (h2.set h.n _).m j = _
    rw [hset_ne (by omega)]
    show (h1.set h.n _).m j = _
    rw [hset_ne (by omega)]
    exact hnew_ne (by omega)
end S7
end

noncomputable section
namespace S7
open PySem PySem.Spec PyProof.Rows L2 M7
theorem dy : f__law_any = f_dany := rfl
theorem vd_vv {k : Nat} {u : U} (v : VD k u) : VV u := by
  induction v with
  | non => exact .non
  | bl b => exact .bl b
  | int i => exact .int i
  | str h => exact .str ⟨h.len, h.ok⟩
  | tup n _ ih => exact .tup n ih
  | lst n _ ih => exact .lst n ih
/-! ### this law's own look -/
theorem filt_all (p : U → Bool) : ∀ us : List U, (us.filter fun u => !p u).isEmpty = us.all p
  | [] => rfl
  | u :: us => by
    rw [List.filter_cons, List.all_cons, ← filt_all p us]
    cases p u <;> rfl
theorem are_ok {h : HP} {k : Nat} {u : U} {ws : List (List Nat)} (hk : k ≤ 20) (v : VD k u) : f__law_are [u, .lst (T ws)] h = .ok (.bl (awB ws u)) h := by
  have e1 : tNot' (tVal (eIsi l_list_tuple_T (eVar 0))) [.val u, .val (.lst (T ws)), .no] h = .ok (!(seqU u).isSome) h := by cases v <;> rfl
  unfold awB
  cases es : seqU u with
  | none =>
    rw [es] at e1
    exact rf_rt rfl (st_seqR (st_ifT e1 (st_ret ev_c)))
  | some us =>
    rw [es] at e1
    obtain ⟨k', hk', hl, hv, q⟩ : ∃ k', k' ≤ 20 ∧ us.length ≤ 100 ∧ (∀ x ∈ us, VD k' x) ∧ (u = .tup us ∨ u = .lst us) := by
      cases v with
      | tup hl h => cases es; exact ⟨_, by omega, hl, h, .inl rfl⟩
      | lst hl h => cases es; exact ⟨_, by omega, hl, h, .inr rfl⟩
      | non => cases es
      | bl b => cases es
      | int i => cases es
      | str _ => cases es
    have lc := lc_p (h := h) (j := jSeq (eVar 0)) (g := gmName 2) (tt := tOr' (tNot' (tVal (eIsi l_str (eVar 2)))) (tBl (eBin gNotInAll (eVar 2) (eVar 1)))) (e := eVar 2) (vs := [2]) (σ := [.val u, .val (.lst (T ws)), .no]) (s := srcL us) (xs := us)
      (σu := fun x => [.val u, .val (.lst (T ws)), .val x]) (p := fun x => !isW ws x) (f := fun x => x) (j_seq (ev_var rfl) q) (by omega) (nth_src _ h) (fun x hx => rfl) (fun x hx => by
        have vx := hv x hx
        cases vx with
        | @str _ e q =>
          refine tt_orP (k := false) rfl ?_
          exact tt_bl (ev_bin (ev_var rfl) (ev_var rfl) (notInS_of (ws := ws) rfl fun z q => by cases q))
        | non => rfl
        | bl b => rfl
        | int i => rfl
        | tup _ _ => rfl
        | lst _ _ => rfl)
      (fun x hx _ => ev_var rfl)
    rw [List.map_id'] at lc
    refine rf_rt rfl (st_seq (st_ifF e1 rfl) (st_ret (ev_bin lc (y := .lst []) (h1 := h) rfl ((eq_nilV (k := k') hk' (Nat.le_trans (List.length_filter_le _ _) hl) fun x hx => hv x (List.mem_filter.mp hx).1).trans ?_))))
    rw [filt_all]
theorem tsB_eq (e : List Nat) : tsB e = decide (e ∈ TS8) := by
  rw [Bool.eq_iff_iff]
  unfold tsB
  rw [Bool.or_eq_true, Bool.and_eq_true, decide_eq_true_eq, decide_eq_true_eq, decide_eq_true_eq, decide_eq_true_eq]
  show _ ↔ e ∈ TS ++ TS.map fun t => NOT ++ t
  rw [List.mem_append, List.mem_map]
  constructor
  · rintro (h | ⟨h1, h2⟩)
    · exact .inl h
    · exact .inr ⟨_, h2, by rw [← h1, List.take_append_drop]⟩
  · rintro (h | ⟨t, ht, rfl⟩)
    · exact .inl h
    · exact .inr ⟨rfl, ht⟩
theorem isT_eq : ∀ u : U, isTst u = isW TS8 u
  | .str e => tsB_eq e
  | .non => rfl
  | .bl _ => rfl
  | .int _ => rfl
  | .tup _ => rfl
  | .lst _ => rfl
  | .lsx _ => rfl
  | .obj .. => rfl
  | .ref _ => rfl
  | .cls _ => rfl
theorem at_eq (u : U) : awB TS8 u = atB u := by
  unfold awB atB
  cases seqU u with
  | none => rfl
  | some us =>
    dsimp only
    congr 1
    funext x
    exact (isT_eq x).symm
def MADE : U := .str [109, 97, 100, 101]
def refU (a b c : U) : U := match wpU a b c with
  | .non => MADE
  | u => u
theorem due_ok {h : HP} {k : Nat} {a b c : U} (hk : k ≤ 20) (va : VD k a) (vb : VD k b) (vc : VD k c) : f__law_due [a, b, c] h = .ok (refU a b c) h := by
  let σ : SS := [.val a, .val b, .val c, .val (.lst (T TS)), .val (.lst (T NW)), .no]
  have s1 : sSet 3 (eLst (aCons (eC (.str [116, 104, 101, 114, 101])) (aCons (eC (.str [104, 111, 108, 100, 115])) (aCons (eC (.str [115, 97, 109, 101])) (aCons (eC (.str [103, 111, 111, 100])) (aNil)))))) [.val a, .val b, .val c, .no, .no, .no] h = .nx [.val a, .val b, .val c, .val (.lst (T TS)), .no, .no] h := rfl
  have e1 : tNot' (tVal (eCall 2 f__law_are [] (aCons (eVar 0) (aCons (eVar 4) (aNil))))) σ h = .ok (!awB NW a) h := tt_not (ev_call (ea_cons (ev_var rfl) (ea_cons (ev_var rfl) ea_nil)) rfl (are_ok hk va))
  have e2 : awB NW a = true → tBl (eBin gEq (eCallB (gLenA) (aCons (eVar 0) (aNil))) (eC (.int 0))) σ h = .ok (!isN a) h := fun ha => by
    unfold awB at ha
    cases es : seqU a with
    | none => rw [es] at ha; cases ha
    | some us =>
      obtain ⟨_, _, q⟩ := seq_items (vd_vv va) es
      have z := tt_bl (ev_bin (h := h) (σ := σ) (ma := eCallB (gLenA) (aCons (eVar 0) (aNil))) (mb := eC (.int 0)) (g := gEq) (ev_callB (ea_cons (ev_var rfl) ea_nil) (len_seq q)) ev_c (eq_ii _ _))
      rw [z]
      unfold isN
      rw [es]
      cases us with
      | nil => rfl
      | cons x us => rw [decide_eq_false (by rw [List.length_cons]; omega)]; rfl
  have t1 : tOr' (tNot' (tVal (eCall 2 f__law_are [] (aCons (eVar 0) (aCons (eVar 4) (aNil)))))) (tBl (eBin gEq (eCallB (gLenA) (aCons (eVar 0) (aNil))) (eC (.int 0)))) σ h = .ok (!(awB NW a && isN a)) h := by
    refine tt_orP e1 ?_
    cases ha : awB NW a with
    | false => rfl
    | true => exact e2 ha
  have l8 : eBin gAddAny (eVar 3) (eFz (cLc (jSeq (eVar 3)) (gmName 5) (tTyes) (bElt (eBin gAddAny (eC (.str [110, 111, 116, 32])) (eVar 5))) [5])) σ h = .ok (.lst (T TS8)) h := by kernel_rfl
  have t2 : tNot' (tVal (eCall 2 f__law_are [] (aCons (eVar 1) (aCons (eBin gAddAny (eVar 3) (eFz (cLc (jSeq (eVar 3)) (gmName 5) (tTyes) (bElt (eBin gAddAny (eC (.str [110, 111, 116, 32])) (eVar 5))) [5]))) (aNil))))) σ h = .ok (!atB b) h := by
    rw [← at_eq]
    exact tt_not (ev_call (ea_cons (ev_var rfl) (ea_cons l8 ea_nil)) rfl (are_ok hk vb))
  unfold refU wpU
  cases ha : (awB NW a && isN a) with
  | false =>
    rw [ha] at t1
    exact rf_rt rfl (st_seq s1 (st_seq (σ1 := σ) (h1 := h) rfl (st_seqR (st_ifT t1 (st_ret ev_c)))))
  | true =>
    rw [ha] at t1
    rw [if_pos rfl]
    cases hb : atB b with
    | false =>
      rw [hb] at t2
      exact rf_rt rfl (st_seq s1 (st_seq (σ1 := σ) (h1 := h) rfl (st_seq (st_ifF t1 rfl) (st_seqR (st_ifT t2 (st_ret ev_c))))))
    | true =>
      rw [hb] at t2
      rw [if_pos rfl]
      refine rf_rt rfl (st_seq s1 (st_seq (σ1 := σ) (h1 := h) rfl (st_seq (st_ifF t1 rfl) (st_seq (st_ifF t2 rfl) (st_ret (ev_if (k := awB DE c) (tt_val (ev_call (ea_cons (ev_var rfl) (ea_cons (ev_lst (us := T DE) rfl rfl) ea_nil)) rfl (are_ok hk vc))) ?_))))))
      cases awB DE c <;> rfl
/-! ### how a row is refused -/
theorem aw_words {S : List (List Nat)} {u : U} (v : VV u) (h : awB S u = true) : ∃ ws, seqU u = some (T ws) ∧ Smal ws := by
  unfold awB at h
  cases es : seqU u with
  | none => rw [es] at h; cases h
  | some us =>
    rw [es] at h
    obtain ⟨hl, hv, _⟩ := seq_items v es
    obtain ⟨ws, rfl, hw⟩ := as_in S us fun w hw => by
      have := List.all_eq_true.mp h w hw
      unfold isW at this
      cases w with
      | str e => exact ⟨e, of_decide_eq_true this, rfl⟩
      | _ => cases this
    refine ⟨ws, rfl, by rw [List.length_map] at hl; omega, fun x hx => ?_⟩
    have := hv (.str x) (List.mem_map.mpr ⟨x, hx, rfl⟩)
    cases this with
    | str q => exact q.len
theorem wp_cases (a b c : U) : wpU a b c = .non ∨ ∃ s, wpU a b c = .str s := by
  unfold wpU
  split
  · split
    · split
      · exact .inl rfl
      · exact .inr ⟨_, rfl⟩
    · exact .inr ⟨_, rfl⟩
  · exact .inr ⟨_, rfl⟩
theorem ref_ok {h : HP} {a b c : U} (va : VV a) (vb : VV b) (vc : VV c) : ∃ h', f__law_refused [a, b, c] h = .ok (refU a b c) h' ∧ Gr h h' := by
  have mk : ∀ r, i_Row [a, b, c] h = r → eMake 3 (RI.obj 4) i_Row [] (aCons (eVar 0) (aCons (eVar 1) (aCons (eVar 2) aNil))) [.val a, .val b, .val c, .val MADE, .no] h = r.obj 4 := fun r hr => ev_mk (us := [a, b, c]) (dus := []) (ea_cons (ev_var rfl) (ea_cons (ev_var rfl) (ea_cons (ev_var rfl) ea_nil))) rfl (by rw [← hr]; rfl)
  rcases wp_cases a b c with w | ⟨s, w⟩
  · have hh : (awB NW a && isN a) = true ∧ atB b = true ∧ awB DE c = true := by
      unfold wpU at w
      split at w
      · rename_i h1
        split at w
        · rename_i h2
          split at w
          · rename_i h3
            exact ⟨h1, h2, h3⟩
          · cases w
        · cases w
      · cases w
    obtain ⟨nw, e1, sn⟩ := aw_words va (Bool.and_eq_true_iff.mp hh.1).1
    obtain ⟨ts, e2, st⟩ := aw_words (S := TS8) vb (by rw [at_eq]; exact hh.2.1)
    obtain ⟨ds, e3, sd⟩ := aw_words vc hh.2.2
    obtain ⟨h', e, g⟩ := row_mk (h := h) va vb vc e1 e2 e3 sn st sd w
    have e' : (i_Row [a, b, c] h).obj 4 = .ok (RWU nw ts ds) h' := e
    refine ⟨h', ?_, g⟩
    have e4 : sTryV 1 211597303 3 (sExpr (eMake 3 (RI.obj 4) i_Row [] (aCons (eVar 0) (aCons (eVar 1) (aCons (eVar 2) aNil))))) [.val a, .val b, .val c, .val MADE, .no] h = .nx [.val a, .val b, .val c, .val MADE, .no] h' := by
      unfold sTryV
      have : sExpr (eMake 3 (RI.obj 4) i_Row [] (aCons (eVar 0) (aCons (eVar 1) (aCons (eVar 2) aNil)))) [.val a, .val b, .val c, .val MADE, .no] h = .nx [.val a, .val b, .val c, .val MADE, .no] h' := by
        unfold sExpr
        rw [(mk _ rfl).trans e']
        rfl
      rw [this]
    unfold refU
    rw [w]
    exact rf_rt rfl (st_seq (σ1 := [.val a, .val b, .val c, .val MADE, .no]) (h1 := h) rfl (st_seq e4 (st_ret (ev_var rfl))))
  · have eb : b_Row___init__ [.own (.ins 4 [] []), .val a, .val b, .val c, .no, .no] h = .exc ⟨1, 211597303, [.str s]⟩ h := by
      refine st_seq (σ1 := [.own (.ins 4 [] []), .val a, .val b, .val c, .val (.str s), .no]) (h1 := h) (st_set (ev_call (ea_cons (ev_var rfl) (ea_cons (ev_var rfl) (ea_cons (ev_var rfl) ea_nil))) rfl ((wrong_ok va vb vc).trans (by rw [w])))) ?_
      unfold sSeq
      rw [show sIf (tBl (eBin gIsNot (eVar 4) (eC .non))) (sRaise 1 211597303 (eVar 4)) (sSkip) [.own (.ins 4 [] []), .val a, .val b, .val c, .val (.str s), .no] h = RS.exc ⟨1, 211597303, [.str s]⟩ h from st_ifT (h1 := h) (tt_bl (ev_bin (ev_var rfl) ev_c rfl)) rfl]
      rfl
    have ei : i_Row [a, b, c] h = .exc ⟨1, 211597303, [.str s]⟩ h := by
      show endI 4 (b_Row___init__ [.own (.ins 4 [] []), .val a, .val b, .val c, .no, .no] h) = _
      rw [eb]
      rfl
    refine ⟨h, ?_, ⟨Nat.le_refl _, fun _ _ => rfl⟩⟩
    have e4 : sTryV 1 211597303 3 (sExpr (eMake 3 (RI.obj 4) i_Row [] (aCons (eVar 0) (aCons (eVar 1) (aCons (eVar 2) aNil))))) [.val a, .val b, .val c, .val MADE, .no] h = .nx [.no, .no, .no, .val (.str s), .no] h := by
      unfold sTryV
      have : sExpr (eMake 3 (RI.obj 4) i_Row [] (aCons (eVar 0) (aCons (eVar 1) (aCons (eVar 2) aNil)))) [.val a, .val b, .val c, .val MADE, .no] h = .exc ⟨1, 211597303, [.str s]⟩ h := by
        unfold sExpr
        rw [mk _ ei]
        rfl
      rw [this]
      rfl
    unfold refU
    rw [w]
    exact rf_rt rfl (st_seq (σ1 := [.val a, .val b, .val c, .val MADE, .no]) (h1 := h) rfl (st_seq e4 (st_ret (ev_var rfl))))
end S7
end

noncomputable section
namespace S7
open PySem PySem.Spec PyProof.Rows L2 M7
def U1 : MS := sSet 5 (eHp (cLc (jSeq (eCall 1 f__law_any_row [] (aCons (eVar 2) (aNil)))) (gmName 10) (tTyes) (bElt (eFz (cList (eVar 10)))) [10]))
def U2 : MS := sIf (tBl (eBin gNe (eCall 3 f__law_refused [] (aCons (eIxA (eVar 5) (eC (.int 0))) (aCons (eIxA (eVar 5) (eC (.int 1))) (aCons (eIxA (eVar 5) (eC (.int 2))) (aNil))))) (eC (.str [109, 97, 100, 101])))) (sRet (eC (.bl false))) (sSkip)
def U3 : MS := sFor (jRng1 (eBin gAddAny (eC (.int 1)) (eCall 2 f__law_take [] (aCons (eVar 2) (aCons (eC (.int 2)) (aNil)))))) (gmName 6) (sSeq (sPar [7, 8] (aCons (eCall 2 f__law_take [] (aCons (eVar 2) (aCons (eC (.int 3)) (aNil)))) (aCons (eCall 2 f__law_take [] (aCons (eVar 2) (aCons (eC (.int 3)) (aNil)))) (aNil))))
  (sIf (tBl (eBin gEq (eVar 8) (eC (.int 0)))) (sAsg (eCall 2 f__law_any [] (aCons (eVar 2) (aCons (eC (.int 7)) (aNil)))) (tgSub (eVar 5) (eVar 7))) (sIf (tAnd' (tBl (eBin gEq (eVar 8) (eC (.int 1)))) (tVal (eIsi l_list (eIxA (eVar 5) (eVar 7))))) (sSeq (sSet 9 (eCall 2 f__law_take [] (aCons (eVar 2) (aCons (eBin gAddAny (eCallB (gLenA) (aCons (eIxA (eVar 5) (eVar 7)) (aNil))) (eC (.int 1))) (aNil)))))
  (sAsg (eBin gAddAny (eBin gAddAny (eSl (eIxA (eVar 5) (eVar 7)) none (some (eVar 9))) (eLst (aCons (eCall 2 f__law_pick [] (aCons (eVar 2) (aCons (eVar 3) (aNil)))) (aNil)))) (eSl (eIxA (eVar 5) (eVar 7)) (some (eVar 9)) none)) (tgSub (eVar 5) (eVar 7)))) (sAsg (eCall 2 f__law_pick [] (aCons (eVar 2) (aCons (eLst (aCons (eTup (aNil)) (aCons (eLst (aNil)) (aCons (eC (.str [104, 101, 114, 101])) (aCons (eC (.str [114, 101, 97, 100])) (aCons (eTup (aCons (eC (.str [104, 101, 114, 101])) (aNil))) (aCons (eLst (aCons (eC (.str [115, 97, 109, 101])) (aNil))) (aCons (eLst (aCons (eC (.str [114, 101, 97, 100])) (aNil))) (aCons (eC .non) (aCons (eC (.int 3)) (aNil))))))))))) (aNil)))) (tgSub (eVar 5) (eVar 7))))))
def U4 : MS := sIf (tBl (eBin gNe (eCall 3 f__law_refused [] (aCons (eIxA (eVar 5) (eC (.int 0))) (aCons (eIxA (eVar 5) (eC (.int 1))) (aCons (eIxA (eVar 5) (eC (.int 2))) (aNil))))) (eCall 3 f__law_due [] (aCons (eIxA (eVar 5) (eC (.int 0))) (aCons (eIxA (eVar 5) (eC (.int 1))) (aCons (eIxA (eVar 5) (eC (.int 2))) (aNil))))))) (sRet (eC (.bl false))) (sSkip)
def BI : MS := (sSeq U1 (sSeq U2 (sSeq U3 U4)))
def JI : MJ := (jRng1 (eC (.int 10)))
def S1 : MS := sSet 2 (eCall 3 f__law_box [] (aCons (eVar 0) (aCons (eVar 1) (aCons (eC (.int 11)) (aNil)))))
def S2 : MS := sSet 3 (eHp (cLst (aCons (eC (.str [])) (aCons (eC (.str [110, 111, 116])) (aCons (eC (.str [110, 111, 116, 32, 110, 111, 116, 32, 115, 97, 109, 101])) (aCons (eC (.str [72, 101, 114, 101])) (aCons (eC (.str [104, 101, 114, 101, 32])) (aCons (eC (.str [110, 111, 116, 32, 32, 103, 111, 111, 100])) (aCons (eC (.str [119, 97, 107, 101])) (aCons (eC (.str [114, 101, 97, 100, 115])) (aCons (eC (.str [111, 110])) (aCons (eLst (aCons (eC (.str [104, 101, 114, 101])) (aNil))) (aCons (eC .non) (aCons (eC (.int 0)) (aNil)))))))))))))))
def S3 : MS := sExpr (eAppH (eVar 3) (eC (.bl true)))
def S4 : MS := sFor JI (gmName 4) BI
def BODY : MS := (sSeq S1 (sSeq S2 (sSeq S3 S4)))
def Z2 : MS := sRet (eAnd (eBin gEq (eCall 3 f__law_refused [] (aCons (eLst (aNil)) (aCons (eLst (aNil)) (aCons (eLst (aNil)) (aNil))))) (eC (.str [110, 101, 119, 115]))) (eBin gEq (eCall 3 f__law_refused [] (aCons (eTup (aCons (eC (.str [111, 118, 101, 114])) (aNil))) (aCons (eTup (aNil)) (aCons (eTup (aNil)) (aNil))))) (eC (.str [109, 97, 100, 101]))))
theorem law_eq : b_law = (sSeq (sFor TOPJ (gmName 1) BODY) Z2) := rfl

theorem Gr.gb {n : Nat} {h h' : HP} (g : Gr h h') : Gb n h h' := ⟨g.nn, fun j hj _ => g.mm j hj⟩
theorem nw_all : NW.all tx2B = true := by decide +kernel
theorem ts_all : TS8.all (fun e => tx2B e && tsB e) = true := by decide +kernel
theorem de_all : DE.all tx2B = true := by decide +kernel
theorem nw_tx {e : List Nat} (h : e ∈ NW) : Tx2 e := tx2B_ok (List.all_eq_true.mp nw_all e h)
theorem de_tx {e : List Nat} (h : e ∈ DE) : Tx2 e := tx2B_ok (List.all_eq_true.mp de_all e h)
theorem ts_tx {e : List Nat} (h : e ∈ TS8) : Tx2 e := tx2B_ok (Bool.and_eq_true_iff.mp (List.all_eq_true.mp ts_all e h)).1
theorem ts_b {e : List Nat} (h : e ∈ TS8) : tsB e = true := (Bool.and_eq_true_iff.mp (List.all_eq_true.mp ts_all e h)).2
theorem vd_T {k : Nat} {l : List (List Nat)} (h : ∀ e ∈ l, Tx2 e) : ∀ u ∈ T l, VD k u := fun u hu => by
  obtain ⟨e, he, rfl⟩ := List.mem_map.mp hu
  exact .str (h e he)
theorem aw_T {S l : List (List Nat)} (h : ∀ e ∈ l, e ∈ S) : (T l).all (isW S) = true := List.all_eq_true.mpr fun u hu => by
  obtain ⟨e, he, rfl⟩ := List.mem_map.mp hu
  exact decide_eq_true (h e he)
theorem wp_ok {nw ts ds : List (List Nat)} (r : RowOk nw ts ds) {a b c : U} (ea : seqU a = some (T nw)) (eb : seqU b = some (T ts)) (ec : seqU c = some (T ds)) : wpU a b c = .non := by
  have h1 : awB NW a = true := by unfold awB; rw [ea]; exact aw_T r.n
  have h2 : isN a = true := by
    unfold isN
    rw [ea]
    have := r.n0
    cases nw with
    | nil => exact absurd rfl this
    | cons x nw => rfl
  have h3 : atB b = true := by
    unfold atB
    rw [eb]
    exact List.all_eq_true.mpr fun u hu => by
      obtain ⟨e, he, rfl⟩ := List.mem_map.mp hu
      exact ts_b (r.t e he)
  have h4 : awB DE c = true := by unfold awB; rw [ec]; exact aw_T r.d
  unfold wpU
  rw [h1, h2, h3, h4]
  rfl
theorem atU_nat {us : List U} {r : Nat} {u : U} (e : us[r]? = some u) : atU us (r : Int) = some u := by
  have hr := (List.getElem?_eq_some_iff.mp e).1
  unfold atU atI ixN
  rw [if_pos (by omega), if_pos (by omega)]
  show us[(r : Int).toNat]? = _
  rw [Int.toNat_natCast, e]
theorem ix_ref {h : HP} {ns r : Nat} {l : List U} {u : U} (hm : h.m ns = some (.lst l)) (e : l[r]? = some u) : gIxA h (.ref ns) (.int (r : Int)) = some u := gIx_ref hm (atU_nat e)
theorem put_lst {l : List U} {r : Nat} {v : U} (hr : r < l.length) : putO (.lst l) (.int (r : Int)) v = some (.lst (l.set r v)) := by
  have : putO1 (.lst l) (.int (r : Int)) v = some (.lst (l.set r v)) := by
    show (ixN l.length (r : Int)).map _ = _
    unfold ixN
    rw [if_pos (by omega), if_pos (by omega), Int.toNat_natCast]
    rfl
  unfold putO
  rw [this]
/-- the parts of a row as they are bent -/
def X (i : Nat) (u : U) : Prop := VD 10 u ∧ ∀ us, u = .lst us → us.length ≤ 20 + i
theorem X.up {i : Nat} {u : U} (x : X i u) : X (i + 1) u := ⟨x.1, fun us e => by have := x.2 us e; omega⟩
def NEAR : List U := [.str [], .str [110, 111, 116], .str [110, 111, 116, 32, 110, 111, 116, 32, 115, 97, 109, 101], .str [72, 101, 114, 101], .str [104, 101, 114, 101, 32], .str [110, 111, 116, 32, 32, 103, 111, 111, 100], .str [119, 97, 107, 101], .str [114, 101, 97, 100, 115], .str [111, 110], .lst [.str [104, 101, 114, 101]], .non, .int 0, .bl true]
def VALS : List U := [.tup [], .lst [], .str [104, 101, 114, 101], .str [114, 101, 97, 100], .tup [.str [104, 101, 114, 101]], .lst [.str [115, 97, 109, 101]], .lst [.str [114, 101, 97, 100]], .non, .int 3]
def xB (u : U) : Bool := vdB 3 u && (match u with
  | .lst us => Nat.ble us.length 20
  | _ => true)
theorem xB_ok {u : U} (h : xB u = true) : X 0 u := by
  obtain ⟨h1, h2⟩ := Bool.and_eq_true_iff.mp h
  refine ⟨(vdB_ok h1).mono (by decide), fun us e => ?_⟩
  subst e
  exact Nat.le_of_ble_eq_true h2
theorem near_all : NEAR.all (vdB 1) = true := by decide +kernel
theorem vals_all : VALS.all xB = true := by decide +kernel
theorem near_ok {u : U} (h : u ∈ NEAR) : VD 1 u := vdB_ok (List.all_eq_true.mp near_all u h)
theorem vals_ok {u : U} (h : u ∈ VALS) : X 0 u := xB_ok (List.all_eq_true.mp vals_all u h)
theorem X.of0 {u : U} (x : X 0 u) (i : Nat) : X i u := ⟨x.1, fun us e => by have := x.2 us e; omega⟩
theorem dany_len (n : Nat) (h : HP) (K : Int) (B : Box h n K) (hK : K + 509 ≤ 9000000) : ∃ u h', f_dany [.ref n, .int 7] h = .ok u h' ∧ VS 7 u ∧ Box h' n (K + 509) ∧ Kept n h h' := by
  obtain ⟨u, h', e, v, B', k'⟩ := dany_ok n 8 7 (by decide) h K B (by have : dcost 7 = 509 := rfl; omega)
  exact ⟨u, h', e, v, B', k'⟩
def AL : ME := eCall 2 f__law_take [] (aCons (eVar 2) (aCons (eC (.int 3)) (aNil)))
def B3 : MS := sSeq (sPar [7, 8] (aCons AL (aCons AL (aNil))))
  (sIf (tBl (eBin gEq (eVar 8) (eC (.int 0)))) (sAsg (eCall 2 f__law_any [] (aCons (eVar 2) (aCons (eC (.int 7)) (aNil)))) (tgSub (eVar 5) (eVar 7))) (sIf (tAnd' (tBl (eBin gEq (eVar 8) (eC (.int 1)))) (tVal (eIsi l_list (eIxA (eVar 5) (eVar 7))))) (sSeq (sSet 9 (eCall 2 f__law_take [] (aCons (eVar 2) (aCons (eBin gAddAny (eCallB (gLenA) (aCons (eIxA (eVar 5) (eVar 7)) (aNil))) (eC (.int 1))) (aNil)))))
  (sAsg (eBin gAddAny (eBin gAddAny (eSl (eIxA (eVar 5) (eVar 7)) none (some (eVar 9))) (eLst (aCons (eCall 2 f__law_pick [] (aCons (eVar 2) (aCons (eVar 3) (aNil)))) (aNil)))) (eSl (eIxA (eVar 5) (eVar 7)) (some (eVar 9)) none)) (tgSub (eVar 5) (eVar 7)))) (sAsg (eCall 2 f__law_pick [] (aCons (eVar 2) (aCons (eLst (aCons (eTup (aNil)) (aCons (eLst (aNil)) (aCons (eC (.str [104, 101, 114, 101])) (aCons (eC (.str [114, 101, 97, 100])) (aCons (eTup (aCons (eC (.str [104, 101, 114, 101])) (aNil))) (aCons (eLst (aCons (eC (.str [115, 97, 109, 101])) (aNil))) (aCons (eLst (aCons (eC (.str [114, 101, 97, 100])) (aNil))) (aCons (eC .non) (aCons (eC (.int 3)) (aNil))))))))))) (aNil)))) (tgSub (eVar 5) (eVar 7)))))
theorem u3_eq : U3 = sFor (jRng1 (eBin gAddAny (eC (.int 1)) (eCall 2 f__law_take [] (aCons (eVar 2) (aCons (eC (.int 2)) (aNil)))))) (gmName 6) B3 := rfl
/-- where the bending stands -/
def Bt (x0 x1 x4 : Sl) (n nr ns : Nat) (K0 : Int) (i : Nat) (σ : SS) (h : HP) : Prop := (∃ s6 s7 s8 s9 s10 : Sl, σ = [x0, x1, .val (.ref n), .val (.ref nr), x4, .val (.ref ns), s6, s7, s8, s9, s10]) ∧ Box h n (K0 + 600 * (i : Nat)) ∧ h.m nr = some (.lst NEAR) ∧ n < h.n ∧ nr < h.n ∧ ns < h.n ∧ nr ≠ n ∧ ns ≠ n ∧ ns ≠ nr ∧ ∃ l : List U, h.m ns = some (.lst l) ∧ l.length = 3 ∧ ∀ u ∈ l, X i u
theorem set_X {i : Nat} {l : List U} {r : Nat} {v : U} (hl : ∀ u ∈ l, X i u) (hv : X (i + 1) v) : ∀ u ∈ l.set r v, X (i + 1) u := fun u hu => by
  rcases List.mem_or_eq_of_mem_set hu with z | z
  · exact (hl u z).up
  · rw [z]; exact hv
theorem bend_ok {x0 x1 x4 : Sl} {n nr ns : Nat} {K0 : Int} (hK0 : K0 ≤ 8000000) (i : Nat) (σ : SS) (h : HP) (hi : i < 2) (A : Bt x0 x1 x4 n nr ns K0 i σ h) : ∃ σ' h', B3 (setF σ 6 (.val (.int ((0 : Int) + (i : Nat))))) h = .nx σ' h' ∧ Bt x0 x1 x4 n nr ns K0 (i + 1) σ' h' := by
  obtain ⟨⟨s6, s7, s8, s9, s10, rfl⟩, B, hnr, ln, lnr, lns, ne, ne2, ne3, l, hl, l3, lX⟩ := A
  let t6 : Sl := .val (.int ((0 : Int) + (i : Nat)))
  show ∃ σ' h', B3 [x0, x1, .val (.ref n), .val (.ref nr), x4, .val (.ref ns), t6, s7, s8, s9, s10] h = .nx σ' h' ∧ _
  have up : K0 + 600 * ((i + 1 : Nat) : Int) = K0 + 600 * (i : Nat) + 600 := by omega
  obtain ⟨w1, h1, e1, ⟨r, hr, rfl⟩, B1, k1⟩ := dtake_ok n 3 (by decide) (by decide) h _ B (by omega)
  obtain ⟨w2, h2, e2, ⟨f, hf, rfl⟩, B2, k2⟩ := dtake_ok n 3 (by decide) (by decide) h1 _ B1 (by omega)
  let σ1 : SS := [x0, x1, .val (.ref n), .val (.ref nr), x4, .val (.ref ns), t6, .val (.int (r : Int)), .val (.int (f : Int)), s9, s10]
  have u1 : sPar [7, 8] (aCons AL (aCons AL (aNil))) [x0, x1, .val (.ref n), .val (.ref nr), x4, .val (.ref ns), t6, s7, s8, s9, s10] h = .nx σ1 h2 := st_par2 (ea_cons (ev_call (ea_cons (ev_var rfl) (ea_cons ev_c ea_nil)) rfl e1) (ea_cons (ev_call (ea_cons (ev_var rfl) (ea_cons ev_c ea_nil)) rfl e2) ea_nil))
  have k12 := k1.trans k2
  have hl2 : h2.m ns = some (.lst l) := (k12.mm ns ne2).trans hl
  have hnr2 : h2.m nr = some (.lst NEAR) := (k12.mm nr ne).trans hnr
  have hrl : r < l.length := by omega
  have ex : l[r]? = some l[r] := List.getElem?_eq_getElem hrl
  have fin : ∀ (σ' : SS) (h3 : HP) (v : U), (∃ s9, σ' = [x0, x1, .val (.ref n), .val (.ref nr), x4, .val (.ref ns), t6, .val (.int (r : Int)), .val (.int (f : Int)), s9, s10]) → Box h3 n (K0 + 600 * (i : Nat) + 600) → Kept n h2 h3 → X (i + 1) v → Bt x0 x1 x4 n nr ns K0 (i + 1) σ' (h3.set ns (.lst (l.set r v))) := by
    intro σ' h3 v ⟨s9, e⟩ B3 k3 xv
    subst e
    have nn : h3.n = h.n := k3.nn.trans k12.nn
    refine ⟨⟨_, _, _, _, _, rfl⟩, ?_, ?_, ?_, ?_, ?_, ne, ne2, ne3, l.set r v, hset_m, by rw [List.length_set]; exact l3, set_X lX xv⟩
    · rw [up]
      exact B3.keep (hset_ne (Ne.symm ne2))
    · exact (hset_ne (Ne.symm ne3)).trans ((k3.mm nr ne).trans hnr2)
    · show n < h3.n; omega
    · show nr < h3.n; omega
    · show ns < h3.n; omega
  have k3m : ∀ h3, Kept n h2 h3 → h3.m ns = some (.lst l) := fun h3 k3 => (k3.mm ns ne2).trans hl2
  have t0 : tBl (eBin gEq (eVar 8) (eC (.int 0))) σ1 h2 = .ok (decide ((f : Int) = 0)) h2 := tt_bl (ev_bin (ev_var rfl) ev_c (eq_ii _ _))
  by_cases hf0 : (f : Int) = 0
  · rw [decide_eq_true hf0] at t0
    obtain ⟨v, h3, e3, vv, B3, k3⟩ := dany_len n h2 _ B2 (by omega)
    refine ⟨σ1, _, st_seq u1 (st_ifT t0 (st_asg (ev_call (ea_cons (ev_var rfl) (ea_cons ev_c ea_nil)) rfl e3) (tg_sub (ev_var rfl) (ev_var rfl) (k3m h3 k3) (put_lst hrl)))), fin σ1 h3 v ⟨_, rfl⟩ (B3.mono (by omega)) k3 ⟨vv.1.mono (by decide), fun us e => by have := vv.2 us e; omega⟩⟩
  · rw [decide_eq_false hf0] at t0
    have pick : ∃ σ' h', (sAsg (eCall 2 f__law_pick [] (aCons (eVar 2) (aCons (eLst (aCons (eTup (aNil)) (aCons (eLst (aNil)) (aCons (eC (.str [104, 101, 114, 101])) (aCons (eC (.str [114, 101, 97, 100])) (aCons (eTup (aCons (eC (.str [104, 101, 114, 101])) (aNil))) (aCons (eLst (aCons (eC (.str [115, 97, 109, 101])) (aNil))) (aCons (eLst (aCons (eC (.str [114, 101, 97, 100])) (aNil))) (aCons (eC .non) (aCons (eC (.int 3)) (aNil))))))))))) (aNil)))) (tgSub (eVar 5) (eVar 7))) σ1 h2 = .nx σ' h' ∧ Bt x0 x1 x4 n nr ns K0 (i + 1) σ' h' := by
      obtain ⟨v, h3, e3, m3, B3, k3⟩ := dpick_ok n (us := VALS) (by decide) (by decide) h2 _ B2 (by omega)
      exact ⟨σ1, _, st_asg (ev_call (ea_cons (ev_var rfl) (ea_cons (ev_lst (us := VALS) rfl rfl) ea_nil)) rfl e3) (tg_sub (ev_var rfl) (ev_var rfl) (k3m h3 k3) (put_lst hrl)), fin σ1 h3 v ⟨_, rfl⟩ (B3.mono (by omega)) k3 ((vals_ok m3).of0 _)⟩
    have t1 : tBl (eBin gEq (eVar 8) (eC (.int 1))) σ1 h2 = .ok (decide ((f : Int) = 1)) h2 := tt_bl (ev_bin (ev_var rfl) ev_c (eq_ii _ _))
    have ev : eIxA (eVar 5) (eVar 7) σ1 h2 = .ok l[r] h2 := ev_ix (ev_var rfl) (ev_var rfl) (ix_ref hl2 ex)
    have xr := lX l[r] (List.getElem_mem hrl)
    generalize hw : l[r] = w at ev xr
    have nolst : (∀ h, eIsi l_list (eC w) [] h = .ok (.bl false) h) → ∃ σ' h', B3 [x0, x1, .val (.ref n), .val (.ref nr), x4, .val (.ref ns), t6, s7, s8, s9, s10] h = .nx σ' h' ∧ Bt x0 x1 x4 n nr ns K0 (i + 1) σ' h' := fun e0 => by
      have e1 : eIsi l_list (eIxA (eVar 5) (eVar 7)) σ1 h2 = .ok (.bl false) h2 := by
        have e2 := e0 h2
        unfold eIsi at e2 ⊢
        rw [ev]
        exact e2
      have t2 : tAnd' (tBl (eBin gEq (eVar 8) (eC (.int 1)))) (tVal (eIsi l_list (eIxA (eVar 5) (eVar 7)))) σ1 h2 = .ok false h2 := by
        unfold tAnd'
        rw [t1]
        by_cases hf1 : (f : Int) = 1
        · rw [decide_eq_true hf1]
          exact tt_val (k := false) e1
        · rw [decide_eq_false hf1]
          rfl
      obtain ⟨σ', h', e, b⟩ := pick
      exact ⟨σ', h', st_seq u1 (st_ifF t0 (st_ifF t2 e)), b⟩
    by_cases hf1 : (f : Int) = 1
    · rw [decide_eq_true hf1] at t1
      cases w with
      | lst us =>
        have ul := xr.2 us rfl
        have t2 : tAnd' (tBl (eBin gEq (eVar 8) (eC (.int 1)))) (tVal (eIsi l_list (eIxA (eVar 5) (eVar 7)))) σ1 h2 = .ok true h2 := by
          unfold tAnd'
          rw [t1]
          refine tt_val (k := true) ?_
          unfold eIsi
          rw [ev]
          rfl
        obtain ⟨w3, h3, e3, ⟨m, hm, rfl⟩, B3, k3⟩ := dtake_ok n (us.length + 1) (by omega) (by omega) h2 _ B2 (by omega)
        let σ2 : SS := [x0, x1, .val (.ref n), .val (.ref nr), x4, .val (.ref ns), t6, .val (.int (r : Int)), .val (.int (f : Int)), .val (.int (m : Int)), s10]
        obtain ⟨v, h4, e4, m4, B4, k4⟩ := dpick_ref (us := NEAR) ne (by decide) (by decide) B3 (by omega) ((k3.mm nr ne).trans hnr2)
        have ex' : l[r]? = some (.lst us) := by rw [ex, hw]
        have ev3 : eIxA (eVar 5) (eVar 7) σ2 h3 = .ok (.lst us) h3 := ev_ix (ev_var rfl) (ev_var rfl) (ix_ref (k3m h3 k3) ex')
        have ev4 : eIxA (eVar 5) (eVar 7) σ2 h4 = .ok (.lst us) h4 := ev_ix (ev_var rfl) (ev_var rfl) (ix_ref (k3m h4 (k3.trans k4)) ex')
        have lnU : gLenA h2 [.lst us] = some (.int us.length) := rfl
        have s1 : sSet 9 (eCall 2 f__law_take [] (aCons (eVar 2) (aCons (eBin gAddAny (eCallB (gLenA) (aCons (eIxA (eVar 5) (eVar 7)) (aNil))) (eC (.int 1))) (aNil)))) σ1 h2 = .nx σ2 h3 :=
          st_set (ev_call (ea_cons (ev_var rfl) (ea_cons (ev_bin (ev_callB (ea_cons ev ea_nil) lnU) ev_c gAdd_ok) ea_nil)) rfl e3)
        let bent : List U := us.take m ++ v :: us.drop m
        have lenb : bent.length = us.length + 1 := by
          show (us.take m ++ v :: us.drop m).length = _
          rw [List.length_append, List.length_cons, List.length_take, List.length_drop]
          omega
        have eb : (eBin gAddAny (eBin gAddAny (eSl (eIxA (eVar 5) (eVar 7)) none (some (eVar 9))) (eLst (aCons (eCall 2 f__law_pick [] (aCons (eVar 2) (aCons (eVar 3) (aNil)))) (aNil)))) (eSl (eIxA (eVar 5) (eVar 7)) (some (eVar 9)) none)) σ2 h3 = .ok (.lst bent) h4 := by
          refine ev_bin (ev_bin (ev_slH ev3 (ev_var rfl) sl_takeL) (ev_lst (ea_cons (ev_call (ea_cons (ev_var rfl) (ea_cons (ev_var rfl) ea_nil)) rfl e4) ea_nil) rfl) (gAdd_llP ?_)) (ev_slL ev4 (ev_var rfl) sl_dropL) ?_
          · rw [List.length_take, List.length_singleton]; omega
          · rw [gAdd_llP (by rw [List.length_append, List.length_take, List.length_drop, List.length_singleton]; omega), List.append_assoc]
            rfl
        have hus : ∀ x ∈ us, VD 9 x := by
          have q := xr.1
          cases q with
          | lst _ h => exact h
        have xb : X (i + 1) (.lst bent) := ⟨.lst (by omega) fun x hx => by
          rcases List.mem_append.mp hx with z | z
          · exact hus x (List.mem_of_mem_take z)
          · rcases List.mem_cons.mp z with y | y
            · rw [y]; exact (near_ok m4).mono (by decide)
            · exact hus x (List.mem_of_mem_drop y), fun zs e => by cases e; omega⟩
        exact ⟨σ2, _, st_seq u1 (st_ifF t0 (st_ifT t2 (st_seq s1 (st_asg eb (tg_sub (ev_var rfl) (ev_var rfl) (k3m h4 (k3.trans k4)) (put_lst hrl)))))), fin σ2 h4 _ ⟨_, rfl⟩ (B4.mono (by omega)) (k3.trans k4) xb⟩
      | non => exact nolst fun h => rfl
      | bl b => exact nolst fun h => rfl
      | int j => exact nolst fun h => rfl
      | str e => exact nolst fun h => rfl
      | tup us => exact nolst fun h => rfl
      | lsx us => cases xr.1
      | obj C as us => cases xr.1
      | ref j => cases xr.1
      | cls C => cases xr.1
    · rw [decide_eq_false hf1] at t1
      have t2 : tAnd' (tBl (eBin gEq (eVar 8) (eC (.int 1)))) (tVal (eIsi l_list (eIxA (eVar 5) (eVar 7)))) σ1 h2 = .ok false h2 := by
        unfold tAnd'
        rw [t1]
        rfl
      obtain ⟨σ', h', e, b⟩ := pick
      exact ⟨σ', h', st_seq u1 (st_ifF t0 (st_ifF t2 e)), b⟩
end S7
end

noncomputable section
namespace S7
open PySem PySem.Spec PyProof.Rows L2 M7
def At (x0 x1 : Sl) (n nr : Nat) (K0 : Int) (i : Nat) (σ : SS) (h : HP) : Prop := (∃ s4 s5 s6 s7 s8 s9 s10 : Sl, σ = [x0, x1, .val (.ref n), .val (.ref nr), s4, s5, s6, s7, s8, s9, s10]) ∧ Box h n (K0 + 2000 * (i : Nat)) ∧ h.m nr = some (.lst NEAR) ∧ n < h.n ∧ nr < h.n ∧ nr ≠ n
theorem ne_refl {h : HP} {a b c : U} : gNe h (refU a b c) (refU a b c) = some (.bl false) := by
  unfold refU
  rcases wp_cases a b c with w | ⟨s, w⟩
  · rw [w]; exact (ne_ss _ _).trans (by simp)
  · rw [w]; exact (ne_ss _ _).trans (by simp)
theorem len3 {l : List U} (h : l.length = 3) : ∃ a b c, l = [a, b, c] := match l, h with
  | [a, b, c], _ => ⟨a, b, c, rfl⟩
theorem turn_ok {x0 x1 : Sl} {n nr : Nat} {K0 : Int} (hK0 : K0 ≤ 100) (i : Nat) (σ : SS) (h : HP) (hi : i < 10) (A : At x0 x1 n nr K0 i σ h) : ∃ σ' h', BI (setF σ 4 (.val (.int ((0 : Int) + (i : Nat))))) h = .nx σ' h' ∧ At x0 x1 n nr K0 (i + 1) σ' h' := by
  obtain ⟨⟨s4, s5, s6, s7, s8, s9, s10, rfl⟩, B, hnr, ln, lnr, ne⟩ := A
  let t4 : Sl := .val (.int ((0 : Int) + (i : Nat)))
  let σ0 : SS := [x0, x1, .val (.ref n), .val (.ref nr), t4, s5, s6, s7, s8, s9, s10]
  show ∃ σ' h', BI σ0 h = .nx σ' h' ∧ _
  obtain ⟨nw, ts, ds, h1, e1, ro, B1, g1⟩ := any_row_ok n h _ B (by omega) ln
  have n1 := g1.nn
  let l0 : List U := [.lst (T nw), .lst (T ts), .lst (T ds)]
  let h2 := h1.new (.lst l0)
  let σ1 : SS := [x0, x1, .val (.ref n), .val (.ref nr), t4, .val (.ref h1.n), s6, s7, s8, s9, s10]
  have j1 : jSeq (eCall 1 f__law_any_row [] (aCons (eVar 2) (aNil))) σ0 h = .ok (srcL [.tup (T nw), .tup (T ts), .tup (T ds)]) 3 h1 := by
    unfold jSeq
    rw [ev_call (ea_cons (ev_var rfl) ea_nil) rfl e1]
    rfl
  have u1 : U1 σ0 h = .nx σ1 h2 := st_set (ev_hp (us := l0) (ea_lc j1 rfl))
  have B2 : Box h2 n _ := B1.keep (hnew_ne (by omega))
  have m2 : h2.m h1.n = some (.lst l0) := hnew_m
  have r2 : h2.m nr = some (.lst NEAR) := (hnew_ne (by omega)).trans ((g1.mm nr lnr ne).trans hnr)
  have nn2 : h2.n = h1.n + 1 := rfl
  have x0' : ∀ u ∈ l0, X 0 u := fun u hu => by
    have nl := ro.nl
    have tl := ro.tl
    have dl := ro.dl
    rcases List.mem_cons.mp hu with z | hu
    · rw [z]; exact ⟨(VD.lst (k := 9) (by rw [List.length_map]; omega) (vd_T fun e he => nw_tx (ro.n e he))), fun us e => by cases e; rw [List.length_map]; omega⟩
    rcases List.mem_cons.mp hu with z | hu
    · rw [z]; exact ⟨(VD.lst (k := 9) (by rw [List.length_map]; omega) (vd_T fun e he => ts_tx (ro.t e he))), fun us e => by cases e; rw [List.length_map]; omega⟩
    rcases List.mem_cons.mp hu with z | hu
    · rw [z]; exact ⟨(VD.lst (k := 9) (by rw [List.length_map]; omega) (vd_T fun e he => de_tx (ro.d e he))), fun us e => by cases e; rw [List.length_map]; omega⟩
    · cases hu
  obtain ⟨h3, e3, g3⟩ := ref_ok (h := h2) (a := .lst (T nw)) (b := .lst (T ts)) (c := .lst (T ds)) (vd_vv (x0' _ List.mem_cons_self).1) (vd_vv (x0' _ (List.mem_cons_of_mem _ List.mem_cons_self)).1) (vd_vv (x0' _ (List.mem_cons_of_mem _ (List.mem_cons_of_mem _ List.mem_cons_self))).1)
  have w0 : wpU (.lst (T nw)) (.lst (T ts)) (.lst (T ds)) = .non := wp_ok ro rfl rfl rfl
  have ix : ∀ (σ : SS) (g : HP) (ns : Nat) (a b c : U), nthF σ 5 = some (.val (.ref ns)) → g.m ns = some (.lst [a, b, c]) → aCons (eIxA (eVar 5) (eC (.int 0))) (aCons (eIxA (eVar 5) (eC (.int 1))) (aCons (eIxA (eVar 5) (eC (.int 2))) (aNil))) σ g = .ok [a, b, c] g := fun σ g ns a b c e m =>
    ea_cons (ev_ix (ev_var e) ev_c (ix_ref (r := 0) m rfl)) (ea_cons (ev_ix (ev_var e) ev_c (ix_ref (r := 1) m rfl)) (ea_cons (ev_ix (ev_var e) ev_c (ix_ref (r := 2) m rfl)) ea_nil))
  have u2 : U2 σ1 h2 = .nx σ1 h3 := by
    refine st_ifF (h1 := h3) (tt_bl (ev_bin (ev_call (ix σ1 h2 h1.n _ _ _ rfl m2) rfl e3) ev_c ?_)) rfl
    unfold refU
    rw [w0]
    exact (ne_ss _ _).trans (by simp)
  have n3 := g3.nn
  have Bh3 := B2.keep (g3.mm n (by omega))
  obtain ⟨w4, h4, e4, ⟨q, hq, rfl⟩, B4, k4⟩ := dtake_ok n 2 (by decide) (by decide) h3 _ Bh3 (by omega)
  have n4 : h4.n = h3.n := k4.nn
  have A0 : Bt x0 x1 t4 n nr h1.n (K0 + 2000 * (i : Nat) + 100) 0 σ1 h4 := ⟨⟨_, _, _, _, _, rfl⟩, B4.mono (by omega), (k4.mm nr ne).trans ((g3.mm nr (by omega)).trans r2), by omega, by omega, by omega, ne, by omega, by omega, l0, (k4.mm h1.n (by omega)).trans ((g3.mm h1.n (by omega)).trans m2), rfl, x0'⟩
  obtain ⟨σ5, h5, e5, A5⟩ := for_rng (j := 6) (M := 1 + q) (b := B3) (J := Bt x0 x1 t4 n nr h1.n (K0 + 2000 * (i : Nat) + 100)) (fun i' σ h hi' A => bend_ok (by omega) i' σ h (by omega) A) (1 + q) 0 _ h4 (Nat.zero_add _) A0
  have u3 : U3 σ1 h3 = .nx σ5 h5 := by
    rw [u3_eq]
    exact st_forP (ej_rng (k := 1 + q) (ev_bin ev_c (ev_call (ea_cons (ev_var rfl) (ea_cons ev_c ea_nil)) rfl e4) (gAdd_ok.trans (by rw [Int.natCast_add]; rfl))) (by omega)) e5
  obtain ⟨⟨t6, t7, t8, t9, t10, rfl⟩, B5, r5, ln5, lnr5, lns5, _, nsn, nsr, l, m5, ll, lX⟩ := A5
  obtain ⟨a, b, c, rfl⟩ := len3 ll
  have xa := lX a List.mem_cons_self
  have xb := lX b (List.mem_cons_of_mem _ List.mem_cons_self)
  have xc := lX c (List.mem_cons_of_mem _ (List.mem_cons_of_mem _ List.mem_cons_self))
  obtain ⟨h6, e6, g6⟩ := ref_ok (h := h5) (vd_vv xa.1) (vd_vv xb.1) (vd_vv xc.1)
  have m6 : h6.m h1.n = some (.lst [a, b, c]) := (g6.mm _ lns5).trans m5
  let σ6 : SS := [x0, x1, .val (.ref n), .val (.ref nr), t4, .val (.ref h1.n), t6, t7, t8, t9, t10]
  have u4 : U4 σ6 h5 = .nx σ6 h6 := by
    refine st_ifF (h1 := h6) (tt_bl (ev_bin (ev_call (ix σ6 h5 h1.n _ _ _ rfl m5) rfl e6) (ev_call (ix σ6 h6 h1.n _ _ _ rfl m6) rfl (due_ok (k := 10) (by decide) xa.1 xb.1 xc.1)) ne_refl)) rfl
  refine ⟨σ6, h6, st_seq u1 (st_seq u2 (st_seq u3 u4)), ⟨_, _, _, _, _, _, _, rfl⟩, (B5.keep (g6.mm n ln5)).mono ?_, (g6.mm nr lnr5).trans r5, ?_, ?_, ne⟩
  · have e1 : (((i + 1 : Nat) : Int)) = (i : Int) + 1 := by omega
    rw [e1]
    omega
  · have := g6.nn; omega
  · have := g6.nn; omega
def Turn (ns : List Int) (σ : SS) : Prop := ∃ s1 s2 s3 s4 s5 s6 s7 s8 s9 s10 : Sl, σ = [.val (scrU ns), s1, s2, s3, s4, s5, s6, s7, s8, s9, s10]
theorem body_ok (ns : List Int) (k : Nat) (hk : k < 4) {σ : SS} (A : Turn ns σ) (h : HP) : ∃ σ' h', BODY (setF σ 1 (.val (.int ((0 : Int) + (k : Nat))))) h = .nx σ' h' ∧ Turn ns σ' := by
  obtain ⟨s1, s2, s3, s4, s5, s6, s7, s8, s9, s10, rfl⟩ := A
  obtain ⟨a, b, e1, ha, hb0, hb⟩ := dbox_ok (h := h) ns ((0 : Int) + (k : Nat)) 11 (by omega) (by omega) (by decide) (by decide)
  let k1 : Sl := .val (.int ((0 : Int) + (k : Nat)))
  let h1 := h.new (.lst [.int a, .int b, .int 0])
  have hn1 : h1.n = h.n + 1 := rfl
  have u1 : S1 [.val (scrU ns), k1, s2, s3, s4, s5, s6, s7, s8, s9, s10] h = .nx [.val (scrU ns), k1, .val (.ref h.n), s3, s4, s5, s6, s7, s8, s9, s10] h1 := st_set (ev_call (ea_cons (ev_var rfl) (ea_cons (ev_var rfl) (ea_cons ev_c ea_nil))) rfl e1)
  let h2 := h1.new (.lst (NEAR.take 12))
  have u2 : S2 [.val (scrU ns), k1, .val (.ref h.n), s3, s4, s5, s6, s7, s8, s9, s10] h1 = .nx [.val (scrU ns), k1, .val (.ref h.n), .val (.ref h1.n), s4, s5, s6, s7, s8, s9, s10] h2 := rfl
  let h3 := h2.set h1.n (.lst NEAR)
  have m2 : h2.m h1.n = some (.lst (NEAR.take 12)) := hnew_m
  have u3 : S3 [.val (scrU ns), k1, .val (.ref h.n), .val (.ref h1.n), s4, s5, s6, s7, s8, s9, s10] h2 = .nx [.val (scrU ns), k1, .val (.ref h.n), .val (.ref h1.n), s4, s5, s6, s7, s8, s9, s10] h3 := st_exprP (ev_appP (ev_var rfl) ev_c m2 (by decide))
  have box : h3.m h.n = some (.lst [.int a, .int b, .int 0]) := by
    show (h2.set _ _).m h.n = _
    rw [hset_ne (by omega)]
    show (h1.new _).m h.n = _
    rw [hnew_ne (by omega)]
    exact hnew_m
  have n3 : h3.n = h.n + 2 := rfl
  have At0 : At (.val (scrU ns)) k1 h.n h1.n 0 0 [.val (scrU ns), k1, .val (.ref h.n), .val (.ref h1.n), s4, s5, s6, s7, s8, s9, s10] h3 :=
    ⟨⟨_, _, _, _, _, _, _, rfl⟩, ⟨a, b, 0, box, ha, hb0, hb, by decide, by decide⟩, hset_m, by omega, by omega, by omega⟩
  obtain ⟨σ', h', e8, A8⟩ := for_rng (j := 4) (M := 10) (b := BI) (J := At (.val (scrU ns)) k1 h.n h1.n 0) (fun i σ h hi A => turn_ok (by decide) i σ h hi A) 10 0 _ h3 rfl At0
  obtain ⟨⟨t4, t5, t6, t7, t8, t9, t10, rfl⟩, _⟩ := A8
  have j8 : JI [.val (scrU ns), k1, .val (.ref h.n), .val (.ref h1.n), s4, s5, s6, s7, s8, s9, s10] h3 = .ok (srcR 0 10) 10 h3 := ej_rng (k := 10) ev_c (by decide)
  exact ⟨_, h', st_seq u1 (st_seq u2 (st_seq u3 (st_forP j8 e8))), _, _, _, _, _, _, _, _, _, _, rfl⟩
theorem plain (ns : List Int) (h1 : ns.length ≤ 63) (h2 : ∀ i ∈ ns, Builtin.Int.intBits i ≤ 1048576) : ∃ h, f_law [scrU ns] HP.empty = .ok (.bl true) h := by
  obtain ⟨m, m4, ej⟩ := topj_ok ns
  have A : Turn ns (startU 11 [scrU ns]) := ⟨_, _, _, _, _, _, _, _, _, _, rfl⟩
  obtain ⟨σ', h', ef, A'⟩ := for_rng (j := 1) (M := m) (b := BODY) (J := fun _ σ _ => Turn ns σ) (fun i σ h hi A => body_ok ns i (by omega) A h) m 0 _ HP.empty (Nat.zero_add _) A
  have v0 : VV (.lst []) := vd_vv (vdB_ok (k := 1) rfl)
  have vt : VV (.tup []) := vd_vv (vdB_ok (k := 1) rfl)
  have vo : VV (.tup [.str [111, 118, 101, 114]]) := vd_vv (vdB_ok (k := 1) (by decide +kernel))
  obtain ⟨g1, e1, _⟩ := ref_ok (h := h') v0 v0 v0
  obtain ⟨g2, e2, _⟩ := ref_ok (h := g1) vo vt vt
  have q1 : refU (.lst []) (.lst []) (.lst []) = .str [110, 101, 119, 115] := by kernel_rfl
  have q2 : refU (.tup [.str [111, 118, 101, 114]]) (.tup []) (.tup []) = .str [109, 97, 100, 101] := by kernel_rfl
  rw [q1] at e1
  rw [q2] at e2
  refine ⟨g2, rf_rt rfl ?_⟩
  rw [law_eq]
  refine st_seq (st_forP (ej _ _ rfl) ef) (st_ret ?_)
  exact ev_and (ev_bin (ev_call (us := [.lst [], .lst [], .lst []]) rfl rfl e1) ev_c ((eq_ss _ _).trans (by rw [decide_eq_true rfl]))) (ev_bin (ev_call (us := [.tup [.str [111, 118, 101, 114]], .tup [], .tup []]) rfl rfl e2) ev_c ((eq_ss _ _).trans (by rw [decide_eq_true rfl])))
end S7
end


noncomputable section
namespace S7
open PySem PySem.Spec PyProof.Rows L2 M7
def top (i : Nat) : Stmt := PySem.Challenge.pw_swapwatch_k11_rows_refused.main.body.getD i (.Pass ⟨0, 0, 0, 0⟩)
abbrev s__law_take : Stmt := top 19
abbrev s__law_pick : Stmt := top 20
abbrev s__law_any : Stmt := top 23
abbrev s__law_mixed : Stmt := top 21
abbrev s__law_any_row : Stmt := top 22
abbrev s__law_box : Stmt := top 18
abbrev s__law_are : Stmt := top 25
abbrev s__law_due : Stmt := top 26
abbrev s_is_sequence : Stmt := top 9
abbrev s_is_word_of : Stmt := top 10
abbrev s_are_words_of : Stmt := top 11
abbrev s_is_test : Stmt := top 13
abbrev s_wrong_part : Stmt := top 14
abbrev s_Row___init__ : Stmt := inClass (top 15) 0
abbrev s__law_refused : Stmt := top 24
abbrev s_law : Stmt := top 27
abbrev d__law_take : He5.DefA := ⟨fun K => He.ga K "_law_take", "_law_take", "_law_take", defArgs s__law_take, defBody s__law_take, defScope s__law_take, [], []⟩
abbrev d__law_pick : He5.DefA := ⟨fun K => He.ga K "_law_pick", "_law_pick", "_law_pick", defArgs s__law_pick, defBody s__law_pick, defScope s__law_pick, [], []⟩
abbrev d__law_any : He5.DefA := ⟨fun K => He.ga K "_law_any", "_law_any", "_law_any", defArgs s__law_any, defBody s__law_any, defScope s__law_any, [], []⟩
abbrev d__law_mixed : He5.DefA := ⟨fun K => He.ga K "_law_mixed", "_law_mixed", "_law_mixed", defArgs s__law_mixed, defBody s__law_mixed, defScope s__law_mixed, [], []⟩
abbrev d__law_any_row : He5.DefA := ⟨fun K => He.ga K "_law_any_row", "_law_any_row", "_law_any_row", defArgs s__law_any_row, defBody s__law_any_row, defScope s__law_any_row, [], []⟩
abbrev d__law_box : He5.DefA := ⟨fun K => He.ga K "_law_box", "_law_box", "_law_box", defArgs s__law_box, defBody s__law_box, defScope s__law_box, [], []⟩
abbrev d__law_are : He5.DefA := ⟨fun K => He.ga K "_law_are", "_law_are", "_law_are", defArgs s__law_are, defBody s__law_are, defScope s__law_are, [], []⟩
abbrev d__law_due : He5.DefA := ⟨fun K => He.ga K "_law_due", "_law_due", "_law_due", defArgs s__law_due, defBody s__law_due, defScope s__law_due, [], []⟩
abbrev d_is_sequence : He5.DefA := ⟨fun K => He.ga K "is_sequence", "is_sequence", "is_sequence", defArgs s_is_sequence, defBody s_is_sequence, defScope s_is_sequence, [], []⟩
abbrev d_is_word_of : He5.DefA := ⟨fun K => He.ga K "is_word_of", "is_word_of", "is_word_of", defArgs s_is_word_of, defBody s_is_word_of, defScope s_is_word_of, [], []⟩
abbrev d_are_words_of : He5.DefA := ⟨fun K => He.ga K "are_words_of", "are_words_of", "are_words_of", defArgs s_are_words_of, defBody s_are_words_of, defScope s_are_words_of, [], []⟩
abbrev d_is_test : He5.DefA := ⟨fun K => He.ga K "is_test", "is_test", "is_test", defArgs s_is_test, defBody s_is_test, defScope s_is_test, [], []⟩
abbrev d_wrong_part : He5.DefA := ⟨fun K => He.ga K "wrong_part", "wrong_part", "wrong_part", defArgs s_wrong_part, defBody s_wrong_part, defScope s_wrong_part, [], []⟩
abbrev d_Row___init__ : He5.DefA := ⟨fun K => He.ma K (He.ga K "Row") "__init__", "__init__", "Row.__init__", defArgs s_Row___init__, defBody s_Row___init__, defScope s_Row___init__, [.adr (He.dflAt ("Row", some "__init__") 0), .adr (He.dflAt ("Row", some "__init__") 1)], []⟩
abbrev d__law_refused : He5.DefA := ⟨fun K => He.ga K "_law_refused", "_law_refused", "_law_refused", defArgs s__law_refused, defBody s__law_refused, defScope s__law_refused, [], []⟩
abbrev d_law : He5.DefA := ⟨fun K => He.ga K "law", "law", "law", defArgs s_law, defBody s_law, defScope s_law, [], []⟩
def fn : List He5.DefA := [d__law_take, d__law_pick, d__law_any, d__law_mixed, d__law_any_row, d__law_box, d__law_are, d__law_due, d_is_sequence, d_is_word_of, d_are_words_of, d_is_test, d_wrong_part, d_Row___init__, d__law_refused, d_law]
def ex0 : List (PySem.W.Frag → Bool) := [(He.Fa.free "range").ok,
  (He.Fa.free "len").ok,
  (He.Fa.free "min").ok,
  (He.Fa.free "max").ok,
  (He.Fa.free "list").ok,
  fun K => isiK K (cAk K) (fun t => PySem.W.kitOne K t (.type "list")) l_list,
  (He.Fa.free "isinstance").ok,
  (He.Fa.free "tuple").ok,
  (He.Fa.free "int").ok,
  (He.Fa.free "abs").ok,
  fun K => isiK K (cAk K) (fun t => PySem.W.kitAny K t [.type "list", .type "tuple"]) l_list_tuple_T,
  fun K => isiK K (cAk K) (fun t => PySem.W.kitOne K t (.type "str")) l_str,
  (He.Fa.free "str").ok,
  (He.Fa.glo "InvalidRow").ok,
  (He.Fa.free "super").ok,
  fun K => hxB K (cAk K 1) (nmOf 211597303),
  (He.Fa.glo "SwapError").ok,
  fun K => kitB K (cAk K 1) [He.ga K "SwapError"] true,
  (He.Fa.glo "InvalidText").ok,
  (He.Fa.glo "InvalidWatcher").ok,
  fun K => kitB K (cAk K 1) [He.ga K "InvalidText", He.ga K "InvalidWatcher"] false,
  fun K => fldK K (cAk K) nmOf 243135214 [4],
  fun K => fldK K (cAk K) nmOf 31115244276 [4],
  fun K => fldK K (cAk K) nmOf 31081460452 [4],
  fun K => fldK K (cAk K) nmOf 245248756 [4]]
def ex1 : List (PySem.W.Frag → Bool) := [(He.Fa.glo "NEWS").ok,
  fun K => tupSB K "NEWS" [[97, 119, 97, 121], [103, 111, 110, 101], [104, 101, 114, 101], [108, 101, 102, 116], [109, 97, 100, 101], [111, 118, 101, 114], [116, 111, 117, 99, 104, 101, 100], [119, 114, 105, 116, 116, 101, 110]],
  (He.Fa.free "all").ok,
  (He.Fa.glo "DEEDS").ok,
  fun K => tupSB K "DEEDS" [[114, 101, 97, 100], [115, 99, 97, 110], [108, 111, 111, 107], [104, 111, 108, 100], [108, 101, 116]],
  (He.Fa.glo "TESTS").ok,
  fun K => tupSB K "TESTS" [[116, 104, 101, 114, 101], [104, 111, 108, 100, 115], [115, 97, 109, 101], [103, 111, 111, 100]],
  (He.Fa.glo "_law_take").ok,
  (He.Fa.glo "_law_pick").ok,
  (He.Fa.glo "_law_any").ok,
  (He.Fa.glo "_law_mixed").ok,
  (He.Fa.glo "_law_any_row").ok,
  (He.Fa.glo "_law_box").ok,
  (He.Fa.glo "_law_are").ok,
  (He.Fa.glo "_law_due").ok,
  (He.Fa.glo "is_sequence").ok,
  (He.Fa.glo "is_word_of").ok,
  (He.Fa.glo "are_words_of").ok,
  (He.Fa.glo "is_test").ok,
  (He.Fa.glo "wrong_part").ok,
  (He.Fa.mkr "Row").ok,
  (He.Fa.glo "Row").ok,
  (He.Fa.cls "Row").ok,
  (He.Fa.glo "_law_refused").ok,
  (He.Fa.glo "law").ok]
def ex2 : List (PySem.W.Frag → Bool) := [fun K => tup0B K (He.dflAt ("Row", some "__init__") 0 K),
  fun K => tup0B K (He.dflAt ("Row", some "__init__") 1 K)]
def ex : List (PySem.W.Frag → Bool) := ex0 ++ (ex1 ++ (ex2))
structure Tx (P1 : Program) (w : World) (K : PySem.W.Frag) (mg : Str → Option Value) : Prop where
  n_range : mg "range" = none
  n_len : mg "len" = none
  n_min : mg "min" = none
  n_max : mg "max" = none
  n_list : mg "list" = none
  i_list : IsiOk (PP P1 w K) (fun t => PySem.W.kitOne K t (.type "list")) l_list
  n_isinstance : mg "isinstance" = none
  n_tuple : mg "tuple" = none
  n_int : mg "int" = none
  n_abs : mg "abs" = none
  i_list_tuple_T : IsiOk (PP P1 w K) (fun t => PySem.W.kitAny K t [.type "list", .type "tuple"]) l_list_tuple_T
  i_str : IsiOk (PP P1 w K) (fun t => PySem.W.kitOne K t (.type "str")) l_str
  n_str : mg "str" = none
  g_InvalidRow : mg "InvalidRow" = some (.ref (He.ga K "InvalidRow"))
  n_super : mg "super" = none
  hx_InvalidRow : HX K (cAk K 1) (nmOf 211597303)
  g_SwapError : mg "SwapError" = some (.ref (He.ga K "SwapError"))
  kt_InvalidRow_SwapError : PySem.W.kitAny K (.ref (cAk K 1)) (([He.ga K "SwapError"] : List Addr).map .ref) = some true
  g_InvalidText : mg "InvalidText" = some (.ref (He.ga K "InvalidText"))
  g_InvalidWatcher : mg "InvalidWatcher" = some (.ref (He.ga K "InvalidWatcher"))
  kt_InvalidRow_InvalidText_InvalidWatcher : PySem.W.kitAny K (.ref (cAk K 1)) (([He.ga K "InvalidText", He.ga K "InvalidWatcher"] : List Addr).map .ref) = some false
  f_news : FldF (PP P1 w K) 243135214 [4]
  f_tests : FldF (PP P1 w K) 31115244276 [4]
  f_deeds : FldF (PP P1 w K) 31081460452 [4]
  f_text : FldF (PP P1 w K) 245248756 [4]
  g_NEWS : mg "NEWS" = some (.ref (He.ga K "NEWS"))
  r_NEWS : ∀ ρ W H, RU (PP P1 w K) ρ W H c_NEWS (.ref (He.ga K "NEWS"))
  n_all : mg "all" = none
  g_DEEDS : mg "DEEDS" = some (.ref (He.ga K "DEEDS"))
  r_DEEDS : ∀ ρ W H, RU (PP P1 w K) ρ W H c_DEEDS (.ref (He.ga K "DEEDS"))
  g_TESTS : mg "TESTS" = some (.ref (He.ga K "TESTS"))
  r_TESTS : ∀ ρ W H, RU (PP P1 w K) ρ W H c_TESTS (.ref (He.ga K "TESTS"))
  g__law_take : mg "_law_take" = some (.ref (He.ga K "_law_take"))
  g__law_pick : mg "_law_pick" = some (.ref (He.ga K "_law_pick"))
  g__law_any : mg "_law_any" = some (.ref (He.ga K "_law_any"))
  g__law_mixed : mg "_law_mixed" = some (.ref (He.ga K "_law_mixed"))
  g__law_any_row : mg "_law_any_row" = some (.ref (He.ga K "_law_any_row"))
  g__law_box : mg "_law_box" = some (.ref (He.ga K "_law_box"))
  g__law_are : mg "_law_are" = some (.ref (He.ga K "_law_are"))
  g__law_due : mg "_law_due" = some (.ref (He.ga K "_law_due"))
  g_is_sequence : mg "is_sequence" = some (.ref (He.ga K "is_sequence"))
  g_is_word_of : mg "is_word_of" = some (.ref (He.ga K "is_word_of"))
  g_are_words_of : mg "are_words_of" = some (.ref (He.ga K "are_words_of"))
  g_is_test : mg "is_test" = some (.ref (He.ga K "is_test"))
  g_wrong_part : mg "wrong_part" = some (.ref (He.ga K "wrong_part"))
  mk_Row : Mk K (He.ga K "Row") (He.ma K (He.ga K "Row") "__init__")
  g_Row : mg "Row" = some (.ref (He.ga K "Row"))
  cl_Row : Cls K (He.ga K "Row")
  g__law_refused : mg "_law_refused" = some (.ref (He.ga K "_law_refused"))
  g_law : mg "law" = some (.ref (He.ga K "law"))
  d_Row_0 : ∀ ρ W H, RU (PP P1 w K) ρ W H (.tup []) (.ref (He.dflAt ("Row", some "__init__") 0 K))
  d_Row_1 : ∀ ρ W H, RU (PP P1 w K) ρ W H (.tup []) (.ref (He.dflAt ("Row", some "__init__") 1 K))
def tbs : List He.Tab := []
abbrev sx_InvalidRow : Stmt := inClass (top 2) 0
abbrev dx_InvalidRow : DefX := ⟨"InvalidRow", "word", "__init__", "InvalidRow.__init__", defArgs sx_InvalidRow, defBody sx_InvalidRow, defScope sx_InvalidRow⟩
theorem es_InvalidRow : ExS "word" (defArgs sx_InvalidRow) (defBody sx_InvalidRow) (defScope sx_InvalidRow) := ⟨⟨_, rfl, rfl⟩, rfl, rfl, rfl, by decide +kernel, by decide +kernel, rfl, rfl, rfl, rfl, by decide, by decide, by decide, ⟨_, _, _, _, _, _, _, _, _, _, rfl, fun qual L f cd cc => ⟨⟨_, rfl⟩, rfl, rfl, rfl⟩⟩⟩
def xs : List DefX := [dx_InvalidRow]
theorem tx {P1 : Program} {w : World} {K : PySem.W.Frag} {mg : Str → Option Value} {h : Heap} (X : K.In h) (G : h.Ns mainGlobals mg) (c : SaysX fn ex tbs P1.main.file xs w K) : Tx P1 w K mg := {
  n_range := He.free_ok X G (c.ck 0),
  n_len := He.free_ok X G (c.ck 1),
  n_min := He.free_ok X G (c.ck 2),
  n_max := He.free_ok X G (c.ck 3),
  n_list := He.free_ok X G (c.ck 4),
  i_list := isiK_ok (P := PP P1 w K) (c.ck 5),
  n_isinstance := He.free_ok X G (c.ck 6),
  n_tuple := He.free_ok X G (c.ck 7),
  n_int := He.free_ok X G (c.ck 8),
  n_abs := He.free_ok X G (c.ck 9),
  i_list_tuple_T := isiK_ok (P := PP P1 w K) (c.ck 10),
  i_str := isiK_ok (P := PP P1 w K) (c.ck 11),
  n_str := He.free_ok X G (c.ck 12),
  g_InvalidRow := He.glo_ok X G (c.ck 13),
  n_super := He.free_ok X G (c.ck 14),
  hx_InvalidRow := hxB_ok (c.ck 15),
  g_SwapError := He.glo_ok X G (c.ck 16),
  kt_InvalidRow_SwapError := of_decide_eq_true (c.ck 17),
  g_InvalidText := He.glo_ok X G (c.ck 18),
  g_InvalidWatcher := He.glo_ok X G (c.ck 19),
  kt_InvalidRow_InvalidText_InvalidWatcher := of_decide_eq_true (c.ck 20),
  f_news := fldK_ok (P := PP P1 w K) (c.ck 21),
  f_tests := fldK_ok (P := PP P1 w K) (c.ck 22),
  f_deeds := fldK_ok (P := PP P1 w K) (c.ck 23),
  f_text := fldK_ok (P := PP P1 w K) (c.ck 24),
  g_NEWS := He.glo_ok X G (c.ck 25),
  r_NEWS := tupSB_ok (P := PP P1 w K) (c.ck 26),
  n_all := He.free_ok X G (c.ck 27),
  g_DEEDS := He.glo_ok X G (c.ck 28),
  r_DEEDS := tupSB_ok (P := PP P1 w K) (c.ck 29),
  g_TESTS := He.glo_ok X G (c.ck 30),
  r_TESTS := tupSB_ok (P := PP P1 w K) (c.ck 31),
  g__law_take := He.glo_ok X G (c.ck 32),
  g__law_pick := He.glo_ok X G (c.ck 33),
  g__law_any := He.glo_ok X G (c.ck 34),
  g__law_mixed := He.glo_ok X G (c.ck 35),
  g__law_any_row := He.glo_ok X G (c.ck 36),
  g__law_box := He.glo_ok X G (c.ck 37),
  g__law_are := He.glo_ok X G (c.ck 38),
  g__law_due := He.glo_ok X G (c.ck 39),
  g_is_sequence := He.glo_ok X G (c.ck 40),
  g_is_word_of := He.glo_ok X G (c.ck 41),
  g_are_words_of := He.glo_ok X G (c.ck 42),
  g_is_test := He.glo_ok X G (c.ck 43),
  g_wrong_part := He.glo_ok X G (c.ck 44),
  mk_Row := He.mkr_ok (c.ck 45),
  g_Row := He.glo_ok X G (c.ck 46),
  cl_Row := He.cls_ok (c.ck 47),
  g__law_refused := He.glo_ok X G (c.ck 48),
  g_law := He.glo_ok X G (c.ck 49),
  d_Row_0 := tup0_ok (P := PP P1 w K) (c.ck 50),
  d_Row_1 := tup0_ok (P := PP P1 w K) (c.ck 51) }
section
variable {P1 : Program} {w : World} {K : PySem.W.Frag} {mg : Str → Option Value} {base : Heap}
theorem ok__law_take (T : Tx P1 w K mg) {fd : FuncData} (FD : FunD K "_law_take" "_law_take" (defArgs s__law_take) (defBody s__law_take) (defScope s__law_take) [] [] (He.ga K "_law_take") fd)  : FnOk P1 w K mg base (L2.CX P1 w) 2 (He.ga K "_law_take") fd ["_law_box_here", "_law_many"] (spM (PP P1 w K) 2 f__law_take) := by
  have sc : FnScope ["_law_box_here", "_law_many", "_law_digit", "_law_raw", "_law_wide"] ["_law_box_here", "_law_many"] (defScope s__law_take) := ⟨rfl, rfl, rfl, by decide +kernel, rfl, by decide +kernel, by decide +kernel⟩
  refine fnD FD sc (fun cdv A outer s H E hr => ?_)
  show PSs _ _ (tS (PP P1 w K) E b__law_take)
  exact (tS_cons (tS_if (tT_cmp (om_gt) (tM_ixA (Room.units hr) rfl rfl rfl (tM_var (pv 0)) (tM_c pe_int fun _ _ _ => .int _) (fun _ _ => rfl)) (tM_c pe_int fun _ _ _ => .int _) (nomark _)) (tS_cons (tS_set (i := 2) sc.nd rfl (by first | exact Or.inl rfl | exact Or.inr rfl) (tM_bin (oa_mod) (tM_callTy (cr_int) rfl T.n_int rfl (tMA_cons (tM_ixA (Room.units hr) rfl rfl rfl (tM_var (pv 0)) (tM_c pe_int fun _ _ _ => .int _) (fun _ _ => rfl)) tMA_nil rfl) (by decide) (by decide) rfl rfl) (tM_var (pv 1))) rfl (by first | exact Or.inl rfl | exact Or.inr rfl))
  (tS_cons (tS_asg (tM_bin (oa_fdiv) (tM_ixA (Room.units hr) rfl rfl rfl (tM_var (pv 0)) (tM_c pe_int fun _ _ _ => .int _) (fun _ _ => rfl)) (tM_var (pv 1))) (tT_sub (E := E) (Room.units hr) rfl rfl rfl (tM_var (pv 0)) (tM_c pe_int fun _ _ _ => .int _) fun _ => rfl) rfl rfl rfl)
  (tS_one (tS_ret (tM_var (pv 2)))))) tS_nil)
  (tS_cons (tS_asg (tM_bin (oa_add rfl) (tM_ixA (Room.units hr) rfl rfl rfl (tM_var (pv 0)) (tM_c pe_int fun _ _ _ => .int _) (fun _ _ => rfl)) (tM_c pe_int fun _ _ _ => .int _)) (tT_sub (E := E) (Room.units hr) rfl rfl rfl (tM_var (pv 0)) (tM_c pe_int fun _ _ _ => .int _) fun _ => rfl) rfl rfl rfl)
  (tS_cons (tS_set (i := 3) sc.nd rfl (by first | exact Or.inl rfl | exact Or.inr rfl) (tM_bin (oa_mod) (tM_callTy (cr_int) rfl T.n_int rfl (tMA_cons (tM_bin (ob_mul rfl) (tM_bin (oa_add rfl) (tM_ixA (Room.units hr) rfl rfl rfl (tM_var (pv 0)) (tM_c pe_int fun _ _ _ => .int _) (fun _ _ => rfl)) (tM_bin (ob_mul rfl) (tM_c pe_int fun _ _ _ => .int _) (tM_ixA (Room.units hr) rfl rfl rfl (tM_var (pv 0)) (tM_c pe_int fun _ _ _ => .int _) (fun _ _ => rfl)))) (tM_c pe_int fun _ _ _ => .int _)) tMA_nil rfl) (by decide) (by decide) rfl rfl) (tM_c pe_int fun _ _ _ => .int _)) rfl (by first | exact Or.inl rfl | exact Or.inr rfl))
  (tS_cons (tS_asg (tM_bin (oa_add rfl) (tM_bin (oa_mod) (tM_callTy (cr_int) rfl T.n_int rfl (tMA_cons (tM_bin (oa_add rfl) (tM_bin (ob_mul rfl) (tM_var (pv 3)) (tM_c pe_int fun _ _ _ => .int _)) (tM_c pe_int fun _ _ _ => .int _)) tMA_nil rfl) (by decide) (by decide) rfl rfl) (tM_c pe_int fun _ _ _ => .int _)) (tM_c pe_int fun _ _ _ => .int _)) (tT_sub (E := E) (Room.units hr) rfl rfl rfl (tM_var (pv 0)) (tM_c pe_int fun _ _ _ => .int _) fun _ => rfl) rfl rfl rfl)
  (tS_cons (tS_if (tT_cmp (om_lt) (tM_var (pv 1)) (tM_bin (oa_pow) (tM_c pe_int fun _ _ _ => .int _) (tM_c pe_int fun _ _ _ => .int _)) (nomark _)) (tS_one (tS_ret (tM_bin (oa_mod) (tM_callTy (cr_int) rfl T.n_int rfl (tMA_cons (tM_bin (oa_fdiv) (tM_bin (oa_add rfl) (tM_bin (ob_mul rfl) (tM_var (pv 3)) (tM_c pe_int fun _ _ _ => .int _)) (tM_ixA (Room.units hr) rfl rfl rfl (tM_var (pv 0)) (tM_c pe_int fun _ _ _ => .int _) (fun _ _ => rfl))) (tM_c pe_int fun _ _ _ => .int _)) tMA_nil rfl) (by decide) (by decide) rfl rfl) (tM_var (pv 1))))) tS_nil)
  (tS_cons (tS_set (i := 4) sc.nd rfl (by first | exact Or.inl rfl | exact Or.inr rfl) (tM_bin (ob_mul rfl) (tM_bin (oa_add rfl) (tM_bin (ob_mul rfl) (tM_var (pv 3)) (tM_c pe_int fun _ _ _ => .int _)) (tM_ixA (Room.units hr) rfl rfl rfl (tM_var (pv 0)) (tM_c pe_int fun _ _ _ => .int _) (fun _ _ => rfl))) (tM_bin (oa_pow) (tM_c pe_int fun _ _ _ => .int _) (tM_c pe_int fun _ _ _ => .int _))) rfl (by first | exact Or.inl rfl | exact Or.inr rfl))
  (tS_one (tS_ret (tM_bin (oa_mod) (tM_callTy (cr_int) rfl T.n_int rfl (tMA_cons (tM_bin (oa_add rfl) (tM_bin (oa_add rfl) (tM_var (pv 4)) (tM_bin (ob_mul rfl) (tM_bin (oa_pow) (tM_ixA (Room.units hr) rfl rfl rfl (tM_var (pv 0)) (tM_c pe_int fun _ _ _ => .int _) (fun _ _ => rfl)) (tM_c pe_int fun _ _ _ => .int _)) (tM_c pe_int fun _ _ _ => .int _))) (tM_var (pv 3))) tMA_nil rfl) (by decide) (by decide) rfl rfl) (tM_var (pv 1)))))))))))
theorem g__law_take (T : Tx P1 w K mg) (c : ∃ fd, FunD K "_law_take" "_law_take" (defArgs s__law_take) (defBody s__law_take) (defScope s__law_take) [] [] (He.ga K "_law_take") fd)  : GF P1 w K mg base (PP P1 w K) "_law_take" 2 2 f__law_take [] := by
  obtain ⟨fd, FD⟩ := c
  have hb : Binds K fd ["_law_box_here", "_law_many"] [] := FD.bindsN (fun _ _ _ _ _ _ us hl => match us, hl with | [_, _], _ => rfl)
  have hv : Vals [] [] := .nil
  have hD : Defs (PP P1 w K) [] [] := Defs.nil
  exact ⟨⟨_, fd, _, [], [], ok__law_take T FD , T.g__law_take, FD.kp, hb, hv, hD⟩⟩
theorem ok__law_pick (T : Tx P1 w K mg) {fd : FuncData} (FD : FunD K "_law_pick" "_law_pick" (defArgs s__law_pick) (defBody s__law_pick) (defScope s__law_pick) [] [] (He.ga K "_law_pick") fd) (G__law_take : GF P1 w K mg base (PP P1 w K) "_law_take" 2 2 f__law_take []) : FnOk P1 w K mg base (L2.CX P1 w) 3 (He.ga K "_law_pick") fd ["_law_box_here", "_law_items"] (spM (PP P1 w K) 2 f__law_pick) := by
  have sc : FnScope ["_law_box_here", "_law_items"] ["_law_box_here", "_law_items"] (defScope s__law_pick) := ⟨rfl, rfl, rfl, by decide +kernel, rfl, by decide +kernel, by decide +kernel⟩
  refine fnD FD sc (fun cdv A outer s H E hr => ?_)
  show PSs _ _ (tS (PP P1 w K) E b__law_pick)
  exact (tS_one (tS_ret (tM_ixA (Room.units hr) rfl rfl rfl (tM_var (pv 1)) (tM_gf G__law_take (hr.mono (by decide)) pass_own rfl (tMA_cons (tM_var (pv 0)) (tMA_cons (tM_callB (cr_lenA rfl) rfl T.n_len rfl (tMA_cons (tM_var (pv 1)) tMA_nil rfl) (by decide) (by decide) rfl rfl) tMA_nil rfl) rfl) (by decide) rfl rfl) (fun _ _ => rfl))))
theorem g__law_pick (T : Tx P1 w K mg) (c : ∃ fd, FunD K "_law_pick" "_law_pick" (defArgs s__law_pick) (defBody s__law_pick) (defScope s__law_pick) [] [] (He.ga K "_law_pick") fd) (G__law_take : GF P1 w K mg base (PP P1 w K) "_law_take" 2 2 f__law_take []) : GF P1 w K mg base (PP P1 w K) "_law_pick" 3 2 f__law_pick [] := by
  obtain ⟨fd, FD⟩ := c
  have hb : Binds K fd ["_law_box_here", "_law_items"] [] := FD.bindsN (fun _ _ _ _ _ _ us hl => match us, hl with | [_, _], _ => rfl)
  have hv : Vals [] [] := .nil
  have hD : Defs (PP P1 w K) [] [] := Defs.nil
  exact ⟨⟨_, fd, _, [], [], ok__law_pick T FD G__law_take, T.g__law_pick, FD.kp, hb, hv, hD⟩⟩
theorem ok__law_any {k : Nat} {f_self : FM} (hk : 3 ≤ k) (T : Tx P1 w K mg) {fd : FuncData} (FD : FunD K "_law_any" "_law_any" (defArgs s__law_any) (defBody s__law_any) (defScope s__law_any) [] [] (He.ga K "_law_any") fd) (G__law_pick : GF P1 w K mg base (PP P1 w K) "_law_pick" 3 2 f__law_pick []) (G__law_take : GF P1 w K mg base (PP P1 w K) "_law_take" 2 2 f__law_take []) (G__law_any : GF P1 w K mg base (PP P1 w K) "_law_any" k 2 f_self []) : FnOk P1 w K mg base (L2.CX P1 w) (k + 1) (He.ga K "_law_any") fd ["_law_box_here", "_law_deep"] (spM (PP P1 w K) 2 (runF 5 2 (b__law_any f_self))) := by
  have sc : FnScope ["_law_box_here", "_law_deep", "_law_odd", "_law_some", "_law_turn"] ["_law_box_here", "_law_deep"] (defScope s__law_any) := ⟨rfl, rfl, rfl, by decide +kernel, rfl, by decide +kernel, by decide +kernel⟩
  refine fnD FD sc (fun cdv A outer s H E hr => ?_)
  show PSs _ _ (tS (PP P1 w K) E (b__law_any f_self))
  exact (tS_cons (tS_set (i := 2) sc.nd rfl (by first | exact Or.inl rfl | exact Or.inr rfl) (tM_lst (tMA_cons (tM_c pe_non fun _ _ _ => .non) (tMA_cons (tM_c pe_bl fun _ _ _ => .bl true) (tMA_cons (tM_c pe_bl fun _ _ _ => .bl false) (tMA_cons (tM_c pe_int fun _ _ _ => .int _) (tMA_cons (tM_c pe_int fun _ _ _ => .int _) (tMA_cons (tM_neg (tM_c pe_int fun _ _ _ => .int _)) (tMA_cons (tM_bin (oa_pow) (tM_c pe_int fun _ _ _ => .int _) (tM_c pe_int fun _ _ _ => .int _)) (tMA_cons (tM_str []) (tMA_cons (tM_str [109, 97, 105, 110]) (tMA_cons (tM_str [109, 97, 107, 101]) (tMA_cons (tM_str [109, 97, 107, 101, 32, 109, 97, 105, 110]) (tMA_cons (tM_str [104, 101, 114, 101]) (tMA_cons (tM_str [114, 101, 97, 100]) (tMA_cons (tM_str [108, 111, 99, 107]) (tMA_cons (tM_str [115, 116, 101, 112, 32, 48]) tMA_nil rfl) rfl) rfl) rfl) rfl) rfl) rfl) rfl) rfl) rfl) rfl) rfl) rfl) rfl) rfl)) rfl (by first | exact Or.inl rfl | exact Or.inr rfl))
  (tS_cons (tS_if (PW.pt (tT_or (tT_cmp (om_eq rfl (Room.units hr)) (tM_var (pv 1)) (tM_c pe_int fun _ _ _ => .int _) (nomark _)) (pw_or1 (tT_cmp (om_gt) (tM_gf G__law_take (hr.mono (by omega)) pass_own rfl (tMA_cons (tM_var (pv 0)) (tMA_cons (tM_c pe_int fun _ _ _ => .int _) tMA_nil rfl) rfl) (by decide) rfl rfl) (tM_c pe_int fun _ _ _ => .int _) (nomark _))))) (tS_one (tS_ret (tM_gf G__law_pick (hr.mono (by omega)) pass_own rfl (tMA_cons (tM_var (pv 0)) (tMA_cons (tM_var (pv 2)) tMA_nil rfl) rfl) (by decide) rfl rfl))) tS_nil)
  (tS_cons (tS_setA (tA_lc (own := [("_law_turn", 4)]) rfl sc.nd (i := 3) rfl rfl rfl (tI_rng1 rfl T.n_range (tM_gf G__law_take (hr.mono (by omega)) pass_own rfl (tMA_cons (tM_var (pv 0)) (tMA_cons (tM_c pe_int fun _ _ _ => .int _) tMA_nil rfl) rfl) (by decide) rfl rfl) rfl) (blkOk_by (by kernel_rfl)) (by decide) (fun _ _ _ _ _ => (tG_name (i := 4) sc.nd rfl (by first | exact Or.inl rfl | exact Or.inr rfl) (by first | exact Or.inl rfl | exact Or.inr rfl))) (fun _ _ _ _ _ => pts_yes) (fun _ _ _ _ _ => (tM_gf G__law_any (hr.mono (by omega)) passNo rfl (tMA_cons (tM_var (pv 0)) (tMA_cons (tM_bin (oa_sub) (tM_var (pv 1)) (tM_c pe_int fun _ _ _ => .int _)) tMA_nil rfl) rfl) (by decide) rfl rfl)) (fun _ => rfl)))
  (tS_one (tS_ret (tM_if (tT_cmp (om_eq rfl (Room.units hr)) (tM_gf G__law_take (hr.mono (by omega)) pass_own rfl (tMA_cons (tM_var (pv 0)) (tMA_cons (tM_c pe_int fun _ _ _ => .int _) tMA_nil rfl) rfl) (by decide) rfl rfl) (tM_c pe_int fun _ _ _ => .int _) (nomark _)) (tM_callTy (cr_tuple rfl) rfl T.n_tuple rfl (tMA_cons (tM_var (pv 3)) tMA_nil rfl) (by decide) (by decide) rfl rfl) (tM_var (pv 3))))))))
theorem g__law_any (T : Tx P1 w K mg) (c : ∃ fd, FunD K "_law_any" "_law_any" (defArgs s__law_any) (defBody s__law_any) (defScope s__law_any) [] [] (He.ga K "_law_any") fd) (G__law_pick : GF P1 w K mg base (PP P1 w K) "_law_pick" 3 2 f__law_pick []) (G__law_take : GF P1 w K mg base (PP P1 w K) "_law_take" 2 2 f__law_take []) : GF P1 w K mg base (PP P1 w K) "_law_any" 11 2 f__law_any [] := by
  obtain ⟨fd, FD⟩ := c
  have hb : Binds K fd ["_law_box_here", "_law_deep"] [] := FD.bindsN (fun _ _ _ _ _ _ us hl => match us, hl with | [_, _], _ => rfl)
  have st : ∀ n : Nat, GF P1 w K mg base (PP P1 w K) "_law_any" (3 + n) 2 (n__law_any n) [] := by
    intro n
    induction n with
    | zero => exact ⟨⟨_, fd, _, [], [], fnBad (ps := ["_law_box_here", "_law_deep"]) rfl, T.g__law_any, FD.kp, hb, .nil, Defs.nil⟩⟩
    | succ n ih => exact ⟨⟨_, fd, _, [], [], ok__law_any (Nat.le_add_right _ _) T FD G__law_pick G__law_take ih, T.g__law_any, FD.kp, hb, .nil, Defs.nil⟩⟩
  exact st 8
theorem ok__law_mixed (T : Tx P1 w K mg) {fd : FuncData} (FD : FunD K "_law_mixed" "_law_mixed" (defArgs s__law_mixed) (defBody s__law_mixed) (defScope s__law_mixed) [] [] (He.ga K "_law_mixed") fd) (G__law_take : GF P1 w K mg base (PP P1 w K) "_law_take" 2 2 f__law_take []) : FnOk P1 w K mg base (L2.CX P1 w) 3 (He.ga K "_law_mixed") fd ["_law_box_here", "_law_items"] (spM (PP P1 w K) 2 f__law_mixed) := by
  have sc : FnScope ["_law_box_here", "_law_items", "_law_left", "_law_found", "_law_turn"] ["_law_box_here", "_law_items"] (defScope s__law_mixed) := ⟨rfl, rfl, rfl, by decide +kernel, rfl, by decide +kernel, by decide +kernel⟩
  refine fnD FD sc (fun cdv A outer s H E hr => ?_)
  show PSs _ _ (tS (PP P1 w K) E b__law_mixed)
  exact (tS_cons (tS_par rfl sc.nd (i := 2) (j := 3) rfl rfl (by decide) rfl rfl (tMA_cons (tM_hp (tC_list rfl rfl T.n_list rfl (tM_var (pv 1)) rfl rfl)) (tMA_cons (tM_hp (tC_lst tMA_nil)) tMA_nil rfl) rfl) rfl rfl)
  (tS_cons (tS_for loops_own rfl (tI_rng1 rfl T.n_range (tM_callB (cr_lenA rfl) rfl T.n_len rfl (tMA_cons (tM_var (pv 2)) tMA_nil rfl) (by decide) (by decide) rfl rfl) rfl) (tG_name (i := 4) sc.nd rfl (by first | exact Or.inl rfl | exact Or.inr rfl) (by first | exact Or.inl rfl | exact Or.inr rfl)) (tS_one (tS_expr (tM_appH (tM_var (pv 3)) (tM_popAt (tM_var (pv 2)) (tM_gf G__law_take (hr.mono (by decide)) pass_own rfl (tMA_cons (tM_var (pv 0)) (tMA_cons (tM_callB (cr_lenA rfl) rfl T.n_len rfl (tMA_cons (tM_var (pv 2)) tMA_nil rfl) (by decide) (by decide) rfl rfl) tMA_nil rfl) rfl) (by decide) rfl rfl) rfl rfl rfl rfl rfl) rfl rfl rfl rfl rfl) rfl)) fun _ => rfl)
  (tS_one (tS_ret (tM_var (pv 3))))))
theorem g__law_mixed (T : Tx P1 w K mg) (c : ∃ fd, FunD K "_law_mixed" "_law_mixed" (defArgs s__law_mixed) (defBody s__law_mixed) (defScope s__law_mixed) [] [] (He.ga K "_law_mixed") fd) (G__law_take : GF P1 w K mg base (PP P1 w K) "_law_take" 2 2 f__law_take []) : GF P1 w K mg base (PP P1 w K) "_law_mixed" 3 2 f__law_mixed [] := by
  obtain ⟨fd, FD⟩ := c
  have hb : Binds K fd ["_law_box_here", "_law_items"] [] := FD.bindsN (fun _ _ _ _ _ _ us hl => match us, hl with | [_, _], _ => rfl)
  have hv : Vals [] [] := .nil
  have hD : Defs (PP P1 w K) [] [] := Defs.nil
  exact ⟨⟨_, fd, _, [], [], ok__law_mixed T FD G__law_take, T.g__law_mixed, FD.kp, hb, hv, hD⟩⟩
theorem ok__law_any_row (T : Tx P1 w K mg) {fd : FuncData} (FD : FunD K "_law_any_row" "_law_any_row" (defArgs s__law_any_row) (defBody s__law_any_row) (defScope s__law_any_row) [] [] (He.ga K "_law_any_row") fd) (G__law_mixed : GF P1 w K mg base (PP P1 w K) "_law_mixed" 3 2 f__law_mixed []) (G__law_pick : GF P1 w K mg base (PP P1 w K) "_law_pick" 3 2 f__law_pick []) (G__law_take : GF P1 w K mg base (PP P1 w K) "_law_take" 2 2 f__law_take []) : FnOk P1 w K mg base (L2.CX P1 w) 4 (He.ga K "_law_any_row") fd ["_law_box_here"] (spM (PP P1 w K) 1 f__law_any_row) := by
  have sc : FnScope ["_law_box_here", "_law_words", "_law_tests", "_law_deeds", "_law_some", "_law_test"] ["_law_box_here"] (defScope s__law_any_row) := ⟨rfl, rfl, rfl, by decide +kernel, rfl, by decide +kernel, by decide +kernel⟩
  refine fnD FD sc (fun cdv A outer s H E hr => ?_)
  show PSs _ _ (tS (PP P1 w K) E b__law_any_row)
  exact (tS_cons (tS_set (i := 1) sc.nd rfl (by first | exact Or.inl rfl | exact Or.inr rfl) (tM_lst (tMA_cons (tM_str [97, 119, 97, 121]) (tMA_cons (tM_str [103, 111, 110, 101]) (tMA_cons (tM_str [104, 101, 114, 101]) (tMA_cons (tM_str [108, 101, 102, 116]) (tMA_cons (tM_str [109, 97, 100, 101]) (tMA_cons (tM_str [111, 118, 101, 114]) (tMA_cons (tM_str [116, 111, 117, 99, 104, 101, 100]) (tMA_cons (tM_str [119, 114, 105, 116, 116, 101, 110]) tMA_nil rfl) rfl) rfl) rfl) rfl) rfl) rfl) rfl)) rfl (by first | exact Or.inl rfl | exact Or.inr rfl))
  (tS_cons (tS_setA (tA_lc (own := [("_law_test", 5)]) rfl sc.nd (i := 2) rfl rfl rfl (tI_seq rfl (tM_gf G__law_mixed (hr.mono (by decide)) pass_own rfl (tMA_cons (tM_var (pv 0)) (tMA_cons (tM_lst (tMA_cons (tM_str [116, 104, 101, 114, 101]) (tMA_cons (tM_str [104, 111, 108, 100, 115]) (tMA_cons (tM_str [115, 97, 109, 101]) (tMA_cons (tM_str [103, 111, 111, 100]) tMA_nil rfl) rfl) rfl) rfl)) tMA_nil rfl) rfl) (by decide) rfl rfl)) (blkOk_by (by kernel_rfl)) (by decide) (fun _ _ _ _ _ => (tG_name (i := 5) sc.nd rfl (by first | exact Or.inl rfl | exact Or.inr rfl) (by first | exact Or.inl rfl | exact Or.inr rfl))) (fun _ _ _ _ _ => pts_yes) (fun _ _ _ _ _ => (tM_bin (oa_add rfl) (tM_gf G__law_pick (hr.mono (by decide)) passNo rfl (tMA_cons (tM_var (pv 0)) (tMA_cons (tM_lst (tMA_cons (tM_str []) (tMA_cons (tM_str [110, 111, 116, 32]) tMA_nil rfl) rfl)) tMA_nil rfl) rfl) (by decide) rfl rfl) (tM_var (pv 5)))) (fun _ => rfl)))
  (tS_cons (tS_set (i := 3) sc.nd rfl (by first | exact Or.inl rfl | exact Or.inr rfl) (tM_gf G__law_mixed (hr.mono (by decide)) pass_own rfl (tMA_cons (tM_var (pv 0)) (tMA_cons (tM_lst (tMA_cons (tM_str [114, 101, 97, 100]) (tMA_cons (tM_str [115, 99, 97, 110]) (tMA_cons (tM_str [108, 111, 111, 107]) (tMA_cons (tM_str [104, 111, 108, 100]) (tMA_cons (tM_str [108, 101, 116]) tMA_nil rfl) rfl) rfl) rfl) rfl)) tMA_nil rfl) rfl) (by decide) rfl rfl) rfl (by first | exact Or.inl rfl | exact Or.inr rfl))
  (tS_cons (tS_set (i := 4) sc.nd rfl (by first | exact Or.inl rfl | exact Or.inr rfl) (tM_sl rfl (tM_gf G__law_mixed (hr.mono (by decide)) pass_own rfl (tMA_cons (tM_var (pv 0)) (tMA_cons (tM_var (pv 1)) tMA_nil rfl) rfl) (by decide) rfl rfl) po_n (po_s (tM_bin (oa_add rfl) (tM_c pe_int fun _ _ _ => .int _) (tM_gf G__law_take (hr.mono (by decide)) pass_own rfl (tMA_cons (tM_var (pv 0)) (tMA_cons (tM_c pe_int fun _ _ _ => .int _) tMA_nil rfl) rfl) (by decide) rfl rfl)))) rfl (by first | exact Or.inl rfl | exact Or.inr rfl))
  (tS_one (tS_ret (tM_tup (tMA_cons (tM_callTy (cr_tuple rfl) rfl T.n_tuple rfl (tMA_cons (tM_var (pv 4)) tMA_nil rfl) (by decide) (by decide) rfl rfl) (tMA_cons (tM_callTy (cr_tuple rfl) rfl T.n_tuple rfl (tMA_cons (tM_sl rfl (tM_var (pv 2)) po_n (po_s (tM_gf G__law_take (hr.mono (by decide)) pass_own rfl (tMA_cons (tM_var (pv 0)) (tMA_cons (tM_c pe_int fun _ _ _ => .int _) tMA_nil rfl) rfl) (by decide) rfl rfl))) tMA_nil rfl) (by decide) (by decide) rfl rfl) (tMA_cons (tM_callTy (cr_tuple rfl) rfl T.n_tuple rfl (tMA_cons (tM_sl rfl (tM_var (pv 3)) po_n (po_s (tM_gf G__law_take (hr.mono (by decide)) pass_own rfl (tMA_cons (tM_var (pv 0)) (tMA_cons (tM_c pe_int fun _ _ _ => .int _) tMA_nil rfl) rfl) (by decide) rfl rfl))) tMA_nil rfl) (by decide) (by decide) rfl rfl) tMA_nil rfl) rfl) rfl))))))))
theorem g__law_any_row (T : Tx P1 w K mg) (c : ∃ fd, FunD K "_law_any_row" "_law_any_row" (defArgs s__law_any_row) (defBody s__law_any_row) (defScope s__law_any_row) [] [] (He.ga K "_law_any_row") fd) (G__law_mixed : GF P1 w K mg base (PP P1 w K) "_law_mixed" 3 2 f__law_mixed []) (G__law_pick : GF P1 w K mg base (PP P1 w K) "_law_pick" 3 2 f__law_pick []) (G__law_take : GF P1 w K mg base (PP P1 w K) "_law_take" 2 2 f__law_take []) : GF P1 w K mg base (PP P1 w K) "_law_any_row" 4 1 f__law_any_row [] := by
  obtain ⟨fd, FD⟩ := c
  have hb : Binds K fd ["_law_box_here"] [] := FD.bindsN (fun _ _ _ _ _ _ us hl => match us, hl with | [_], _ => rfl)
  have hv : Vals [] [] := .nil
  have hD : Defs (PP P1 w K) [] [] := Defs.nil
  exact ⟨⟨_, fd, _, [], [], ok__law_any_row T FD G__law_mixed G__law_pick G__law_take, T.g__law_any_row, FD.kp, hb, hv, hD⟩⟩
theorem ok__law_box (T : Tx P1 w K mg) {fd : FuncData} (FD : FunD K "_law_box" "_law_box" (defArgs s__law_box) (defBody s__law_box) (defScope s__law_box) [] [] (He.ga K "_law_box") fd)  : FnOk P1 w K mg base (L2.CX P1 w) 2 (He.ga K "_law_box") fd ["_law_script", "_law_k", "_law_own"] (spM (PP P1 w K) 3 f__law_box) := by
  have sc : FnScope ["_law_script", "_law_k", "_law_own", "_law_cell", "_law_seed"] ["_law_script", "_law_k", "_law_own"] (defScope s__law_box) := ⟨rfl, rfl, rfl, by decide +kernel, rfl, by decide +kernel, by decide +kernel⟩
  refine fnD FD sc (fun cdv A outer s H E hr => ?_)
  show PSs _ _ (tS (PP P1 w K) E b__law_box)
  exact (tS_cons (tS_set (i := 3) sc.nd rfl (by first | exact Or.inl rfl | exact Or.inr rfl) (tM_bin (oa_add rfl) (tM_bin (oa_add rfl) (tM_bin (ob_mul rfl) (tM_c pe_int fun _ _ _ => .int _) (tM_var (pv 1))) (tM_bin (ob_mul rfl) (tM_c pe_int fun _ _ _ => .int _) (tM_var (pv 2)))) (tM_c pe_int fun _ _ _ => .int _)) rfl (by first | exact Or.inl rfl | exact Or.inr rfl))
  (tS_cons (tS_if (tT_cmp (om_lt) (tM_var (pv 1)) (tM_callB (cr_lenA rfl) rfl T.n_len rfl (tMA_cons (tM_var (pv 0)) tMA_nil rfl) (by decide) (by decide) rfl rfl) (nomark _)) (tS_one (tS_set (i := 3) sc.nd rfl (by first | exact Or.inl rfl | exact Or.inr rfl) (tM_callB (cr_abs) rfl T.n_abs rfl (tMA_cons (tM_ixA (Room.units hr) rfl rfl rfl (tM_var (pv 0)) (tM_var (pv 1)) (fun _ _ => rfl)) tMA_nil rfl) (by decide) (by decide) rfl rfl) rfl (by first | exact Or.inl rfl | exact Or.inr rfl))) (tS_one (tS_if (tT_cmp (om_gt) (tM_callB (cr_lenA rfl) rfl T.n_len rfl (tMA_cons (tM_var (pv 0)) tMA_nil rfl) (by decide) (by decide) rfl rfl) (tM_c pe_int fun _ _ _ => .int _) (nomark _)) (tS_one (tS_set (i := 3) sc.nd rfl (by first | exact Or.inl rfl | exact Or.inr rfl) (tM_bin (oa_add rfl) (tM_var (pv 3)) (tM_bin (ob_mul rfl) (tM_bin (oa_mod) (tM_callTy (cr_int) rfl T.n_int rfl (tMA_cons (tM_callB (cr_abs) rfl T.n_abs rfl (tMA_cons (tM_ixA (Room.units hr) rfl rfl rfl (tM_var (pv 0)) (tM_bin (oa_mod) (tM_callTy (cr_int) rfl T.n_int rfl (tMA_cons (tM_var (pv 1)) tMA_nil rfl) (by decide) (by decide) rfl rfl) (tM_callB (cr_lenA rfl) rfl T.n_len rfl (tMA_cons (tM_var (pv 0)) tMA_nil rfl) (by decide) (by decide) rfl rfl)) (fun _ _ => rfl)) tMA_nil rfl) (by decide) (by decide) rfl rfl) tMA_nil rfl) (by decide) (by decide) rfl rfl) (tM_c pe_int fun _ _ _ => .int _)) (tM_c pe_int fun _ _ _ => .int _))) rfl (by first | exact Or.inl rfl | exact Or.inr rfl))) tS_nil)))
  (tS_cons (tS_set (i := 4) sc.nd rfl (by first | exact Or.inl rfl | exact Or.inr rfl) (tM_bin (oa_add rfl) (tM_bin (oa_mod) (tM_callTy (cr_int) rfl T.n_int rfl (tMA_cons (tM_bin (oa_add rfl) (tM_bin (ob_mul rfl) (tM_bin (oa_mod) (tM_callTy (cr_int) rfl T.n_int rfl (tMA_cons (tM_var (pv 3)) tMA_nil rfl) (by decide) (by decide) rfl rfl) (tM_c pe_int fun _ _ _ => .int _)) (tM_c pe_int fun _ _ _ => .int _)) (tM_bin (ob_mul rfl) (tM_c pe_int fun _ _ _ => .int _) (tM_bin (oa_add rfl) (tM_var (pv 1)) (tM_bin (ob_mul rfl) (tM_c pe_int fun _ _ _ => .int _) (tM_var (pv 2)))))) tMA_nil rfl) (by decide) (by decide) rfl rfl) (tM_c pe_int fun _ _ _ => .int _)) (tM_c pe_int fun _ _ _ => .int _)) rfl (by first | exact Or.inl rfl | exact Or.inr rfl))
  (tS_one (tS_ret (tM_hp (tC_lst (tMA_cons (tM_ixA (Room.units hr) rfl rfl rfl (tM_lst (tMA_cons (tM_c pe_int fun _ _ _ => .int _) (tMA_cons (tM_var (pv 3)) tMA_nil rfl) rfl)) (tM_callTy (cr_int) rfl T.n_int rfl (tMA_cons (tM_cmp (om_ge) (tM_var (pv 3)) (tM_bin (oa_pow) (tM_c pe_int fun _ _ _ => .int _) (tM_c pe_int fun _ _ _ => .int _)) (nomark _)) tMA_nil rfl) (by decide) (by decide) rfl rfl) (fun _ _ => rfl)) (tMA_cons (tM_var (pv 4)) (tMA_cons (tM_c pe_int fun _ _ _ => .int _) tMA_nil rfl) rfl) rfl))))))))
theorem g__law_box (T : Tx P1 w K mg) (c : ∃ fd, FunD K "_law_box" "_law_box" (defArgs s__law_box) (defBody s__law_box) (defScope s__law_box) [] [] (He.ga K "_law_box") fd)  : GF P1 w K mg base (PP P1 w K) "_law_box" 2 3 f__law_box [] := by
  obtain ⟨fd, FD⟩ := c
  have hb : Binds K fd ["_law_script", "_law_k", "_law_own"] [] := FD.bindsN (fun _ _ _ _ _ _ us hl => match us, hl with | [_, _, _], _ => rfl)
  have hv : Vals [] [] := .nil
  have hD : Defs (PP P1 w K) [] [] := Defs.nil
  exact ⟨⟨_, fd, _, [], [], ok__law_box T FD , T.g__law_box, FD.kp, hb, hv, hD⟩⟩
theorem ok__law_are (T : Tx P1 w K mg) {fd : FuncData} (FD : FunD K "_law_are" "_law_are" (defArgs s__law_are) (defBody s__law_are) (defScope s__law_are) [] [] (He.ga K "_law_are") fd)  : FnOk P1 w K mg base (L2.CX P1 w) 2 (He.ga K "_law_are") fd ["_law_value", "_law_words"] (spM (PP P1 w K) 2 f__law_are) := by
  have sc : FnScope ["_law_value", "_law_words", "_law_one"] ["_law_value", "_law_words"] (defScope s__law_are) := ⟨rfl, rfl, rfl, by decide +kernel, rfl, by decide +kernel, by decide +kernel⟩
  refine fnD FD sc (fun cdv A outer s H E hr => ?_)
  show PSs _ _ (tS (PP P1 w K) E b__law_are)
  exact (tS_cons (tS_if (tT_not (tT_val rfl (tM_isiT rfl rfl T.n_isinstance rfl (tM_var (pv 0)) (pa_cls_cons (pe_bltn rfl T.n_list rfl (show RelV (.ty "list") (.type "list") from rfl)) (pa_cls_cons (pe_bltn rfl T.n_tuple rfl (show RelV (.ty "tuple") (.type "tuple") from rfl)) pa_cls_nil rfl) rfl) (.cons (.ty "list") (.cons (.ty "tuple") .nil)) rfl T.i_list_tuple_T rfl rfl rfl) fun _ => rfl)) (tS_one (tS_ret (tM_c pe_bl fun _ _ _ => .bl false))) tS_nil)
  (tS_one (tS_ret (tM_cmp (om_eq rfl (Room.units hr)) (tM_fz (tC_lc (own := [("_law_one", 2)]) rfl sc.nd (tI_seq rfl (tM_var (pv 0))) (blkOk_by (by kernel_rfl)) (by decide) (fun _ _ _ _ _ => (tG_name (i := 2) sc.nd rfl (by first | exact Or.inl rfl | exact Or.inr rfl) (by first | exact Or.inl rfl | exact Or.inr rfl))) (fun _ _ _ _ _ => (pts_if (PW.pt (tT_or (tT_not (tT_val rfl (tM_isi rfl rfl T.n_isinstance rfl (tM_var (pv 2)) (pe_bltn rfl T.n_str rfl (show RelV (.ty "str") (.type "str") from rfl)) (.ty "str") T.i_str rfl rfl rfl) fun _ => rfl)) (pw_or1 (tT_cmp (ob_notIn rfl rfl rfl hr) (tM_var (pv 2)) (tM_var (pv 1)) rfl)))))) (fun _ _ _ _ _ => (tM_var (pv 2))) (fun _ => rfl))) (tM_lst tMA_nil) (nomark _)))))
theorem g__law_are (T : Tx P1 w K mg) (c : ∃ fd, FunD K "_law_are" "_law_are" (defArgs s__law_are) (defBody s__law_are) (defScope s__law_are) [] [] (He.ga K "_law_are") fd)  : GF P1 w K mg base (PP P1 w K) "_law_are" 2 2 f__law_are [] := by
  obtain ⟨fd, FD⟩ := c
  have hb : Binds K fd ["_law_value", "_law_words"] [] := FD.bindsN (fun _ _ _ _ _ _ us hl => match us, hl with | [_, _], _ => rfl)
  have hv : Vals [] [] := .nil
  have hD : Defs (PP P1 w K) [] [] := Defs.nil
  exact ⟨⟨_, fd, _, [], [], ok__law_are T FD , T.g__law_are, FD.kp, hb, hv, hD⟩⟩
theorem ok__law_due (T : Tx P1 w K mg) {fd : FuncData} (FD : FunD K "_law_due" "_law_due" (defArgs s__law_due) (defBody s__law_due) (defScope s__law_due) [] [] (He.ga K "_law_due") fd) (G__law_are : GF P1 w K mg base (PP P1 w K) "_law_are" 2 2 f__law_are []) : FnOk P1 w K mg base (L2.CX P1 w) 3 (He.ga K "_law_due") fd ["_law_words", "_law_tests", "_law_deeds"] (spM (PP P1 w K) 3 f__law_due) := by
  have sc : FnScope ["_law_words", "_law_tests", "_law_deeds", "_law_plain", "_law_news", "_law_test"] ["_law_words", "_law_tests", "_law_deeds"] (defScope s__law_due) := ⟨rfl, rfl, rfl, by decide +kernel, rfl, by decide +kernel, by decide +kernel⟩
  refine fnD FD sc (fun cdv A outer s H E hr => ?_)
  show PSs _ _ (tS (PP P1 w K) E b__law_due)
  exact (tS_cons (tS_set (i := 3) sc.nd rfl (by first | exact Or.inl rfl | exact Or.inr rfl) (tM_lst (tMA_cons (tM_str [116, 104, 101, 114, 101]) (tMA_cons (tM_str [104, 111, 108, 100, 115]) (tMA_cons (tM_str [115, 97, 109, 101]) (tMA_cons (tM_str [103, 111, 111, 100]) tMA_nil rfl) rfl) rfl) rfl)) rfl (by first | exact Or.inl rfl | exact Or.inr rfl))
  (tS_cons (tS_set (i := 4) sc.nd rfl (by first | exact Or.inl rfl | exact Or.inr rfl) (tM_lst (tMA_cons (tM_str [97, 119, 97, 121]) (tMA_cons (tM_str [103, 111, 110, 101]) (tMA_cons (tM_str [104, 101, 114, 101]) (tMA_cons (tM_str [108, 101, 102, 116]) (tMA_cons (tM_str [109, 97, 100, 101]) (tMA_cons (tM_str [111, 118, 101, 114]) (tMA_cons (tM_str [116, 111, 117, 99, 104, 101, 100]) (tMA_cons (tM_str [119, 114, 105, 116, 116, 101, 110]) tMA_nil rfl) rfl) rfl) rfl) rfl) rfl) rfl) rfl)) rfl (by first | exact Or.inl rfl | exact Or.inr rfl))
  (tS_cons (tS_if (PW.pt (tT_or (tT_not (tT_val rfl (tM_gf G__law_are (hr.mono (by decide)) pass_own rfl (tMA_cons (tM_var (pv 0)) (tMA_cons (tM_var (pv 4)) tMA_nil rfl) rfl) (by decide) rfl rfl) fun _ => rfl)) (pw_or1 (tT_cmp (om_eq rfl (Room.units hr)) (tM_callB (cr_lenA rfl) rfl T.n_len rfl (tMA_cons (tM_var (pv 0)) tMA_nil rfl) (by decide) (by decide) rfl rfl) (tM_c pe_int fun _ _ _ => .int _) (nomark _))))) (tS_one (tS_ret (tM_str [110, 101, 119, 115]))) tS_nil)
  (tS_cons (tS_if (tT_not (tT_val rfl (tM_gf G__law_are (hr.mono (by decide)) pass_own rfl (tMA_cons (tM_var (pv 1)) (tMA_cons (tM_bin (oa_add rfl) (tM_var (pv 3)) (tM_fz (tC_lc (own := [("_law_test", 5)]) rfl sc.nd (tI_seq rfl (tM_var (pv 3))) (blkOk_by (by kernel_rfl)) (by decide) (fun _ _ _ _ _ => (tG_name (i := 5) sc.nd rfl (by first | exact Or.inl rfl | exact Or.inr rfl) (by first | exact Or.inl rfl | exact Or.inr rfl))) (fun _ _ _ _ _ => pts_yes) (fun _ _ _ _ _ => (tM_bin (oa_add rfl) (tM_str [110, 111, 116, 32]) (tM_var (pv 5)))) (fun _ => rfl)))) tMA_nil rfl) rfl) (by decide) rfl rfl) fun _ => rfl)) (tS_one (tS_ret (tM_str [116, 101, 115, 116, 115]))) tS_nil)
  (tS_one (tS_ret (tM_if (tT_val rfl (tM_gf G__law_are (hr.mono (by decide)) pass_own rfl (tMA_cons (tM_var (pv 2)) (tMA_cons (tM_lst (tMA_cons (tM_str [114, 101, 97, 100]) (tMA_cons (tM_str [115, 99, 97, 110]) (tMA_cons (tM_str [108, 111, 111, 107]) (tMA_cons (tM_str [104, 111, 108, 100]) (tMA_cons (tM_str [108, 101, 116]) tMA_nil rfl) rfl) rfl) rfl) rfl)) tMA_nil rfl) rfl) (by decide) rfl rfl) fun _ => rfl) (tM_str [109, 97, 100, 101]) (tM_str [100, 101, 101, 100, 115]))))))))
theorem g__law_due (T : Tx P1 w K mg) (c : ∃ fd, FunD K "_law_due" "_law_due" (defArgs s__law_due) (defBody s__law_due) (defScope s__law_due) [] [] (He.ga K "_law_due") fd) (G__law_are : GF P1 w K mg base (PP P1 w K) "_law_are" 2 2 f__law_are []) : GF P1 w K mg base (PP P1 w K) "_law_due" 3 3 f__law_due [] := by
  obtain ⟨fd, FD⟩ := c
  have hb : Binds K fd ["_law_words", "_law_tests", "_law_deeds"] [] := FD.bindsN (fun _ _ _ _ _ _ us hl => match us, hl with | [_, _, _], _ => rfl)
  have hv : Vals [] [] := .nil
  have hD : Defs (PP P1 w K) [] [] := Defs.nil
  exact ⟨⟨_, fd, _, [], [], ok__law_due T FD G__law_are, T.g__law_due, FD.kp, hb, hv, hD⟩⟩
theorem ok_is_sequence (T : Tx P1 w K mg) {fd : FuncData} (FD : FunD K "is_sequence" "is_sequence" (defArgs s_is_sequence) (defBody s_is_sequence) (defScope s_is_sequence) [] [] (He.ga K "is_sequence") fd)  : FnOk P1 w K mg base (L2.CX P1 w) 2 (He.ga K "is_sequence") fd ["value"] (spM (PP P1 w K) 1 f_is_sequence) := by
  have sc : FnScope ["value"] ["value"] (defScope s_is_sequence) := ⟨rfl, rfl, rfl, by decide +kernel, rfl, by decide +kernel, by decide +kernel⟩
  refine fnD FD sc (fun cdv A outer s H E hr => ?_)
  show PSs _ _ (tS (PP P1 w K) E b_is_sequence)
  exact (tS_one (tS_ret (tM_isiT rfl rfl T.n_isinstance rfl (tM_var (pv 0)) (pa_cls_cons (pe_bltn rfl T.n_list rfl (show RelV (.ty "list") (.type "list") from rfl)) (pa_cls_cons (pe_bltn rfl T.n_tuple rfl (show RelV (.ty "tuple") (.type "tuple") from rfl)) pa_cls_nil rfl) rfl) (.cons (.ty "list") (.cons (.ty "tuple") .nil)) rfl T.i_list_tuple_T rfl rfl rfl)))
theorem g_is_sequence (T : Tx P1 w K mg) (c : ∃ fd, FunD K "is_sequence" "is_sequence" (defArgs s_is_sequence) (defBody s_is_sequence) (defScope s_is_sequence) [] [] (He.ga K "is_sequence") fd)  : GF P1 w K mg base (PP P1 w K) "is_sequence" 2 1 f_is_sequence [] := by
  obtain ⟨fd, FD⟩ := c
  have hb : Binds K fd ["value"] [] := FD.bindsN (fun _ _ _ _ _ _ us hl => match us, hl with | [_], _ => rfl)
  have hv : Vals [] [] := .nil
  have hD : Defs (PP P1 w K) [] [] := Defs.nil
  exact ⟨⟨_, fd, _, [], [], ok_is_sequence T FD , T.g_is_sequence, FD.kp, hb, hv, hD⟩⟩
theorem ok_is_word_of (T : Tx P1 w K mg) {fd : FuncData} (FD : FunD K "is_word_of" "is_word_of" (defArgs s_is_word_of) (defBody s_is_word_of) (defScope s_is_word_of) [] [] (He.ga K "is_word_of") fd)  : FnOk P1 w K mg base (L2.CX P1 w) 2 (He.ga K "is_word_of") fd ["value", "words"] (spM (PP P1 w K) 2 f_is_word_of) := by
  have sc : FnScope ["value", "words"] ["value", "words"] (defScope s_is_word_of) := ⟨rfl, rfl, rfl, by decide +kernel, rfl, by decide +kernel, by decide +kernel⟩
  refine fnD FD sc (fun cdv A outer s H E hr => ?_)
  show PSs _ _ (tS (PP P1 w K) E b_is_word_of)
  exact (tS_one (tS_ret (tM_and (tM_isi rfl rfl T.n_isinstance rfl (tM_var (pv 0)) (pe_bltn rfl T.n_str rfl (show RelV (.ty "str") (.type "str") from rfl)) (.ty "str") T.i_str rfl rfl rfl) (tM_one (tM_cmp (ob_in rfl rfl rfl hr) (tM_var (pv 0)) (tM_var (pv 1)) rfl)))))
theorem g_is_word_of (T : Tx P1 w K mg) (c : ∃ fd, FunD K "is_word_of" "is_word_of" (defArgs s_is_word_of) (defBody s_is_word_of) (defScope s_is_word_of) [] [] (He.ga K "is_word_of") fd)  : GF P1 w K mg base (PP P1 w K) "is_word_of" 2 2 f_is_word_of [] := by
  obtain ⟨fd, FD⟩ := c
  have hb : Binds K fd ["value", "words"] [] := FD.bindsN (fun _ _ _ _ _ _ us hl => match us, hl with | [_, _], _ => rfl)
  have hv : Vals [] [] := .nil
  have hD : Defs (PP P1 w K) [] [] := Defs.nil
  exact ⟨⟨_, fd, _, [], [], ok_is_word_of T FD , T.g_is_word_of, FD.kp, hb, hv, hD⟩⟩
theorem ok_are_words_of (T : Tx P1 w K mg) {fd : FuncData} (FD : FunD K "are_words_of" "are_words_of" (defArgs s_are_words_of) (defBody s_are_words_of) (defScope s_are_words_of) [] [] (He.ga K "are_words_of") fd) (G_is_sequence : GF P1 w K mg base (PP P1 w K) "is_sequence" 2 1 f_is_sequence []) (G_is_word_of : GF P1 w K mg base (PP P1 w K) "is_word_of" 2 2 f_is_word_of []) : FnOk P1 w K mg base (L2.CX P1 w) 3 (He.ga K "are_words_of") fd ["value", "words"] (spM (PP P1 w K) 2 f_are_words_of) := by
  have sc : FnScope ["value", "words", "one"] ["value", "words"] (defScope s_are_words_of) := ⟨rfl, rfl, rfl, by decide +kernel, rfl, by decide +kernel, by decide +kernel⟩
  refine fnD FD sc (fun cdv A outer s H E hr => ?_)
  show PSs _ _ (tS (PP P1 w K) E b_are_words_of)
  exact (tS_one (tS_ret (tM_and (tM_gf G_is_sequence (hr.mono (by decide)) pass_own rfl (tMA_cons (tM_var (pv 0)) tMA_nil rfl) (by decide) rfl rfl) (tM_one (tM_callB (cr_all' rfl rfl) rfl T.n_all rfl (tMA_cons (tM_fz (tC_lc (own := [("one", 2)]) rfl sc.nd (tI_seq rfl (tM_var (pv 0))) (blkOk_by (by kernel_rfl)) (by decide) (fun _ _ _ _ _ => (tG_name (i := 2) sc.nd rfl (by first | exact Or.inl rfl | exact Or.inr rfl) (by first | exact Or.inl rfl | exact Or.inr rfl))) (fun _ _ _ _ _ => pts_yes) (fun _ _ _ _ _ => (tM_gf G_is_word_of (hr.mono (by decide)) passNo rfl (tMA_cons (tM_var (pv 2)) (tMA_cons (tM_var (pv 1)) tMA_nil rfl) rfl) (by decide) rfl rfl)) (fun _ => rfl))) tMA_nil rfl) (by decide) (by decide) rfl rfl)))))
theorem g_are_words_of (T : Tx P1 w K mg) (c : ∃ fd, FunD K "are_words_of" "are_words_of" (defArgs s_are_words_of) (defBody s_are_words_of) (defScope s_are_words_of) [] [] (He.ga K "are_words_of") fd) (G_is_sequence : GF P1 w K mg base (PP P1 w K) "is_sequence" 2 1 f_is_sequence []) (G_is_word_of : GF P1 w K mg base (PP P1 w K) "is_word_of" 2 2 f_is_word_of []) : GF P1 w K mg base (PP P1 w K) "are_words_of" 3 2 f_are_words_of [] := by
  obtain ⟨fd, FD⟩ := c
  have hb : Binds K fd ["value", "words"] [] := FD.bindsN (fun _ _ _ _ _ _ us hl => match us, hl with | [_, _], _ => rfl)
  have hv : Vals [] [] := .nil
  have hD : Defs (PP P1 w K) [] [] := Defs.nil
  exact ⟨⟨_, fd, _, [], [], ok_are_words_of T FD G_is_sequence G_is_word_of, T.g_are_words_of, FD.kp, hb, hv, hD⟩⟩
theorem ok_is_test (T : Tx P1 w K mg) {fd : FuncData} (FD : FunD K "is_test" "is_test" (defArgs s_is_test) (defBody s_is_test) (defScope s_is_test) [] [] (He.ga K "is_test") fd)  : FnOk P1 w K mg base (L2.CX P1 w) 2 (He.ga K "is_test") fd ["value"] (spM (PP P1 w K) 1 f_is_test) := by
  have sc : FnScope ["value"] ["value"] (defScope s_is_test) := ⟨rfl, rfl, rfl, by decide +kernel, rfl, by decide +kernel, by decide +kernel⟩
  refine fnD FD sc (fun cdv A outer s H E hr => ?_)
  show PSs _ _ (tS (PP P1 w K) E b_is_test)
  exact (tS_cons (tS_if (tT_not (tT_val rfl (tM_isi rfl rfl T.n_isinstance rfl (tM_var (pv 0)) (pe_bltn rfl T.n_str rfl (show RelV (.ty "str") (.type "str") from rfl)) (.ty "str") T.i_str rfl rfl rfl) fun _ => rfl)) (tS_one (tS_ret (tM_c pe_bl fun _ _ _ => .bl false))) tS_nil)
  (tS_one (tS_ret (tM_or (tM_cmp (ob_in rfl rfl rfl hr) (tM_var (pv 0)) (tM_c (C8.pe_gc rfl ⟨_, T.g_TESTS, (show RelV (.ref (He.ga K "TESTS")) (.ref (He.ga K "TESTS")) from rfl)⟩) T.r_TESTS) rfl) (tM_one (tM_and (tM_cmp (om_eq rfl (Room.units hr)) (tM_sl rfl (tM_var (pv 0)) po_n (po_s (tM_c pe_int fun _ _ _ => .int _))) (tM_str [110, 111, 116, 32]) (nomark _)) (tM_one (tM_cmp (ob_in rfl rfl rfl hr) (tM_sl rfl (tM_var (pv 0)) (po_s (tM_c pe_int fun _ _ _ => .int _)) po_n) (tM_c (C8.pe_gc rfl ⟨_, T.g_TESTS, (show RelV (.ref (He.ga K "TESTS")) (.ref (He.ga K "TESTS")) from rfl)⟩) T.r_TESTS) rfl))))))))
theorem g_is_test (T : Tx P1 w K mg) (c : ∃ fd, FunD K "is_test" "is_test" (defArgs s_is_test) (defBody s_is_test) (defScope s_is_test) [] [] (He.ga K "is_test") fd)  : GF P1 w K mg base (PP P1 w K) "is_test" 2 1 f_is_test [] := by
  obtain ⟨fd, FD⟩ := c
  have hb : Binds K fd ["value"] [] := FD.bindsN (fun _ _ _ _ _ _ us hl => match us, hl with | [_], _ => rfl)
  have hv : Vals [] [] := .nil
  have hD : Defs (PP P1 w K) [] [] := Defs.nil
  exact ⟨⟨_, fd, _, [], [], ok_is_test T FD , T.g_is_test, FD.kp, hb, hv, hD⟩⟩
theorem ok_wrong_part (T : Tx P1 w K mg) {fd : FuncData} (FD : FunD K "wrong_part" "wrong_part" (defArgs s_wrong_part) (defBody s_wrong_part) (defScope s_wrong_part) [] [] (He.ga K "wrong_part") fd) (G_are_words_of : GF P1 w K mg base (PP P1 w K) "are_words_of" 3 2 f_are_words_of []) (G_is_sequence : GF P1 w K mg base (PP P1 w K) "is_sequence" 2 1 f_is_sequence []) (G_is_test : GF P1 w K mg base (PP P1 w K) "is_test" 2 1 f_is_test []) : FnOk P1 w K mg base (L2.CX P1 w) 4 (He.ga K "wrong_part") fd ["news", "tests", "deeds"] (spM (PP P1 w K) 3 f_wrong_part) := by
  have sc : FnScope ["news", "tests", "deeds", "test"] ["news", "tests", "deeds"] (defScope s_wrong_part) := ⟨rfl, rfl, rfl, by decide +kernel, rfl, by decide +kernel, by decide +kernel⟩
  refine fnD FD sc (fun cdv A outer s H E hr => ?_)
  show PSs _ _ (tS (PP P1 w K) E b_wrong_part)
  exact (tS_cons (tS_if (PW.pt (tT_or (tT_not (tT_val rfl (tM_gf G_are_words_of (hr.mono (by decide)) pass_own rfl (tMA_cons (tM_var (pv 0)) (tMA_cons (tM_c (C8.pe_gc rfl ⟨_, T.g_NEWS, (show RelV (.ref (He.ga K "NEWS")) (.ref (He.ga K "NEWS")) from rfl)⟩) T.r_NEWS) tMA_nil rfl) rfl) (by decide) rfl rfl) fun _ => rfl)) (pw_or1 (tT_cmp (om_eq rfl (Room.units hr)) (tM_callB (cr_lenA rfl) rfl T.n_len rfl (tMA_cons (tM_var (pv 0)) tMA_nil rfl) (by decide) (by decide) rfl rfl) (tM_c pe_int fun _ _ _ => .int _) (nomark _))))) (tS_one (tS_ret (tM_str [110, 101, 119, 115]))) tS_nil)
  (tS_cons (tS_if (PW.pt (tT_or (tT_not (tT_val rfl (tM_gf G_is_sequence (hr.mono (by decide)) pass_own rfl (tMA_cons (tM_var (pv 1)) tMA_nil rfl) (by decide) rfl rfl) fun _ => rfl)) (pw_or1 (tT_not (tT_val rfl (tM_callB (cr_all' rfl rfl) rfl T.n_all rfl (tMA_cons (tM_fz (tC_lc (own := [("test", 3)]) rfl sc.nd (tI_seq rfl (tM_var (pv 1))) (blkOk_by (by kernel_rfl)) (by decide) (fun _ _ _ _ _ => (tG_name (i := 3) sc.nd rfl (by first | exact Or.inl rfl | exact Or.inr rfl) (by first | exact Or.inl rfl | exact Or.inr rfl))) (fun _ _ _ _ _ => pts_yes) (fun _ _ _ _ _ => (tM_gf G_is_test (hr.mono (by decide)) passNo rfl (tMA_cons (tM_var (pv 3)) tMA_nil rfl) (by decide) rfl rfl)) (fun _ => rfl))) tMA_nil rfl) (by decide) (by decide) rfl rfl) fun _ => rfl))))) (tS_one (tS_ret (tM_str [116, 101, 115, 116, 115]))) tS_nil)
  (tS_one (tS_ret (tM_if (tT_val rfl (tM_gf G_are_words_of (hr.mono (by decide)) pass_own rfl (tMA_cons (tM_var (pv 2)) (tMA_cons (tM_c (C8.pe_gc rfl ⟨_, T.g_DEEDS, (show RelV (.ref (He.ga K "DEEDS")) (.ref (He.ga K "DEEDS")) from rfl)⟩) T.r_DEEDS) tMA_nil rfl) rfl) (by decide) rfl rfl) fun _ => rfl) (tM_c pe_non fun _ _ _ => .non) (tM_str [100, 101, 101, 100, 115]))))))
theorem g_wrong_part (T : Tx P1 w K mg) (c : ∃ fd, FunD K "wrong_part" "wrong_part" (defArgs s_wrong_part) (defBody s_wrong_part) (defScope s_wrong_part) [] [] (He.ga K "wrong_part") fd) (G_are_words_of : GF P1 w K mg base (PP P1 w K) "are_words_of" 3 2 f_are_words_of []) (G_is_sequence : GF P1 w K mg base (PP P1 w K) "is_sequence" 2 1 f_is_sequence []) (G_is_test : GF P1 w K mg base (PP P1 w K) "is_test" 2 1 f_is_test []) : GF P1 w K mg base (PP P1 w K) "wrong_part" 4 3 f_wrong_part [] := by
  obtain ⟨fd, FD⟩ := c
  have hb : Binds K fd ["news", "tests", "deeds"] [] := FD.bindsN (fun _ _ _ _ _ _ us hl => match us, hl with | [_, _, _], _ => rfl)
  have hv : Vals [] [] := .nil
  have hD : Defs (PP P1 w K) [] [] := Defs.nil
  exact ⟨⟨_, fd, _, [], [], ok_wrong_part T FD G_are_words_of G_is_sequence G_is_test, T.g_wrong_part, FD.kp, hb, hv, hD⟩⟩
theorem ok_Row___init__ (T : Tx P1 w K mg) {fd : FuncData} (FD : FunD K "__init__" "Row.__init__" (defArgs s_Row___init__) (defBody s_Row___init__) (defScope s_Row___init__) [.ref (He.dflAt ("Row", some "__init__") 0 K), .ref (He.dflAt ("Row", some "__init__") 1 K)] [] (He.ma K (He.ga K "Row") "__init__") fd) (G_wrong_part : GF P1 w K mg base (PP P1 w K) "wrong_part" 4 3 f_wrong_part []) (Gx_InvalidRow : GX P1 w K mg base (PP P1 w K) "InvalidRow" 1 211597303 1) : FnOk P1 w K mg base (L2.CX P1 w) 5 (He.ma K (He.ga K "Row") "__init__") fd ["self", "news", "tests", "deeds"] (spI (PP P1 w K) 4 3 i_Row) := by
  have sc : FnScope ["self", "news", "tests", "deeds", "word", "words"] ["self", "news", "tests", "deeds"] (defScope s_Row___init__) := ⟨rfl, rfl, rfl, by decide +kernel, rfl, by decide +kernel, by decide +kernel⟩
  refine initD FD sc (fun cdv A outer s H E hr => ?_) rfl
  show PSs _ _ (tS (PP P1 w K) E b_Row___init__)
  exact (tS_cons (tS_set (i := 4) sc.nd rfl (by first | exact Or.inl rfl | exact Or.inr rfl) (tM_gf G_wrong_part (hr.mono (by decide)) pass_own rfl (tMA_cons (tM_var (pv 1)) (tMA_cons (tM_var (pv 2)) (tMA_cons (tM_var (pv 3)) tMA_nil rfl) rfl) rfl) (by decide) rfl rfl) rfl (by first | exact Or.inl rfl | exact Or.inr rfl))
  (tS_cons (tS_if (tT_cmp (om_isNot) (tM_var (pv 4)) (tM_c pe_non fun _ _ _ => .non) (nomark _)) (tS_one (tS_raise (C := 1) (f := 211597303) rfl tk_own Gx_InvalidRow (hr.mono (by decide)) pass_not rfl (tM_var (pv 4)) rfl rfl rfl)) tS_nil)
  (tS_cons (tS_ownFld nmi rfl T.f_news (nmk (by decide +kernel)) (pv 0) (tM_callTy (cr_tuple rfl) rfl T.n_tuple rfl (tMA_cons (tM_var (pv 1)) tMA_nil rfl) (by decide) (by decide) rfl rfl) rfl)
  (tS_cons (tS_ownFld nmi rfl T.f_tests (nmk (by decide +kernel)) (pv 0) (tM_callTy (cr_tuple rfl) rfl T.n_tuple rfl (tMA_cons (tM_var (pv 2)) tMA_nil rfl) (by decide) (by decide) rfl rfl) rfl)
  (tS_cons (tS_ownFld nmi rfl T.f_deeds (nmk (by decide +kernel)) (pv 0) (tM_callTy (cr_tuple rfl) rfl T.n_tuple rfl (tMA_cons (tM_var (pv 3)) tMA_nil rfl) (by decide) (by decide) rfl rfl) rfl)
  (tS_cons (tS_set (i := 5) sc.nd rfl (by first | exact Or.inl rfl | exact Or.inr rfl) (tM_hp (tC_lst (tMA_cons (tM_str [111, 110]) (tMA_star rfl (tM_ownFld nmi rfl T.f_news (nmk (by decide +kernel)) (pv 0) rfl) tMA_nil rfl) rfl))) rfl (by first | exact Or.inl rfl | exact Or.inr rfl))
  (tS_cons (tS_expr (tM_extH (tM_var (pv 5)) (tM_if (tT_cmp (om_gt) (tM_callB (cr_lenA rfl) rfl T.n_len rfl (tMA_cons (tM_ownFld nmi rfl T.f_tests (nmk (by decide +kernel)) (pv 0) rfl) tMA_nil rfl) (by decide) (by decide) rfl rfl) (tM_c pe_int fun _ _ _ => .int _) (nomark _)) (tM_lst (tMA_cons (tM_str [105, 102]) (tMA_cons (tM_meth F.slot_str_join F.type_str_join (mr_join rfl) (tM_str [32, 97, 110, 100, 32]) (tMA_cons (tM_ownFld nmi rfl T.f_tests (nmk (by decide +kernel)) (pv 0) rfl) tMA_nil rfl) rfl rfl rfl rfl rfl) tMA_nil rfl) rfl)) (tM_lst tMA_nil)) rfl rfl rfl rfl rfl) rfl)
  (tS_cons (tS_expr (tM_extH (tM_var (pv 5)) (tM_if (tT_cmp (om_gt) (tM_callB (cr_lenA rfl) rfl T.n_len rfl (tMA_cons (tM_ownFld nmi rfl T.f_deeds (nmk (by decide +kernel)) (pv 0) rfl) tMA_nil rfl) (by decide) (by decide) rfl rfl) (tM_c pe_int fun _ _ _ => .int _) (nomark _)) (tM_lst (tMA_cons (tM_str [100, 111]) (tMA_cons (tM_meth F.slot_str_join F.type_str_join (mr_join rfl) (tM_str [32, 116, 104, 101, 110, 32]) (tMA_cons (tM_ownFld nmi rfl T.f_deeds (nmk (by decide +kernel)) (pv 0) rfl) tMA_nil rfl) rfl rfl rfl rfl rfl) tMA_nil rfl) rfl)) (tM_lst tMA_nil)) rfl rfl rfl rfl rfl) rfl)
  (tS_one (tS_ownFld nmi rfl T.f_text (nmk (by decide +kernel)) (pv 0) (tM_meth F.slot_str_join F.type_str_join (mr_join rfl) (tM_str [32]) (tMA_cons (tM_var (pv 5)) tMA_nil rfl) rfl rfl rfl rfl rfl) rfl))))))))))
theorem g_Row (T : Tx P1 w K mg) (c : ∃ fd, FunD K "__init__" "Row.__init__" (defArgs s_Row___init__) (defBody s_Row___init__) (defScope s_Row___init__) [.ref (He.dflAt ("Row", some "__init__") 0 K), .ref (He.dflAt ("Row", some "__init__") 1 K)] [] (He.ma K (He.ga K "Row") "__init__") fd) (G_wrong_part : GF P1 w K mg base (PP P1 w K) "wrong_part" 4 3 f_wrong_part []) (Gx_InvalidRow : GX P1 w K mg base (PP P1 w K) "InvalidRow" 1 211597303 1) : GC P1 w K mg base (PP P1 w K) "Row" 4 5 3 i_Row [] := by
  obtain ⟨fd, FD⟩ := c
  obtain ⟨ds, hv, hb⟩ := FD.binds1 (ps := ["self", "news", "tests", "deeds"]) 4 2 (List.cons_ne_nil _ _) rfl (fun T kV doc pm an cdv ct us its h1 h2 => match us, its, h1, h2 with | [_, _, _, _], [_, _], _, _ => ⟨_, rfl, rfl⟩)
  have hD : Defs (PP P1 w K) [] [] := fun _ _ _ => .nil
  exact ⟨⟨_, fd, _, ds, [], T.mk_Row, ok_Row___init__ T FD G_wrong_part Gx_InvalidRow, T.g_Row, hb, hv, hD⟩⟩
theorem ok__law_refused (T : Tx P1 w K mg) {fd : FuncData} (FD : FunD K "_law_refused" "_law_refused" (defArgs s__law_refused) (defBody s__law_refused) (defScope s__law_refused) [] [] (He.ga K "_law_refused") fd) (G_Row : GC P1 w K mg base (PP P1 w K) "Row" 4 5 3 i_Row []) : FnOk P1 w K mg base (L2.CX P1 w) 7 (He.ga K "_law_refused") fd ["_law_words", "_law_tests", "_law_deeds"] (spM (PP P1 w K) 3 f__law_refused) := by
  have sc : FnScope ["_law_words", "_law_tests", "_law_deeds", "_law_found", "e"] ["_law_words", "_law_tests", "_law_deeds"] (defScope s__law_refused) := ⟨rfl, rfl, rfl, by decide +kernel, rfl, by decide +kernel, by decide +kernel⟩
  refine fnD FD sc (fun cdv A outer s H E hr => ?_)
  show PSs _ _ (tS (PP P1 w K) E b__law_refused)
  exact (tS_cons (tS_set (i := 3) sc.nd rfl (by first | exact Or.inl rfl | exact Or.inr rfl) (tM_str [109, 97, 100, 101]) rfl (by first | exact Or.inl rfl | exact Or.inr rfl))
  (tS_cons (tS_tryV (C := 1) (f := 211597303) (i := 4) (j := 3) (nmk (by decide +kernel)) rfl rfl sc.nd rfl rfl rfl (by first | exact Or.inl rfl | exact Or.inr rfl) (by first | exact Or.inl rfl | exact Or.inr rfl) (by decide) rfl (by decide) T.g_InvalidRow tk_not T.hx_InvalidRow (by decide) (by decide) (Or.inl rfl) (fun W pn xe t1 t2 => (tS_expr (tM_gc (Or.inl rfl) G_Row (hr.mono (by decide)) (pass_EW t1) rfl (tMA_cons (tM_var (pv 0)) (tMA_cons (tM_var (pv 1)) (tMA_cons (tM_var (pv 2)) tMA_nil rfl) rfl) rfl) (by decide) rfl rfl) rfl)) (fun a dd oe pn hz hf => pt_isX (i := 4) T.hx_InvalidRow.E hz hf rfl T.n_isinstance rfl (Or.inl rfl) (by decide) (by decide) rfl T.g_SwapError (by decide) T.kt_InvalidRow_SwapError (fun _ => rfl) (fun _ => rfl) (fun _ => rfl)) (fun a dd oe pn hz hf => pt_isXT (i := 4) T.hx_InvalidRow.E hz hf rfl T.n_isinstance rfl (Or.inl rfl) (by decide) (by decide) (pa_refs rfl T.g_InvalidText (by decide) (pa_refs rfl T.g_InvalidWatcher (by decide) pa_nils (fun _ => rfl)) (fun _ => rfl)) (by show _ ≤ 1000; exact Nat.le_of_ble_eq_true rfl) T.kt_InvalidRow_InvalidText_InvalidWatcher (fun _ => rfl) (fun _ => rfl) (fun _ => rfl)) rfl rfl)
  (tS_one (tS_ret (tM_var (pv 3))))))
theorem g__law_refused (T : Tx P1 w K mg) (c : ∃ fd, FunD K "_law_refused" "_law_refused" (defArgs s__law_refused) (defBody s__law_refused) (defScope s__law_refused) [] [] (He.ga K "_law_refused") fd) (G_Row : GC P1 w K mg base (PP P1 w K) "Row" 4 5 3 i_Row []) : GF P1 w K mg base (PP P1 w K) "_law_refused" 7 3 f__law_refused [] := by
  obtain ⟨fd, FD⟩ := c
  have hb : Binds K fd ["_law_words", "_law_tests", "_law_deeds"] [] := FD.bindsN (fun _ _ _ _ _ _ us hl => match us, hl with | [_, _, _], _ => rfl)
  have hv : Vals [] [] := .nil
  have hD : Defs (PP P1 w K) [] [] := Defs.nil
  exact ⟨⟨_, fd, _, [], [], ok__law_refused T FD G_Row, T.g__law_refused, FD.kp, hb, hv, hD⟩⟩
theorem ok_law (T : Tx P1 w K mg) {fd : FuncData} (FD : FunD K "law" "law" (defArgs s_law) (defBody s_law) (defScope s_law) [] [] (He.ga K "law") fd) (G__law_any : GF P1 w K mg base (PP P1 w K) "_law_any" 11 2 f__law_any []) (G__law_any_row : GF P1 w K mg base (PP P1 w K) "_law_any_row" 4 1 f__law_any_row []) (G__law_box : GF P1 w K mg base (PP P1 w K) "_law_box" 2 3 f__law_box []) (G__law_due : GF P1 w K mg base (PP P1 w K) "_law_due" 3 3 f__law_due []) (G__law_pick : GF P1 w K mg base (PP P1 w K) "_law_pick" 3 2 f__law_pick []) (G__law_refused : GF P1 w K mg base (PP P1 w K) "_law_refused" 7 3 f__law_refused []) (G__law_take : GF P1 w K mg base (PP P1 w K) "_law_take" 2 2 f__law_take []) : FnG P1 w K mg base (L2.CX P1 w) 12 (He.ga K "law") fd ["_law_script"] (spM (PP P1 w K) 1 f_law) := by
  have sc : FnScope ["_law_script", "_law_k", "_law_box_here", "_law_near", "_law_turn", "_law_some", "_law_again", "_law_at", "_law_form", "_law_spot", "_law_part"] ["_law_script"] (defScope s_law) := ⟨rfl, rfl, rfl, by decide +kernel, rfl, by decide +kernel, by decide +kernel⟩
  refine fnDG FD sc (fun cdv A outer s H E hg hr => ?_)
  show PSs _ _ (tS (PP P1 w K) E b_law)
  exact (tS_cons (tS_for loops_own rfl (tI_rng1 rfl T.n_range (tM_callB (cr_max2 rfl) rfl T.n_max rfl (tMA_cons (tM_c pe_int fun _ _ _ => .int _) (tMA_cons (tM_callB (cr_min2 rfl) rfl T.n_min rfl (tMA_cons (tM_c pe_int fun _ _ _ => .int _) (tMA_cons (tM_callB (cr_lenA rfl) rfl T.n_len rfl (tMA_cons (tM_var (pv 0)) tMA_nil rfl) (by decide) (by decide) rfl rfl) tMA_nil rfl) rfl) (by decide) (by decide) rfl rfl) tMA_nil rfl) rfl) (by decide) (by decide) rfl rfl) rfl) (tG_name (i := 1) sc.nd rfl (by first | exact Or.inl rfl | exact Or.inr rfl) (by first | exact Or.inl rfl | exact Or.inr rfl)) (tS_cons (tS_set (i := 2) sc.nd rfl (by first | exact Or.inl rfl | exact Or.inr rfl) (tM_gf G__law_box (hr.mono (by decide)) pass_own rfl (tMA_cons (tM_var (pv 0)) (tMA_cons (tM_var (pv 1)) (tMA_cons (tM_c pe_int fun _ _ _ => .int _) tMA_nil rfl) rfl) rfl) (by decide) rfl rfl) rfl (by first | exact Or.inl rfl | exact Or.inr rfl))
  (tS_cons (tS_set (i := 3) sc.nd rfl (by first | exact Or.inl rfl | exact Or.inr rfl) (tM_hp (tC_lst (tMA_cons (tM_str []) (tMA_cons (tM_str [110, 111, 116]) (tMA_cons (tM_str [110, 111, 116, 32, 110, 111, 116, 32, 115, 97, 109, 101]) (tMA_cons (tM_str [72, 101, 114, 101]) (tMA_cons (tM_str [104, 101, 114, 101, 32]) (tMA_cons (tM_str [110, 111, 116, 32, 32, 103, 111, 111, 100]) (tMA_cons (tM_str [119, 97, 107, 101]) (tMA_cons (tM_str [114, 101, 97, 100, 115]) (tMA_cons (tM_str [111, 110]) (tMA_cons (tM_lst (tMA_cons (tM_str [104, 101, 114, 101]) tMA_nil rfl)) (tMA_cons (tM_c pe_non fun _ _ _ => .non) (tMA_cons (tM_c pe_int fun _ _ _ => .int _) tMA_nil rfl) rfl) rfl) rfl) rfl) rfl) rfl) rfl) rfl) rfl) rfl) rfl))) rfl (by first | exact Or.inl rfl | exact Or.inr rfl))
  (tS_cons (tS_expr (tM_appH (tM_var (pv 3)) (tM_c pe_bl fun _ _ _ => .bl true) rfl rfl rfl rfl rfl) rfl)
  (tS_one (tS_for loops_own rfl (tI_rng1 rfl T.n_range (tM_c pe_int fun _ _ _ => .int _) rfl) (tG_name (i := 4) sc.nd rfl (by first | exact Or.inl rfl | exact Or.inr rfl) (by first | exact Or.inl rfl | exact Or.inr rfl)) (tS_cons (tS_setH (tA_lc (own := [("_law_part", 10)]) rfl sc.nd (i := 5) rfl rfl rfl (tI_seq rfl (tM_gf G__law_any_row (hr.mono (by decide)) pass_own rfl (tMA_cons (tM_var (pv 2)) tMA_nil rfl) (by decide) rfl rfl)) (blkOk_by (by kernel_rfl)) (by decide) (fun _ _ _ _ _ => (tG_name (i := 10) sc.nd rfl (by first | exact Or.inl rfl | exact Or.inr rfl) (by first | exact Or.inl rfl | exact Or.inr rfl))) (fun _ _ _ _ _ => pts_yes) (fun _ _ _ _ _ => (tM_fz (tC_list rfl rfl T.n_list rfl (tM_var (pv 10)) rfl rfl))) (fun _ => rfl)))
  (tS_cons (tS_if (tT_cmp (om_ne rfl (Room.units hr)) (tM_gf G__law_refused (hr.mono (by decide)) pass_own rfl (tMA_cons (tM_ixA (Room.units hr) rfl rfl rfl (tM_var (pv 5)) (tM_c pe_int fun _ _ _ => .int _) (fun _ _ => rfl)) (tMA_cons (tM_ixA (Room.units hr) rfl rfl rfl (tM_var (pv 5)) (tM_c pe_int fun _ _ _ => .int _) (fun _ _ => rfl)) (tMA_cons (tM_ixA (Room.units hr) rfl rfl rfl (tM_var (pv 5)) (tM_c pe_int fun _ _ _ => .int _) (fun _ _ => rfl)) tMA_nil rfl) rfl) rfl) (by decide) rfl rfl) (tM_str [109, 97, 100, 101]) (nomark _)) (tS_one (tS_ret (tM_c pe_bl fun _ _ _ => .bl false))) tS_nil)
  (tS_cons (tS_for loops_own rfl (tI_rng1 rfl T.n_range (tM_bin (oa_add rfl) (tM_c pe_int fun _ _ _ => .int _) (tM_gf G__law_take (hr.mono (by decide)) pass_own rfl (tMA_cons (tM_var (pv 2)) (tMA_cons (tM_c pe_int fun _ _ _ => .int _) tMA_nil rfl) rfl) (by decide) rfl rfl)) rfl) (tG_name (i := 6) sc.nd rfl (by first | exact Or.inl rfl | exact Or.inr rfl) (by first | exact Or.inl rfl | exact Or.inr rfl)) (tS_cons (tS_par rfl sc.nd (i := 7) (j := 8) rfl rfl (by decide) rfl rfl (tMA_cons (tM_gf G__law_take (hr.mono (by decide)) pass_own rfl (tMA_cons (tM_var (pv 2)) (tMA_cons (tM_c pe_int fun _ _ _ => .int _) tMA_nil rfl) rfl) (by decide) rfl rfl) (tMA_cons (tM_gf G__law_take (hr.mono (by decide)) pass_own rfl (tMA_cons (tM_var (pv 2)) (tMA_cons (tM_c pe_int fun _ _ _ => .int _) tMA_nil rfl) rfl) (by decide) rfl rfl) tMA_nil rfl) rfl) rfl rfl)
  (tS_one (tS_if (tT_cmp (om_eq rfl (Room.units hr)) (tM_var (pv 8)) (tM_c pe_int fun _ _ _ => .int _) (nomark _)) (tS_one (tS_asg (tM_gf G__law_any (hr.mono (by decide)) pass_own rfl (tMA_cons (tM_var (pv 2)) (tMA_cons (tM_c pe_int fun _ _ _ => .int _) tMA_nil rfl) rfl) (by decide) rfl rfl) (tT_sub (E := E) (Room.units hr) rfl rfl rfl (tM_var (pv 5)) (tM_var (pv 7)) fun _ => rfl) rfl rfl rfl)) (tS_one (tS_if (PW.pt (tT_and (tT_cmp (om_eq rfl (Room.units hr)) (tM_var (pv 8)) (tM_c pe_int fun _ _ _ => .int _) (nomark _)) (pw_and1 (tT_val rfl (tM_isi rfl rfl T.n_isinstance rfl (tM_ixA (Room.units hr) rfl rfl rfl (tM_var (pv 5)) (tM_var (pv 7)) (fun _ _ => rfl)) (pe_bltn rfl T.n_list rfl (show RelV (.ty "list") (.type "list") from rfl)) (.ty "list") T.i_list rfl rfl rfl) fun _ => rfl)))) (tS_cons (tS_set (i := 9) sc.nd rfl (by first | exact Or.inl rfl | exact Or.inr rfl) (tM_gf G__law_take (hr.mono (by decide)) pass_own rfl (tMA_cons (tM_var (pv 2)) (tMA_cons (tM_bin (oa_add rfl) (tM_callB (cr_lenA rfl) rfl T.n_len rfl (tMA_cons (tM_ixA (Room.units hr) rfl rfl rfl (tM_var (pv 5)) (tM_var (pv 7)) (fun _ _ => rfl)) tMA_nil rfl) (by decide) (by decide) rfl rfl) (tM_c pe_int fun _ _ _ => .int _)) tMA_nil rfl) rfl) (by decide) rfl rfl) rfl (by first | exact Or.inl rfl | exact Or.inr rfl))
  (tS_one (tS_asg (tM_bin (oa_add rfl) (tM_bin (oa_add rfl) (tM_sl rfl (tM_ixA (Room.units hr) rfl rfl rfl (tM_var (pv 5)) (tM_var (pv 7)) (fun _ _ => rfl)) po_n (po_s (tM_var (pv 9)))) (tM_lst (tMA_cons (tM_gf G__law_pick (hr.mono (by decide)) pass_own rfl (tMA_cons (tM_var (pv 2)) (tMA_cons (tM_var (pv 3)) tMA_nil rfl) rfl) (by decide) rfl rfl) tMA_nil rfl))) (tM_sl rfl (tM_ixA (Room.units hr) rfl rfl rfl (tM_var (pv 5)) (tM_var (pv 7)) (fun _ _ => rfl)) (po_s (tM_var (pv 9))) po_n)) (tT_sub (E := E) (Room.units hr) rfl rfl rfl (tM_var (pv 5)) (tM_var (pv 7)) fun _ => rfl) rfl rfl rfl))) (tS_one (tS_asg (tM_gf G__law_pick (hr.mono (by decide)) pass_own rfl (tMA_cons (tM_var (pv 2)) (tMA_cons (tM_lst (tMA_cons (tM_tup tMA_nil) (tMA_cons (tM_lst tMA_nil) (tMA_cons (tM_str [104, 101, 114, 101]) (tMA_cons (tM_str [114, 101, 97, 100]) (tMA_cons (tM_tup (tMA_cons (tM_str [104, 101, 114, 101]) tMA_nil rfl)) (tMA_cons (tM_lst (tMA_cons (tM_str [115, 97, 109, 101]) tMA_nil rfl)) (tMA_cons (tM_lst (tMA_cons (tM_str [114, 101, 97, 100]) tMA_nil rfl)) (tMA_cons (tM_c pe_non fun _ _ _ => .non) (tMA_cons (tM_c pe_int fun _ _ _ => .int _) tMA_nil rfl) rfl) rfl) rfl) rfl) rfl) rfl) rfl) rfl)) tMA_nil rfl) rfl) (by decide) rfl rfl) (tT_sub (E := E) (Room.units hr) rfl rfl rfl (tM_var (pv 5)) (tM_var (pv 7)) fun _ => rfl) rfl rfl rfl))))))) fun _ => rfl)
  (tS_one (tS_if (tT_cmp (om_ne rfl (Room.units hr)) (tM_gf G__law_refused (hr.mono (by decide)) pass_own rfl (tMA_cons (tM_ixA (Room.units hr) rfl rfl rfl (tM_var (pv 5)) (tM_c pe_int fun _ _ _ => .int _) (fun _ _ => rfl)) (tMA_cons (tM_ixA (Room.units hr) rfl rfl rfl (tM_var (pv 5)) (tM_c pe_int fun _ _ _ => .int _) (fun _ _ => rfl)) (tMA_cons (tM_ixA (Room.units hr) rfl rfl rfl (tM_var (pv 5)) (tM_c pe_int fun _ _ _ => .int _) (fun _ _ => rfl)) tMA_nil rfl) rfl) rfl) (by decide) rfl rfl) (tM_gf G__law_due (hr.mono (by decide)) pass_own rfl (tMA_cons (tM_ixA (Room.units hr) rfl rfl rfl (tM_var (pv 5)) (tM_c pe_int fun _ _ _ => .int _) (fun _ _ => rfl)) (tMA_cons (tM_ixA (Room.units hr) rfl rfl rfl (tM_var (pv 5)) (tM_c pe_int fun _ _ _ => .int _) (fun _ _ => rfl)) (tMA_cons (tM_ixA (Room.units hr) rfl rfl rfl (tM_var (pv 5)) (tM_c pe_int fun _ _ _ => .int _) (fun _ _ => rfl)) tMA_nil rfl) rfl) rfl) (by decide) rfl rfl) (nomark _)) (tS_one (tS_ret (tM_c pe_bl fun _ _ _ => .bl false))) tS_nil))))) fun _ => rfl))))) fun _ => rfl)
  (tS_one (tS_ret (tM_and (tM_cmp (om_eq rfl (Room.units hr)) (tM_gf G__law_refused (hr.mono (by decide)) pass_own rfl (tMA_cons (tM_lst tMA_nil) (tMA_cons (tM_lst tMA_nil) (tMA_cons (tM_lst tMA_nil) tMA_nil rfl) rfl) rfl) (by decide) rfl rfl) (tM_str [110, 101, 119, 115]) (nomark _)) (tM_one (tM_cmp (om_eq rfl (Room.units hr)) (tM_gf G__law_refused (hr.mono (by decide)) pass_own rfl (tMA_cons (tM_tup (tMA_cons (tM_str [111, 118, 101, 114]) tMA_nil rfl)) (tMA_cons (tM_tup tMA_nil) (tMA_cons (tM_tup tMA_nil) tMA_nil rfl) rfl) rfl) (by decide) rfl rfl) (tM_str [109, 97, 100, 101]) (nomark _)))))))
theorem law_fn  (htop : (P1.main.scope.names.lookup ("super" : Str)).isSome = false) (T : Tx P1 w K mg) (c : SaysX fn ex tbs P1.main.file xs w K) {fd : FuncData} (FD : FunD K "law" "law" (defArgs s_law) (defBody s_law) (defScope s_law) [] [] (He.ga K "law") fd) : FnG P1 w K mg base (L2.CX P1 w) 12 (He.ga K "law") fd ["_law_script"] (spM (PP P1 w K) 1 f_law) := by
  have Gx_InvalidRow : GX P1 w K mg base (PP P1 w K) "InvalidRow" 1 211597303 1 := gX_ok (nmk (by decide +kernel)) (c.xf 0 (d := dx_InvalidRow) rfl) es_InvalidRow htop T.n_super T.g_InvalidRow (fun _ _ _ _ _ _ _ _ _ _ => rfl)
  have G__law_take : GF P1 w K mg base (PP P1 w K) "_law_take" 2 2 f__law_take [] := g__law_take T (c.fd 0 (d := d__law_take) rfl) 
  have G__law_pick : GF P1 w K mg base (PP P1 w K) "_law_pick" 3 2 f__law_pick [] := g__law_pick T (c.fd 1 (d := d__law_pick) rfl) G__law_take
  have G__law_any : GF P1 w K mg base (PP P1 w K) "_law_any" 11 2 f__law_any [] := g__law_any T (c.fd 2 (d := d__law_any) rfl) G__law_pick G__law_take
  have G__law_mixed : GF P1 w K mg base (PP P1 w K) "_law_mixed" 3 2 f__law_mixed [] := g__law_mixed T (c.fd 3 (d := d__law_mixed) rfl) G__law_take
  have G__law_any_row : GF P1 w K mg base (PP P1 w K) "_law_any_row" 4 1 f__law_any_row [] := g__law_any_row T (c.fd 4 (d := d__law_any_row) rfl) G__law_mixed G__law_pick G__law_take
  have G__law_box : GF P1 w K mg base (PP P1 w K) "_law_box" 2 3 f__law_box [] := g__law_box T (c.fd 5 (d := d__law_box) rfl) 
  have G__law_are : GF P1 w K mg base (PP P1 w K) "_law_are" 2 2 f__law_are [] := g__law_are T (c.fd 6 (d := d__law_are) rfl) 
  have G__law_due : GF P1 w K mg base (PP P1 w K) "_law_due" 3 3 f__law_due [] := g__law_due T (c.fd 7 (d := d__law_due) rfl) G__law_are
  have G_is_sequence : GF P1 w K mg base (PP P1 w K) "is_sequence" 2 1 f_is_sequence [] := g_is_sequence T (c.fd 8 (d := d_is_sequence) rfl) 
  have G_is_word_of : GF P1 w K mg base (PP P1 w K) "is_word_of" 2 2 f_is_word_of [] := g_is_word_of T (c.fd 9 (d := d_is_word_of) rfl) 
  have G_are_words_of : GF P1 w K mg base (PP P1 w K) "are_words_of" 3 2 f_are_words_of [] := g_are_words_of T (c.fd 10 (d := d_are_words_of) rfl) G_is_sequence G_is_word_of
  have G_is_test : GF P1 w K mg base (PP P1 w K) "is_test" 2 1 f_is_test [] := g_is_test T (c.fd 11 (d := d_is_test) rfl) 
  have G_wrong_part : GF P1 w K mg base (PP P1 w K) "wrong_part" 4 3 f_wrong_part [] := g_wrong_part T (c.fd 12 (d := d_wrong_part) rfl) G_are_words_of G_is_sequence G_is_test
  have G_Row : GC P1 w K mg base (PP P1 w K) "Row" 4 5 3 i_Row [] := g_Row T (c.fd 13 (d := d_Row___init__) rfl) G_wrong_part Gx_InvalidRow
  have G__law_refused : GF P1 w K mg base (PP P1 w K) "_law_refused" 7 3 f__law_refused [] := g__law_refused T (c.fd 14 (d := d__law_refused) rfl) G_Row
  exact ok_law T FD G__law_any G__law_any_row G__law_box G__law_due G__law_pick G__law_refused G__law_take
end
end S7
end

noncomputable section
namespace S7
open PySem PySem.W PySem.Calls PyProof.Rows L2 M7
abbrev R : PySem.W.OpenRow := PySem.W.OpenLaw.row PySem.Challenge.rw_swapwatch_k11_rows_refused
def nm0 : List PySem.Str := ["__name__", "SwapError", "InvalidRow", "InvalidWatcher", "InvalidText", "NEWS", "TESTS", "DEEDS", "is_sequence", "is_word_of", "are_words_of", "is_test", "wrong_part", "Row", "row_in", "_law_box", "_law_take", "_law_pick", "_law_mixed", "_law_any_row", "_law_any", "_law_refused", "_law_are", "_law_due"]
def names : List PySem.Str := nm0
abbrev hk : PySem.W.Hook := hookX 5 fn ex tbs R.prog.main.file xs
def ob (s : PySem.W.SharedT) : MXl := obsXG 5 fn ex tbs R.prog.main.file xs (HandSHeadRun.getT s)
theorem ob_eq (s : PySem.W.SharedT) : ob s = hk.obs s.abs := obsXG_eq (HandSHeadRun.getT_eq s)
theorem run1 (w : World) : HandSHeadRun.RunEq R (PySem.W.view R.prog [27]) hk ob 60000 names (w.withFollow "special-get-raises" false) := by
  intro os
  kernel_rfl
theorem run2 (w : World) : HandSHeadRun.RunEq R (PySem.W.view R.prog [27]) hk ob 60000 names (w.withFollow "special-get-raises" true) := by
  intro os
  kernel_rfl
theorem run (w : World) : HandSHeadRun.RunEq R (PySem.W.view R.prog [27]) hk ob 60000 names w :=
  byRow2 "special-get-raises" (P := fun w => HandSHeadRun.RunEq R (PySem.W.view R.prog [27]) hk ob 60000 names w) run1 run2 w
end S7
end

noncomputable section
namespace S7
open PySem PySem.Spec PyProof.Rows L2 M7
theorem fin {P1 : Program} {w : World} {K : PySem.W.Frag} {h : Heap} {mg : Str → Option Value} {f : Addr} (htop : (P1.main.scope.names.lookup ("super" : Str)).isSome = false) (X : K.In h) (G : h.Ns mainGlobals mg) (y : mg "law" = some (.ref f)) (c : SaysX fn ex tbs P1.main.file xs w K) :
    ∃ (K1 : PySem.W.Frag) (fd : FuncData) (sp : Sp), K1.In h ∧ (∀ (t : Shared) (y : Value), BindsTo t fd ⟨[y], []⟩ [("_law_script", y)]) ∧ (∀ (H : Hp) (b : Addr) (is : List Int), is.length ≤ 63 → (∀ i ∈ is, Builtin.Int.intBits i ≤ 1048576) → Only H → SqL K1 H b (is.map V.int) → sp [.ref b] H (fun v _ => v = .bl true) fun _ _ _ => False) ∧
      ∀ bs : Heap, K1.In bs → bs.Ns mainGlobals mg → FnG P1 w K1 mg bs (L2.CX P1 w) 12 f fd ["_law_script"] sp := by
  obtain ⟨fd, F⟩ := c.fd 15 (d := d_law) rfl
  have T : Tx P1 w K mg := tx X G c
  have e := y.symm.trans T.g_law
  cases e
  have b := FunD.bindsA (ps := ["_law_script"]) F fun _ _ _ _ _ _ us hl => match us, hl with | [_], _ => rfl
  exact ⟨K, fd, spM (PP P1 w K) 1 f_law, X, fun s v => b s [v] rfl, fun H a ns hl hb hO hS => law_sp hO hS (plain ns hl hb), fun bs _ _ => law_fn  htop T c F⟩
end S7
open PySem PySem.W PySem.Calls PyProof.Rows
theorem PySem.Challenge.cw_swapwatch_k11_rows_refused_holds : PySem.Challenge.rw_swapwatch_k11_rows_refused.Holds := by
  w_on; o_law
  refine HandSHeadRun.head_any (r := OpenLaw.row PySem.Challenge.rw_swapwatch_k11_rows_refused) (q := view (OpenLaw.row PySem.Challenge.rw_swapwatch_k11_rows_refused).prog [27]) (H := S7.hk) (ob := S7.ob) (M := 60000) (loose := S7.names) (d := HandSHeadRun.topDef (OpenLaw.row PySem.Challenge.rw_swapwatch_k11_rows_refused).prog 27) (kwd := []) S7.ob_eq
    (by kernel_rfl) (fun s => by kernel_rfl) S7.run (by kernel_rfl) (by kernel_rfl) (by kernel_rfl) (by rfl) (by first | assumption | decide +kernel) (by decide +kernel) ⟨rfl, rfl, rfl, rfl, rfl, by decide +kernel⟩ ?hw ?hc
  case hw => w_witness2
  case hc =>
    refine M7.walk_MG (l := PySem.Challenge.rw_swapwatch_k11_rows_refused) (n := 63) (k := 12) (z := "_law_script") rfl (by decide) (by kernel_rfl) ⟨rfl, by decide, by decide⟩ ?F
    intro w mg fa h Y G y0
    obtain ⟨K, KX, c⟩ := Y
    have y1 : mg ("law" : PySem.Str) = some (.ref fa) := by
      have e : (HandSHeadRun.topDef (OpenLaw.row PySem.Challenge.rw_swapwatch_k11_rows_refused).prog 27).name = ("law" : PySem.Str) := by kernel_rfl
      rw [← e]
      exact y0
    exact S7.fin (by kernel_rfl) KX G y1 c
end
