import PyProof.Rows.All
import Wide.All
import OpenK.AllK
import Wide.FinOn
import HandS.ForMost
import HandS.HeadHook4
import HandS.Head3
import HandS.Star
import HandS.Style
import HandS.HeadEnd
import PySem.Challenge.RW_driveends_k89_errors_by_their_classes
import HandS.Lambda
import HandS.HeadHook1
import HandS.ExcInit
import HandS.ExcValue
import HandS.ExcField
import HandS.TupMul
import HandS.Wide
import HandS.TupAny
import HandS.IsInst
import PyProof.ReprRoads
import PyProof.CallFns
import KE.GoesEnum
import KE.GoesZip
import KE.GoesMore
import HandS.TryOnly
import HandS.Exc
import HandS.Defaults
import HandS.Codes
import HandS.Deep
import HandS.TryMany
import HandS.ExcOwn
import KE.KExcInit
import KE.KExcIs
import KE.DataFind
import HandS.Dict
import PyProof.EqAt
import PyProof.NeKinds
import PyProof.Rows.EqBoolInt
import HandS.Conv
import HandS.TupLen
import PyProof.Rows.TupDisplay
import PyProof.Rows.TupTab
import PyProof.DictRoadsH
import KE.KRevSl
import HandS.SetBool
import HandS.Strs
import HandS.ClsMeth
import HandS.RaiseMore
import KE.KLam
import HandS.EndTab
import PyProof.ReprLen
import PyProof.P3Eq
/-! ## DL1 -/
set_option Elab.async false
set_option linter.all false
set_option maxRecDepth 100000
set_option maxHeartbeats 2000000
/-! DL1: data trees over the hand layer: values D, cells, the state relation SR, steps Stp, readings tD of data functions. -/
namespace DL
open PySem L2

/-- the shapes of further objects -/
inductive Sh where
  | st (ks : List (List Int))
/-- the hash of a tuple of whole numbers -/
def hashI (ks : List Int) : Int := reduceHash (Builtin.Tuple.tupleHashOf (ks.map hashInt))
/-- at a: a dict whose keys are tuples of whole numbers, whose values are all True -/
def StAt (a : Addr) (ks : List (List Int)) (vs : List V) (h : Heap) : Prop :=
  ∃ bs : List Addr, vs = bs.map V.ref ∧ bs.length = ks.length ∧ ks.length ≤ sizeLine ∧ (a == sysModules) = false ∧ ks.Nodup ∧
    ∃ (o : Obj) (es : Array DictEntry) (ep : Nat), h.get? a = some o ∧ o.ExactDict ∧ o.data = .dict es ep ∧ es.toList = (ks.zip bs).map fun q => ({ hash := hashI q.1, key := .ref q.2, val := .bool true } : DictEntry)
def Sh.ho : Sh → Addr → List V → HO
  | .st ks, a, vs => .ext (StAt a ks vs)
/-- data: what a value is worth; lists in it are never changed again; scr: the script, or a list of the written part -/
inductive D where
  | non | bl (b : Bool) | int (i : Int) | str (x : Str) | tup (xs : List D) | lst (xs : List D) | fn (a : Addr) | ty (n : String) | scr (xs : List D) | dct (ks : List Key) (ds : List D) | ins (C : Str) (ks : List Str) (ds : List D)
  | exh (a : Addr) (dd : Option Addr) (c : Str) (fs : List Str) (ds : List D)
  | obj (s : Sh) (ds : List D)
  | cl (c : Str)
  | exv (c : Str) (fs : List Str) (ds : List D)
def kT (k : List Int) : D := .tup (k.map .int)
def Sh.fit : Sh → List D → Prop
  | .st ks, ds => ds = ks.map kT
/-- a mutable object's content -/
inductive O where
  | lst (xs : List D) | dct (ks : List Key) (ds : List D) | ins (C : Str) (ks : List Str) (ds : List D) | obj (s : Sh) (ds : List D)
/-- the tables of code objects that are kept -/
abbrev Tb := List (Addr × Str)
/-- what a slot holds: data, an object of its own, an object lent -/
inductive Cell where
  | imm (d : D) | own (o : O) | bor (o : O)
abbrev Env' := List (Option Cell)
/-- what an expression gives: data, the object of a slot, an object just made -/
inductive R where
  | imm (d : D) | slot (i : Nat) | new (o : O)
/-- an exception: its class, its field -/
structure Ex where
  cls : Str
  fs : List Str
  ds : List D

/-- a tuple of the written part -/
def KTup (K : PySem.W.Frag) (a : Addr) (xs : List V) : Prop :=
  ∃ (o : Obj) (its : Array Value) (n : Nat), K.lookup a = some o ∧ o.cls = .type "tuple" ∧ o.data = .seq its n ∧ its.size ≤ sizeLine ∧ Vals xs its.toList
def KLst (K : PySem.W.Frag) (a : Addr) (xs : List V) : Prop :=
  ∃ (o : Obj) (its : Array Value) (n : Nat), K.lookup a = some o ∧ o.cls = .type "list" ∧ o.dict = none ∧ o.data = .seq its n ∧ its.size ≤ sizeLine ∧ Vals xs its.toList
def ScrAt (K : PySem.W.Frag) (H : Hp) (N : Addr → Prop) (a : Addr) (xs : List V) : Prop := ((∃ o, H a = some (.frz o (.lst xs))) ∧ ¬ N a) ∨ KLst K a xs
def TupAt (K : PySem.W.Frag) (H : Hp) (N : Addr → Prop) (a : Addr) (xs : List V) : Prop := (Rd H a (.tup xs) ∧ ¬ N a) ∨ KTup K a xs
/-- not a table of code objects -/
abbrev Nt (o : HO) : Prop := ∀ ps, o ≠ .tbl ps
/-- all but N's objects stay (and but the tables of code objects) -/
def Keep (N : Addr → Prop) (H H' : Hp) : Prop := ∀ b o, H b = some o → ¬ N b → Nt o → H' b = some o
theorem nt_lst {xs : List V} : Nt (.lst xs) := fun _ z => nomatch z
theorem nt_tup {xs : List V} : Nt (.tup xs) := fun _ z => nomatch z
theorem nt_dK {xs : List (Key × V)} : Nt (.dK xs) := fun _ z => nomatch z
theorem nt_ins {C dx : Addr} {xs : List (Str × V)} : Nt (.ins C dx xs) := fun _ z => nomatch z
theorem nt_sh : ∀ {s : Sh} {a : Addr} {vs : List V}, Nt (s.ho a vs)
  | .st _, _, _ => fun _ z => nomatch z
theorem nt_frz {o : Obj} {u : HO} : Nt (.frz o u) := fun _ z => nomatch z
/-- of a kind that may change -/
def Mb (u : HO) : Prop := Nt u ∧ ∀ ys, u ≠ .tup ys
def Lv (H : Hp) (a : Addr) : Prop := ∃ u, H a = some u ∧ Mb u
theorem Lv.ne {H : Hp} {a : Addr} (h : Lv H a) : H a ≠ none := by
  obtain ⟨u, e, _⟩ := h
  rw [e]; intro z; cases z
theorem Lv.upd {H : Hp} {a p : Addr} {o : HO} (h : Lv H a) (hp : H p = none) : Lv (upd H p o) a := by
  obtain ⟨u, e, m⟩ := h
  exact ⟨u, by rw [upd_ne (ne_of_none e hp)]; exact e, m⟩
/-- what may be changed later: what could be, or new -/
def Fewer (H : Hp) (N N' : Addr → Prop) : Prop := ∀ a, N' a → N a ∨ H a = none

/-- the fields of an exception whose dict is at dd -/
def ExAt (H : Hp) (N : Addr → Prop) : Option Addr → List Str → List V → Prop
  | none, fs, _ => fs = []
  | some d, fs, vs => H d = some (.xd (fs.zip vs)) ∧ ¬ N d
theorem nt_xd {fs : List (Str × V)} : Nt (.xd fs) := fun _ z => nomatch z
theorem ExAt.keep {H H' : Hp} {N N' : Addr → Prop} (k : Keep N H H') (f : Fewer H N N') : ∀ {dd : Option Addr} {fs : List Str} {vs : List V}, ExAt H N dd fs vs → ExAt H' N' dd fs vs
  | none, _, _, h => h
  | some d, _, _, h => ⟨k d _ h.1 h.2 nt_xd, fun z => (f d z).elim h.2 (by rw [h.1]; intro z; cases z)⟩
/-- an exception of the class C as a value: at a, of no fields, or with a dict that nobody else has -/
def ExvAt (H : Hp) (N : Addr → Prop) (C a : Addr) (fs : List Str) (vs : List V) : Prop :=
  ¬ N a ∧ ((fs = [] ∧ H a = some (ExO (.ref C) a)) ∨ ∃ d, H a = some (exo a C (some d)) ∧ H d = some (exd d (fs.zip vs)) ∧ ¬ N d)
theorem nt_ExO {cls : Value} {a : Addr} : Nt (ExO cls a) := fun ps z => by
  have z' : HO.ext _ = HO.tbl ps := z
  cases z'
theorem nt_exo {a C : Addr} {d : Option Addr} : Nt (exo a C d) := fun ps z => by
  have z' : HO.ext _ = HO.tbl ps := z
  cases z'
theorem nt_exd {d : Addr} {fs : List (Str × V)} : Nt (exd d fs) := fun ps z => by
  have z' : HO.ext _ = HO.tbl ps := z
  cases z'
theorem ExvAt.keep {H H' : Hp} {N N' : Addr → Prop} (k : Keep N H H') (f : Fewer H N N') {C a : Addr} {fs : List Str} {vs : List V} (h : ExvAt H N C a fs vs) : ExvAt H' N' C a fs vs := by
  obtain ⟨n, h⟩ := h
  have st : ∀ {b : Addr} {o : HO}, H b = some o → ¬ N b → ¬ N' b := fun e nb z => (f _ z).elim nb (by rw [e]; intro z; cases z)
  rcases h with ⟨e, h⟩ | ⟨d, h1, h2, nd⟩
  · exact ⟨st h n, .inl ⟨e, k a _ h n nt_ExO⟩⟩
  · exact ⟨st h1 n, .inr ⟨d, k a _ h1 n nt_exo, k d _ h2 nd nt_exd, st h2 nd⟩⟩
mutual
/-- v is worth d in H; it leans on no object of N -/
def DV (K : PySem.W.Frag) (H : Hp) (N : Addr → Prop) : D → V → Prop
  | .non, v => v = .non
  | .bl b, v => v = .bl b
  | .int i, v => v = .int i
  | .str x, v => v = .str x
  | .tup xs, v => ∃ a vs, v = .ref a ∧ TupAt K H N a vs ∧ DVs K H N xs vs
  | .lst xs, v => ∃ a vs, v = .ref a ∧ (H a = some (.lst vs) ∧ ¬ N a) ∧ DVs K H N xs vs
  | .fn a, v => v = .ref a
  | .ty n, v => v = .ty n
  | .scr xs, v => ∃ a vs, v = .ref a ∧ ScrAt K H N a vs ∧ DVs K H N xs vs
  | .dct ks xs, v => ∃ a vs, v = .ref a ∧ (H a = some (.dK (ks.zip vs)) ∧ ¬ N a ∧ ks.length = xs.length) ∧ DVs K H N xs vs
  | .ins C ks xs, v => ∃ a vs, v = .ref a ∧ (∃ dx, H a = some (.ins (He.ga K C) dx (ks.zip vs)) ∧ ¬ N a ∧ ks.length = xs.length) ∧ DVs K H N xs vs
  | .exh a dd c fs xs, v => ∃ vs, v = .ref a ∧ (ExAt H N dd fs vs ∧ fs.length = xs.length) ∧ DVs K H N xs vs
  | .obj s xs, v => ∃ a vs, v = .ref a ∧ (H a = some (s.ho a vs) ∧ ¬ N a ∧ s.fit xs) ∧ DVs K H N xs vs
  | .cl c, v => v = .ref (He.ga K c)
  | .exv c fs xs, v => ∃ a vs, v = .ref a ∧ (ExvAt H N (He.ga K c) a fs vs ∧ fs.length = xs.length) ∧ DVs K H N xs vs
def DVs (K : PySem.W.Frag) (H : Hp) (N : Addr → Prop) : List D → List V → Prop
  | [], vs => vs = []
  | x :: xs, vs => ∃ v r, vs = v :: r ∧ DV K H N x v ∧ DVs K H N xs r
end
section
variable {K : PySem.W.Frag} {H H' : Hp} {N N' : Addr → Prop}
theorem rd_keep {a : Addr} {u : HO} (k : Keep N H H') (f : Fewer H N N') (h : Rd H a u ∧ ¬ N a) (nt : Nt u) : Rd H' a u ∧ ¬ N' a := by
  obtain ⟨r, n⟩ := h
  have live : H a ≠ none := by
    rcases r with r | ⟨o, r⟩ <;> (rw [r]; intro z; cases z)
  refine ⟨?_, fun z => (f a z).elim n live⟩
  rcases r with r | ⟨o, r⟩
  · exact .inl (k a _ r n nt)
  · exact .inr ⟨o, k a _ r n nt_frz⟩
mutual
theorem DV.keep (k : Keep N H H') (f : Fewer H N N') : ∀ (d : D) (v : V), DV K H N d v → DV K H' N' d v
  | .non, v, h => by simp only [DV] at h ⊢; exact h
  | .bl b, v, h => by simp only [DV] at h ⊢; exact h
  | .int i, v, h => by simp only [DV] at h ⊢; exact h
  | .str x, v, h => by simp only [DV] at h ⊢; exact h
  | .tup xs, v, h => by
    simp only [DV] at h ⊢
    obtain ⟨a, vs, e, t, q⟩ := h
    refine ⟨a, vs, e, ?_, DVs.keep k f xs vs q⟩
    rcases t with t | t
    · exact .inl (rd_keep k f t nt_tup)
    · exact .inr t
  | .lst xs, v, h => by
    simp only [DV] at h ⊢
    obtain ⟨a, vs, e, t, q⟩ := h
    exact ⟨a, vs, e, ⟨k a _ t.1 t.2 nt_lst, fun z => (f a z).elim t.2 (by rw [t.1]; intro z; cases z)⟩, DVs.keep k f xs vs q⟩
  | .fn a, v, h => by simp only [DV] at h ⊢; exact h
  | .ty n, v, h => by simp only [DV] at h ⊢; exact h
  | .scr xs, v, h => by
    simp only [DV] at h ⊢
    obtain ⟨a, vs, e, t, q⟩ := h
    refine ⟨a, vs, e, ?_, DVs.keep k f xs vs q⟩
    rcases t with ⟨⟨o, t⟩, n⟩ | t
    · exact .inl ⟨⟨o, k a _ t n nt_frz⟩, fun z => (f a z).elim n (by rw [t]; intro z; cases z)⟩
    · exact .inr t
  | .dct ks xs, v, h => by
    simp only [DV] at h ⊢
    obtain ⟨a, vs, e, t, q⟩ := h
    exact ⟨a, vs, e, ⟨k a _ t.1 t.2.1 nt_dK, fun z => (f a z).elim t.2.1 (by rw [t.1]; intro z; cases z), t.2.2⟩, DVs.keep k f xs vs q⟩
  | .ins C ks xs, v, h => by
    simp only [DV] at h ⊢
    obtain ⟨a, vs, e, ⟨dx, t⟩, q⟩ := h
    exact ⟨a, vs, e, ⟨dx, k a _ t.1 t.2.1 nt_ins, fun z => (f a z).elim t.2.1 (by rw [t.1]; intro z; cases z), t.2.2⟩, DVs.keep k f xs vs q⟩
  | .exh a dd c fs xs, v, h => by
    simp only [DV] at h ⊢
    obtain ⟨vs, e, t, q⟩ := h
    exact ⟨vs, e, ⟨t.1.keep k f, t.2⟩, DVs.keep k f xs vs q⟩
  | .obj s xs, v, h => by
    simp only [DV] at h ⊢
    obtain ⟨a, vs, e, t, q⟩ := h
    exact ⟨a, vs, e, ⟨k a _ t.1 t.2.1 nt_sh, fun z => (f a z).elim t.2.1 (by rw [t.1]; intro z; cases z), t.2.2⟩, DVs.keep k f xs vs q⟩
  | .cl c, v, h => by simp only [DV] at h ⊢; exact h
  | .exv c fs xs, v, h => by
    simp only [DV] at h ⊢
    obtain ⟨a, vs, e, t, q⟩ := h
    exact ⟨a, vs, e, ⟨t.1.keep k f, t.2⟩, DVs.keep k f xs vs q⟩
theorem DVs.keep (k : Keep N H H') (f : Fewer H N N') : ∀ (xs : List D) (vs : List V), DVs K H N xs vs → DVs K H' N' xs vs
  | [], vs, h => by simp only [DVs] at h ⊢; exact h
  | x :: xs, vs, h => by
    simp only [DVs] at h ⊢
    obtain ⟨v, r, e, h1, h2⟩ := h
    exact ⟨v, r, e, DV.keep k f x v h1, DVs.keep k f xs r h2⟩
end
theorem DVs.length : ∀ {xs : List D} {vs : List V}, DVs K H N xs vs → vs.length = xs.length
  | [], vs, h => by simp only [DVs] at h; rw [h]; rfl
  | x :: xs, vs, h => by
    simp only [DVs] at h
    obtain ⟨v, r, e, _, h2⟩ := h
    rw [e, List.length_cons, List.length_cons, DVs.length h2]
theorem DVs.get : ∀ {xs : List D} {vs : List V} {i : Nat} {v : V}, DVs K H N xs vs → vs[i]? = some v → ∃ d, xs[i]? = some d ∧ DV K H N d v
  | [], vs, i, v, h, e => by simp only [DVs] at h; rw [h] at e; simp at e
  | x :: xs, vs, i, v, h, e => by
    simp only [DVs] at h
    obtain ⟨w, r, e1, h1, h2⟩ := h
    rw [e1] at e
    cases i with
    | zero => simp at e; rw [← e]; exact ⟨x, rfl, h1⟩
    | succ i =>
      simp at e
      obtain ⟨d, q1, q2⟩ := DVs.get (i := i) h2 e
      exact ⟨d, by simpa using q1, q2⟩
theorem DVs.getD' : ∀ {xs : List D} {vs : List V} {i : Nat} {d : D}, DVs K H N xs vs → xs[i]? = some d → ∃ v, vs[i]? = some v ∧ DV K H N d v
  | [], vs, i, v, h, e => by simp at e
  | x :: xs, vs, i, v, h, e => by
    simp only [DVs] at h
    obtain ⟨w, r, e1, h1, h2⟩ := h
    rw [e1]
    cases i with
    | zero => simp at e; rw [← e]; exact ⟨w, rfl, h1⟩
    | succ i =>
      simp at e
      obtain ⟨d, q1, q2⟩ := DVs.getD' (i := i) h2 e
      exact ⟨d, by simpa using q1, q2⟩
theorem DVs.append : ∀ {xs ys : List D} {vs ws : List V}, DVs K H N xs vs → DVs K H N ys ws → DVs K H N (xs ++ ys) (vs ++ ws)
  | [], ys, vs, ws, h, q => by simp only [DVs] at h; rw [h]; exact q
  | x :: xs, ys, vs, ws, h, q => by
    simp only [DVs] at h
    obtain ⟨v, r, e, h1, h2⟩ := h
    rw [e]
    show DVs K H N (x :: (xs ++ ys)) (v :: (r ++ ws))
    simp only [DVs]
    exact ⟨v, _, rfl, h1, DVs.append h2 q⟩
theorem DVs.nil : DVs K H N [] [] := by simp only [DVs]
theorem DVs.cons {x : D} {xs : List D} {v : V} {vs : List V} (h : DV K H N x v) (t : DVs K H N xs vs) : DVs K H N (x :: xs) (v :: vs) := by
  simp only [DVs]
  exact ⟨v, vs, rfl, h, t⟩
theorem DVs.set : ∀ {xs : List D} {vs : List V} {d : D} {v : V} (i : Nat), DVs K H N xs vs → DV K H N d v → DVs K H N (xs.set i d) (vs.set i v)
  | [], vs, d, v, i, h, q => by simp only [DVs] at h; rw [h]; exact DVs.nil
  | x :: xs, vs, d, v, i, h, q => by
    simp only [DVs] at h
    obtain ⟨w, r, e, h1, h2⟩ := h
    rw [e]
    cases i with
    | zero => exact DVs.cons q h2
    | succ i => exact DVs.cons h1 (DVs.set i h2 q)
theorem DVs.take : ∀ {xs : List D} {vs : List V} (n : Nat), DVs K H N xs vs → DVs K H N (xs.take n) (vs.take n)
  | xs, vs, 0, h => DVs.nil
  | [], vs, n + 1, h => by simp only [DVs] at h; rw [h]; exact DVs.nil
  | x :: xs, vs, n + 1, h => by
    simp only [DVs] at h
    obtain ⟨w, r, e, h1, h2⟩ := h
    rw [e]
    exact DVs.cons h1 (DVs.take n h2)
theorem DVs.drop : ∀ {xs : List D} {vs : List V} (n : Nat), DVs K H N xs vs → DVs K H N (xs.drop n) (vs.drop n)
  | xs, vs, 0, h => h
  | [], vs, n + 1, h => by simp only [DVs] at h; rw [h]; exact DVs.nil
  | x :: xs, vs, n + 1, h => by
    simp only [DVs] at h
    obtain ⟨w, r, e, h1, h2⟩ := h
    rw [e]
    exact DVs.drop n h2
theorem DVs.flat {xs : List D} {vs : List V} (h : DVs K H N xs vs) : ∀ n : Nat, DVs K H N (List.replicate n xs).flatten (List.replicate n vs).flatten
  | 0 => DVs.nil
  | n + 1 => by
    rw [List.replicate_succ, List.replicate_succ, List.flatten_cons, List.flatten_cons]
    exact DVs.append h (DVs.flat h n)
theorem ScrAt.sq {a : Addr} {vs : List V} (h : ScrAt K H N a vs) : SqL K H a vs := by
  rcases h with h | h
  · obtain ⟨⟨o, e⟩, _⟩ := h
    exact .inl (.inr ⟨o, e⟩)
  · exact .inr h
theorem TupAt.sq {a : Addr} {vs : List V} (h : TupAt K H N a vs) : SqT K H a vs := by
  rcases h with h | h
  · exact .inl h.1
  · exact .inr h
end

/-! ### the state -/
/-- the objects that slots own -/
def Own (σ : L2.St) (ρ : Env') (a : Addr) : Prop := ∃ (i : Nat) (o : O), ρ[i]? = some (some (.own o)) ∧ σ[i]? = some (some (V.ref a))
/-- what nothing may lean on -/
def Nn (Φ : Addr → Prop) (σ : L2.St) (ρ : Env') (a : Addr) : Prop := Φ a ∨ Own σ ρ a
def OV (K : PySem.W.Frag) (H : Hp) (N : Addr → Prop) (a : Addr) : O → Prop
  | .lst xs => ∃ vs, H a = some (.lst vs) ∧ DVs K H N xs vs
  | .dct ks xs => ∃ vs, (H a = some (.dK (ks.zip vs)) ∧ ks.length = xs.length) ∧ DVs K H N xs vs
  | .ins C ks xs => ∃ vs, (∃ dx, H a = some (.ins (He.ga K C) dx (ks.zip vs)) ∧ ks.length = xs.length) ∧ DVs K H N xs vs
  | .obj s xs => ∃ vs, (H a = some (s.ho a vs) ∧ s.fit xs) ∧ DVs K H N xs vs
/-- where an object stands; it stays what it is where that place is kept -/
theorem OV.at {K : PySem.W.Frag} {H : Hp} {N : Addr → Prop} {a : Addr} : ∀ {o : O}, OV K H N a o → ∃ u, H a = some u ∧ Nt u ∧ ∀ (H' : Hp) (N' : Addr → Prop), H' a = some u → Keep N H H' → Fewer H N N' → OV K H' N' a o
  | .lst _, h => let ⟨vs, e, q⟩ := h; ⟨_, e, nt_lst, fun _ _ e' k f => ⟨vs, e', DVs.keep k f _ _ q⟩⟩
  | .dct _ _, h => let ⟨vs, e, q⟩ := h; ⟨_, e.1, nt_dK, fun _ _ e' k f => ⟨vs, ⟨e', e.2⟩, DVs.keep k f _ _ q⟩⟩
  | .ins _ _ _, h => let ⟨vs, ⟨dx, e⟩, q⟩ := h; ⟨_, e.1, nt_ins, fun _ _ e' k f => ⟨vs, ⟨dx, e', e.2⟩, DVs.keep k f _ _ q⟩⟩
  | .obj _ _, h => let ⟨vs, e, q⟩ := h; ⟨_, e.1, nt_sh, fun _ _ e' k f => ⟨vs, ⟨e', e.2⟩, DVs.keep k f _ _ q⟩⟩
theorem OV.lv {K : PySem.W.Frag} {H : Hp} {N : Addr → Prop} {a : Addr} : ∀ {o : O}, OV K H N a o → Lv H a
  | .lst _, h => let ⟨vs, e, q⟩ := h; ⟨_, e, nt_lst, fun _ z => nomatch z⟩
  | .dct _ _, h => let ⟨vs, e, q⟩ := h; ⟨_, e.1, nt_dK, fun _ z => nomatch z⟩
  | .ins _ _ _, h => let ⟨vs, ⟨dx, e⟩, q⟩ := h; ⟨_, e.1, nt_ins, fun _ z => nomatch z⟩
  | .obj (.st _) _, h => let ⟨vs, e, q⟩ := h; ⟨_, e.1, nt_sh, fun _ z => nomatch z⟩
theorem OV.live {K : PySem.W.Frag} {H : Hp} {N : Addr → Prop} {a : Addr} {o : O} (h : OV K H N a o) : H a ≠ none := by
  obtain ⟨u, e, _⟩ := h.at
  rw [e]; intro z; cases z
def CV (K : PySem.W.Frag) (H : Hp) (Φ N : Addr → Prop) : Cell → V → Prop
  | .imm d, v => DV K H N d v
  | .own o, v => ∃ a, v = .ref a ∧ ¬ Φ a ∧ OV K H N a o
  | .bor o, v => ∃ a, v = .ref a ∧ Φ a ∧ OV K H N a o
structure SR (K : PySem.W.Frag) (τ : Tb) (H : Hp) (Φ : Addr → Prop) (σ : L2.St) (ρ : Env') : Prop where
  len : ρ.length = σ.length
  cell : ∀ (i : Nat) (c : Cell), ρ[i]? = some (some c) → ∃ v, σ[i]? = some (some v) ∧ CV K H Φ (Nn Φ σ ρ) c v
  inj : ∀ (i j : Nat) (o u : O) (a : Addr), ρ[i]? = some (some (.own o)) → ρ[j]? = some (some (.own u)) → σ[i]? = some (some (V.ref a)) → σ[j]? = some (some (V.ref a)) → i = j
  lv : ∀ a, Φ a → Lv H a
  tab : LamX.Tabs τ H
theorem SR.live {K : PySem.W.Frag} {τ : Tb} {H : Hp} {Φ : Addr → Prop} {σ : L2.St} {ρ : Env'} (h : SR K τ H Φ σ ρ) (a : Addr) (z : Φ a) : H a ≠ none := (h.lv a z).ne
/-- a step: what was not owned stays; owned is what was owned or is new; the slots of io keep their objects -/
structure Stp (io : List Nat) (σ : L2.St) (ρ : Env') (H : Hp) (σ' : L2.St) (ρ' : Env') (H' : Hp) : Prop where
  keep : Keep (Own σ ρ) H H'
  trk : ∀ a, H a ≠ none → H' a ≠ none
  own : ∀ a, Own σ' ρ' a → Own σ ρ a ∨ H a = none
  pin : ∀ j ∈ io, σ'[j]? = σ[j]?
section
variable {K : PySem.W.Frag} {H H' H1 H2 : Hp} {Φ : Addr → Prop} {σ σ' σ1 σ2 : L2.St} {ρ ρ' ρ1 ρ2 : Env'} {io : List Nat} {N : Addr → Prop}
theorem Stp.refl : Stp io σ ρ H σ ρ H := ⟨fun _ _ e _ _ => e, fun _ h => h, fun _ h => .inl h, fun _ _ => rfl⟩
theorem Stp.trans (a : Stp io σ ρ H σ1 ρ1 H1) (b : Stp io σ1 ρ1 H1 σ2 ρ2 H2) : Stp io σ ρ H σ2 ρ2 H2 where
  keep := fun x o e n t => by
    refine b.keep x o (a.keep x o e n t) (fun z => ?_) t
    rcases a.own x z with y | y
    · exact n y
    · rw [e] at y; cases y
  trk := fun x h => b.trk x (a.trk x h)
  own := fun x h => by
    rcases b.own x h with y | y
    · exact a.own x y
    · cases e : H x with
      | none => exact .inr rfl
      | some o => exact absurd y (a.trk x (by rw [e]; intro z; cases z))
  pin := fun j hj => (b.pin j hj).trans (a.pin j hj)
theorem Stp.fewer (a : Stp io σ ρ H σ' ρ' H') : Fewer H (Nn Φ σ ρ) (Nn Φ σ' ρ') := fun x h => by
  rcases h with h | h
  · exact .inl (.inl h)
  · rcases a.own x h with y | y
    · exact .inl (.inr y)
    · exact .inr y
theorem Stp.keepN (a : Stp io σ ρ H σ' ρ' H') : Keep (Nn Φ σ ρ) H H' := fun x o e n t => a.keep x o e (fun z => n (.inr z)) t
theorem Stp.dv {d : D} {v : V} (a : Stp io σ ρ H σ' ρ' H') (h : DV K H (Nn Φ σ ρ) d v) : DV K H' (Nn Φ σ' ρ') d v := DV.keep a.keepN a.fewer d v h
theorem Stp.dvs {d : List D} {v : List V} (a : Stp io σ ρ H σ' ρ' H') (h : DVs K H (Nn Φ σ ρ) d v) : DVs K H' (Nn Φ σ' ρ') d v := DVs.keep a.keepN a.fewer d v h
/-- .. for what only the heap grew -/
theorem Stp.grow {a : Addr} {o : HO} (h : H a = none) : Stp io σ ρ H σ ρ (upd H a o) where
  keep := fun x u e _ _ => by rw [upd_ne (ne_of_none e h)]; exact e
  trk := fun x e => by
    unfold upd
    split
    · intro z; cases z
    · exact e
  own := fun _ h => .inl h
  pin := fun _ _ => rfl
/-- a step within an expression: the same slots, the same cells -/
theorem SR.same {τ : Tb} (h : SR K τ H Φ σ ρ) (s : Stp io σ ρ H σ ρ H') (ho : ∀ a, Own σ ρ a → H' a = H a) (ht : LamX.Tabs τ H') : SR K τ H' Φ σ ρ where
  len := h.len
  inj := h.inj
  lv := fun a q => by
    obtain ⟨u, e, m⟩ := h.lv a q
    by_cases ow : Own σ ρ a
    · exact ⟨u, by rw [ho a ow]; exact e, m⟩
    · exact ⟨u, s.keep a u e ow m.1, m⟩
  tab := ht
  cell := fun i c e => by
    obtain ⟨v, e1, q⟩ := h.cell i c e
    refine ⟨v, e1, ?_⟩
    cases c with
    | imm d => exact s.dv q
    | own o =>
      obtain ⟨a, ev, n, q⟩ := q
      obtain ⟨u, e2, _, q2⟩ := q.at
      exact ⟨a, ev, n, q2 _ _ ((ho a ⟨i, _, e, by rw [e1, ev]⟩).trans e2) s.keepN s.fewer⟩
    | bor o =>
      obtain ⟨a, ev, n, q⟩ := q
      obtain ⟨u, e2, nt, q2⟩ := q.at
      refine ⟨a, ev, n, q2 _ _ (s.keep a _ e2 (fun z => ?_) nt) s.keepN s.fewer⟩
      obtain ⟨j, u, e3, e4⟩ := z
      obtain ⟨v3, e5, a3, ev3, n3, _⟩ := h.cell j _ e3
      rw [e4] at e5
      cases e5
      cases ev3
      exact n3 n
theorem tabs_upd {τ : Tb} {a : Addr} {o : HO} (h : LamX.Tabs τ H) (n : H a = none) : LamX.Tabs τ (upd H a o) := h.ext fun b u e => by rw [upd_ne (ne_of_none e n)]; exact e
/-- an owned object stands in the heap -/
theorem SR.ownLive {τ : Tb} (h : SR K τ H Φ σ ρ) {a : Addr} (q : Own σ ρ a) : H a ≠ none := by
  obtain ⟨i, u, e1, e2⟩ := q
  obtain ⟨v, e3, c, ev, _, q⟩ := h.cell i _ e1
  rw [e2] at e3
  cases e3
  cases ev
  exact q.live
theorem SR.grow {τ : Tb} {a : Addr} {o : HO} (h : SR K τ H Φ σ ρ) (n : H a = none) : SR K τ (upd H a o) Φ σ ρ :=
  h.same (io := []) (Stp.grow n) (fun b q => upd_ne fun z => h.ownLive q (z ▸ n)) (tabs_upd h.tab n)
theorem SR.ownLv {τ : Tb} (h : SR K τ H Φ σ ρ) {a : Addr} (q : Own σ ρ a) : Lv H a := by
  obtain ⟨i, u, e1, e2⟩ := q
  obtain ⟨v, e3, c, ev, _, q⟩ := h.cell i _ e1
  rw [e2] at e3
  cases e3
  cases ev
  exact q.lv
theorem SR.nnLv {τ : Tb} (h : SR K τ H Φ σ ρ) {a : Addr} (q : Nn Φ σ ρ a) : Lv H a := q.elim (h.lv a) h.ownLv
theorem SR.nnLive {τ : Tb} (h : SR K τ H Φ σ ρ) {a : Addr} (q : Nn Φ σ ρ a) : H a ≠ none := q.elim (h.live a) h.ownLive
end
end DL

/-! ## DL2 -/
set_option Elab.async false
set_option linter.all false
set_option maxRecDepth 100000
set_option maxHeartbeats 2000000
/-! DL2: the monad over cells, readings of data functions as expressions' readings, the general rules. -/
namespace DL
open PySem L2

inductive Out (α : Type) where
  | ok (a : α) (ρ : Env') | er (x : Ex) (ρ : Env') | bad
abbrev M (α : Type) := Env' → Out α
def mr {α : Type} (a : α) : M α := fun ρ => .ok a ρ
def mb {α β : Type} (f : M α) (k : α → M β) : M β := fun ρ => match f ρ with
  | .ok a ρ' => k a ρ'
  | .er x ρ' => .er x ρ'
  | .bad => .bad
def mo {α : Type} (o : Option α) : M α := fun ρ => match o with
  | some a => .ok a ρ
  | none => .bad

/-- a step within an expression -/
structure ES (σ : L2.St) (ρ : Env') (H : Hp) (ρ' : Env') (H' : Hp) : Prop where
  keep : Keep (Own σ ρ) H H'
  trk : ∀ a, H a ≠ none → H' a ≠ none
  own : ∀ a, Own σ ρ' a → Own σ ρ a
  bor : ∀ (i : Nat) (o : O), ρ'[i]? = some (some (.bor o)) → ∃ u, ρ[i]? = some (some (.bor u))
def XV (K : PySem.W.Frag) (H : Hp) (N : Addr → Prop) (x : Ex) (cls : Value) (dd : Option Addr) : Prop :=
  cls = .ref (He.ga K x.cls) ∧ ∃ vs, ExAt H N dd x.fs vs ∧ x.fs.length = x.ds.length ∧ DVs K H N x.ds vs
def RV (K : PySem.W.Frag) (H0 H : Hp) (Φ : Addr → Prop) (σ : L2.St) (ρ : Env') : R → V → Prop
  | .imm d, v => DV K H (Nn Φ σ ρ) d v
  | .slot i, v => σ[i]? = some (some v)
  | .new o, v => ∃ a, v = .ref a ∧ H0 a = none ∧ ¬ Nn Φ σ ρ a ∧ OV K H (Nn Φ σ ρ) a o
/-- .. at the end of its expression: nothing leans on an object just made -/
def RVp (K : PySem.W.Frag) (τ : Tb) (H0 H : Hp) (Φ : Addr → Prop) (σ : L2.St) (ρ : Env') : R → V → Prop
  | .imm d, v => DV K H (Nn Φ σ ρ) d v
  | .slot i, v => σ[i]? = some (some v)
  | .new o, v => ∃ a, v = .ref a ∧ H0 a = none ∧ ¬ Nn Φ σ ρ a ∧ SR K τ H (fun x => Φ x ∨ x = a) σ ρ ∧ OV K H (fun x => Nn Φ σ ρ x ∨ x = a) a o
def RVs (K : PySem.W.Frag) (H0 H : Hp) (Φ : Addr → Prop) (σ : L2.St) (ρ : Env') : List R → List V → Prop
  | [], vs => vs = []
  | r :: rs, vs => ∃ v ws, vs = v :: ws ∧ RV K H0 H Φ σ ρ r v ∧ RVs K H0 H Φ σ ρ rs ws

section
variable {K : PySem.W.Frag} {H H' H0 H1 H2 : Hp} {Φ : Addr → Prop} {σ : L2.St} {ρ ρ' ρ1 ρ2 : Env'} {W : WX} {Q Q1 : VK} {io : List Nat}
theorem ES.refl : ES σ ρ H ρ H := ⟨fun _ _ e _ _ => e, fun _ h => h, fun _ h => h, fun _ o h => ⟨o, h⟩⟩
theorem ES.trans (a : ES σ ρ H ρ1 H1) (b : ES σ ρ1 H1 ρ2 H2) : ES σ ρ H ρ2 H2 :=
  ⟨fun x o e n t => b.keep x o (a.keep x o e n t) (fun z => n (a.own x z)) t, fun x h => b.trk x (a.trk x h), fun x h => a.own x (b.own x h), fun i o h => let ⟨u, q⟩ := b.bor i o h; a.bor i u q⟩
theorem ES.stp (a : ES σ ρ H ρ' H') : Stp io σ ρ H σ ρ' H' := ⟨a.keep, a.trk, fun x h => .inl (a.own x h), fun _ _ => rfl⟩
theorem ES.free (a : ES σ ρ H ρ' H') {x : Addr} (h : H' x = none) : H x = none := by
  cases e : H x with
  | none => rfl
  | some o => exact absurd h (a.trk x (by rw [e]; intro z; cases z))
theorem ES.nn (a : ES σ ρ H ρ' H') {x : Addr} (h : Nn Φ σ ρ' x) : Nn Φ σ ρ x := h.imp id (a.own x)
theorem ES.grow {a : Addr} {o : HO} (h : H a = none) : ES σ ρ H ρ (upd H a o) :=
  ⟨(Stp.grow (io := []) h).keep, (Stp.grow (io := []) (σ := σ) (ρ := ρ) h).trk, fun _ h => h, fun _ o h => ⟨o, h⟩⟩
theorem OV.keep {a : Addr} {o : O} (h : OV K H (Nn Φ σ ρ) a o) (s : ES σ ρ H ρ' H') (n : ¬ Nn Φ σ ρ a) : OV K H' (Nn Φ σ ρ') a o := by
  obtain ⟨u, e, nt, q⟩ := h.at
  exact q _ _ (s.keep a _ e (fun z => n (.inr z)) nt) (s.stp (io := [])).keepN (s.stp (io := [])).fewer
theorem RV.step {r : R} {v : V} (h : RV K H0 H Φ σ ρ r v) (s : ES σ ρ H ρ' H') : RV K H0 H' Φ σ ρ' r v := by
  cases r with
  | imm d => exact (s.stp (io := [])).dv h
  | slot i => exact h
  | new o =>
    obtain ⟨a, e, n, m, q⟩ := h
    exact ⟨a, e, n, fun z => m (s.nn z), OV.keep q s m⟩
theorem RV.back {r : R} {v : V} (h : RV K H1 H Φ σ ρ r v) (b : ∀ x, H1 x = none → H0 x = none) : RV K H0 H Φ σ ρ r v := by
  cases r with
  | imm d => exact h
  | slot i => exact h
  | new o =>
    obtain ⟨a, e, n, m, q⟩ := h
    exact ⟨a, e, b a n, m, q⟩
theorem OV.less {N N' : Addr → Prop} {a : Addr} {o : O} (h : OV K H N a o) (f : ∀ x, N' x → N x) : OV K H N' a o := by
  obtain ⟨u, e, _, q⟩ := h.at
  exact q _ _ e (fun b o e _ _ => e) fun x z => .inl (f x z)
theorem RVp.w {r : R} {v : V} (h : RVp K τ H0 H Φ σ ρ r v) : RV K H0 H Φ σ ρ r v := by
  cases r with
  | imm d => exact h
  | slot i => exact h
  | new o =>
    obtain ⟨a, e, n, m, _, q⟩ := h
    exact ⟨a, e, n, m, q.less fun x z => .inl z⟩
theorem RVp.back {r : R} {v : V} (h : RVp K τ H1 H Φ σ ρ r v) (b : ∀ x, H1 x = none → H0 x = none) : RVp K τ H0 H Φ σ ρ r v := by
  cases r with
  | imm d => exact h
  | slot i => exact h
  | new o =>
    obtain ⟨a, e, n, m, q⟩ := h
    exact ⟨a, e, b a n, m, q⟩
/-- the state with one object more that nothing leans on -/
theorem SR.growX {a : Addr} {o : HO} (h : SR K τ H Φ σ ρ) (n : H a = none) (mo : Mb o := by exact ⟨fun _ z => (nomatch z), fun _ z => (nomatch z)⟩) : SR K τ (upd H a o) (fun x => Φ x ∨ x = a) σ ρ := by
  have g := h.grow (o := o) n
  have kp : Keep (Nn Φ σ ρ) H (upd H a o) := fun b u e _ _ => by rw [upd_ne (ne_of_none e n)]; exact e
  have fw : Fewer H (Nn Φ σ ρ) (Nn (fun x => Φ x ∨ x = a) σ ρ) := fun x z => by
    rcases z with (z | z) | z
    · exact .inl (.inl z)
    · exact .inr (by rw [z]; exact n)
    · exact .inl (.inr z)
  refine ⟨h.len, fun i c e => ?_, h.inj, fun x z => ?_, g.tab⟩
  · obtain ⟨v, e1, q⟩ := h.cell i c e
    refine ⟨v, e1, ?_⟩
    cases c with
    | imm d => exact DV.keep kp fw d v q
    | own u =>
      obtain ⟨b, ev, nb, q⟩ := q
      obtain ⟨u', q1, _, q2⟩ := q.at
      have ne : b ≠ a := ne_of_none q1 n
      exact ⟨b, ev, fun z => z.elim nb ne, q2 _ _ (by rw [upd_ne ne]; exact q1) kp fw⟩
    | bor u =>
      obtain ⟨b, ev, nb, q⟩ := q
      obtain ⟨u', q1, _, q2⟩ := q.at
      have ne : b ≠ a := ne_of_none q1 n
      exact ⟨b, ev, .inl nb, q2 _ _ (by rw [upd_ne ne]; exact q1) kp fw⟩
  · rcases z with z | z
    · exact g.lv x z
    · rw [z]; exact ⟨o, upd_same, mo⟩
theorem newP {p : Addr} {xs : List D} {vs : List V} (s : SR K τ H Φ σ ρ) (n : H p = none) (dv : DVs K H (Nn Φ σ ρ) xs vs) : RVp K τ H (upd H p (.lst vs)) Φ σ ρ (.new (.lst xs)) (.ref p) :=
  ⟨p, rfl, n, fun z => s.nnLive z n, s.growX n, vs, upd_same, DVs.keep (N := Nn Φ σ ρ) (fun b u e _ _ => by rw [upd_ne (ne_of_none e n)]; exact e)
    (fun x z => z.elim .inl fun z => .inr (by rw [z]; exact n)) xs vs dv⟩
theorem RVs.step : ∀ {rs : List R} {vs : List V}, RVs K H0 H Φ σ ρ rs vs → ES σ ρ H ρ' H' → RVs K H0 H' Φ σ ρ' rs vs
  | [], vs, h, s => h
  | r :: rs, vs, ⟨v, ws, e, h, t⟩, s => ⟨v, ws, e, h.step s, RVs.step t s⟩
theorem RVs.back : ∀ {rs : List R} {vs : List V}, RVs K H1 H Φ σ ρ rs vs → (∀ x, H1 x = none → H0 x = none) → RVs K H0 H Φ σ ρ rs vs
  | [], vs, h, s => h
  | r :: rs, vs, ⟨v, ws, e, h, t⟩, s => ⟨v, ws, e, h.back s, RVs.back t s⟩

/-! ### what is wanted behind -/
def GoodE (K : PySem.W.Frag) (τ : Tb) (W : WX) (Φ : Addr → Prop) (σ : L2.St) (ρ : Env') (H : Hp) (Q : VK) : Out R → Prop
  | .ok r ρ' => ∀ v H', ES σ ρ H ρ' H' → SR K τ H' Φ σ ρ' → RVp K τ H H' Φ σ ρ' r v → Q v H'
  | .er x ρ' => ∀ cls dd H', ES σ ρ H ρ' H' → SR K τ H' Φ σ ρ' → XV K H' (Nn Φ σ ρ') x cls dd → W cls dd σ H'
  | .bad => False
def GoodT (K : PySem.W.Frag) (τ : Tb) (W : WX) (Φ : Addr → Prop) (σ : L2.St) (ρ : Env') (H : Hp) (Q : Bool → Hp → Prop) : Out Bool → Prop
  | .ok b ρ' => ∀ H', ES σ ρ H ρ' H' → SR K τ H' Φ σ ρ' → Q b H'
  | .er x ρ' => ∀ cls dd H', ES σ ρ H ρ' H' → SR K τ H' Φ σ ρ' → XV K H' (Nn Φ σ ρ') x cls dd → W cls dd σ H'
  | .bad => False
def GoodA (K : PySem.W.Frag) (τ : Tb) (W : WX) (Φ : Addr → Prop) (σ : L2.St) (ρ : Env') (H : Hp) (Q : List V → Hp → Prop) : Out (List R) → Prop
  | .ok rs ρ' => ∀ vs H', ES σ ρ H ρ' H' → SR K τ H' Φ σ ρ' → RVs K H H' Φ σ ρ' rs vs → Q vs H'
  | .er x ρ' => ∀ cls dd H', ES σ ρ H ρ' H' → SR K τ H' Φ σ ρ' → XV K H' (Nn Φ σ ρ') x cls dd → W cls dd σ H'
  | .bad => False
def tD (K : PySem.W.Frag) (τ : Tb) (W : WX) (f : M R) : TE := fun σ H Q => ∃ Φ ρ, SR K τ H Φ σ ρ ∧ GoodE K τ W Φ σ ρ H Q (f ρ)
def tT (K : PySem.W.Frag) (τ : Tb) (W : WX) (f : M Bool) : TT := fun σ H Q => ∃ Φ ρ, SR K τ H Φ σ ρ ∧ GoodT K τ W Φ σ ρ H Q (f ρ)
def tA (K : PySem.W.Frag) (τ : Tb) (W : WX) (f : M (List R)) : TA := fun σ H Q => ∃ Φ ρ, SR K τ H Φ σ ρ ∧ GoodA K τ W Φ σ ρ H Q (f ρ)

theorem GoodE.shift {o : Out R} (h : GoodE K τ W Φ σ ρ H Q o) (s : ES σ ρ H ρ1 H1) : GoodE K τ W Φ σ ρ1 H1 Q o := by
  cases o with
  | ok r ρ' => exact fun v H' s' sr rv => h v H' (s.trans s') sr (rv.back fun x e => s.free e)
  | er x ρ' => exact fun c d H' s' sr xv => h c d H' (s.trans s') sr xv
  | bad => exact h
theorem GoodT.shift {o : Out Bool} {Q : Bool → Hp → Prop} (h : GoodT K τ W Φ σ ρ H Q o) (s : ES σ ρ H ρ1 H1) : GoodT K τ W Φ σ ρ1 H1 Q o := by
  cases o with
  | ok r ρ' => exact fun H' s' sr => h H' (s.trans s') sr
  | er x ρ' => exact fun c d H' s' sr xv => h c d H' (s.trans s') sr xv
  | bad => exact h
theorem GoodA.shift {o : Out (List R)} {Q : List V → Hp → Prop} (h : GoodA K τ W Φ σ ρ H Q o) (s : ES σ ρ H ρ1 H1) : GoodA K τ W Φ σ ρ1 H1 Q o := by
  cases o with
  | ok r ρ' => exact fun v H' s' sr rv => h v H' (s.trans s') sr (rv.back fun x e => s.free e)
  | er x ρ' => exact fun c d H' s' sr xv => h c d H' (s.trans s') sr xv
  | bad => exact h
/-- first f, then k: E to E -/
theorem ee {f : M R} {k : R → M R} (h : GoodE K τ W Φ σ ρ H Q (mb f k ρ))
    (c : ∀ r ρ1 v H1, ES σ ρ H ρ1 H1 → SR K τ H1 Φ σ ρ1 → RV K H H1 Φ σ ρ1 r v → GoodE K τ W Φ σ ρ1 H1 Q (k r ρ1) → Q1 v H1) : GoodE K τ W Φ σ ρ H Q1 (f ρ) := by
  unfold mb at h
  cases e : f ρ with
  | ok r ρ1 => rw [e] at h; exact fun v H1 s sr rv => c r ρ1 v H1 s sr rv.w (GoodE.shift h s)
  | er x ρ1 => rw [e] at h; exact h
  | bad => rw [e] at h; exact h
/-- E to T: the test's value by an expression -/
theorem et {f : M R} {k : R → M Bool} {Q : Bool → Hp → Prop} (h : GoodT K τ W Φ σ ρ H Q (mb f k ρ))
    (c : ∀ r ρ1 v H1, ES σ ρ H ρ1 H1 → SR K τ H1 Φ σ ρ1 → RV K H H1 Φ σ ρ1 r v → GoodT K τ W Φ σ ρ1 H1 Q (k r ρ1) → Q1 v H1) : GoodE K τ W Φ σ ρ H Q1 (f ρ) := by
  unfold mb at h
  cases e : f ρ with
  | ok r ρ1 => rw [e] at h; exact fun v H1 s sr rv => c r ρ1 v H1 s sr rv.w (GoodT.shift h s)
  | er x ρ1 => rw [e] at h; exact h
  | bad => rw [e] at h; exact h
/-- T to E -/
theorem te {f : M Bool} {k : Bool → M R} {Q1 : Bool → Hp → Prop} (h : GoodE K τ W Φ σ ρ H Q (mb f k ρ))
    (c : ∀ b ρ1 H1, ES σ ρ H ρ1 H1 → SR K τ H1 Φ σ ρ1 → GoodE K τ W Φ σ ρ1 H1 Q (k b ρ1) → Q1 b H1) : GoodT K τ W Φ σ ρ H Q1 (f ρ) := by
  unfold mb at h
  cases e : f ρ with
  | ok r ρ1 => rw [e] at h; exact fun H1 s sr => c r ρ1 H1 s sr (GoodE.shift h s)
  | er x ρ1 => rw [e] at h; exact h
  | bad => rw [e] at h; exact h
theorem tt {f : M Bool} {k : Bool → M Bool} {Q Q1 : Bool → Hp → Prop} (h : GoodT K τ W Φ σ ρ H Q (mb f k ρ))
    (c : ∀ b ρ1 H1, ES σ ρ H ρ1 H1 → SR K τ H1 Φ σ ρ1 → GoodT K τ W Φ σ ρ1 H1 Q (k b ρ1) → Q1 b H1) : GoodT K τ W Φ σ ρ H Q1 (f ρ) := by
  unfold mb at h
  cases e : f ρ with
  | ok r ρ1 => rw [e] at h; exact fun H1 s sr => c r ρ1 H1 s sr (GoodT.shift h s)
  | er x ρ1 => rw [e] at h; exact h
  | bad => rw [e] at h; exact h
theorem ae {f : M (List R)} {k : List R → M R} {Q1 : List V → Hp → Prop} (h : GoodE K τ W Φ σ ρ H Q (mb f k ρ))
    (c : ∀ r ρ1 v H1, ES σ ρ H ρ1 H1 → SR K τ H1 Φ σ ρ1 → RVs K H H1 Φ σ ρ1 r v → GoodE K τ W Φ σ ρ1 H1 Q (k r ρ1) → Q1 v H1) : GoodA K τ W Φ σ ρ H Q1 (f ρ) := by
  unfold mb at h
  cases e : f ρ with
  | ok r ρ1 => rw [e] at h; exact fun v H1 s sr rv => c r ρ1 v H1 s sr rv (GoodE.shift h s)
  | er x ρ1 => rw [e] at h; exact h
  | bad => rw [e] at h; exact h
theorem ea {f : M R} {k : R → M (List R)} {Q : List V → Hp → Prop} (h : GoodA K τ W Φ σ ρ H Q (mb f k ρ))
    (c : ∀ r ρ1 v H1, ES σ ρ H ρ1 H1 → SR K τ H1 Φ σ ρ1 → RV K H H1 Φ σ ρ1 r v → GoodA K τ W Φ σ ρ1 H1 Q (k r ρ1) → Q1 v H1) : GoodE K τ W Φ σ ρ H Q1 (f ρ) := by
  unfold mb at h
  cases e : f ρ with
  | ok r ρ1 => rw [e] at h; exact fun v H1 s sr rv => c r ρ1 v H1 s sr rv.w (GoodA.shift h s)
  | er x ρ1 => rw [e] at h; exact h
  | bad => rw [e] at h; exact h
theorem aa {f : M (List R)} {k : List R → M (List R)} {Q Q1 : List V → Hp → Prop} (h : GoodA K τ W Φ σ ρ H Q (mb f k ρ))
    (c : ∀ r ρ1 v H1, ES σ ρ H ρ1 H1 → SR K τ H1 Φ σ ρ1 → RVs K H H1 Φ σ ρ1 r v → GoodA K τ W Φ σ ρ1 H1 Q (k r ρ1) → Q1 v H1) : GoodA K τ W Φ σ ρ H Q1 (f ρ) := by
  unfold mb at h
  cases e : f ρ with
  | ok r ρ1 => rw [e] at h; exact fun v H1 s sr rv => c r ρ1 v H1 s sr rv (GoodA.shift h s)
  | er x ρ1 => rw [e] at h; exact h
  | bad => rw [e] at h; exact h
end

/-! ### weakening -/
section
variable {X : Cx} {e : Expr}
theorem PE.weak {t t' : TE} (h : PE X e t) (i : ∀ σ H Q, t' σ H Q → t σ H Q) : PE X e t' := ⟨fun pins s σ H Q I q => h.run pins s σ H Q I (i σ H Q q)⟩
theorem PT.weak {t t' : TT} (h : PT X e t) (i : ∀ σ H Q, t' σ H Q → t σ H Q) : PT X e t' := ⟨fun pins s σ H Q I q => h.run pins s σ H Q I (i σ H Q q)⟩
theorem PA.weak {es : List Expr} {t t' : TA} (h : PA X es t) (i : ∀ σ H Q, t' σ H Q → t σ H Q) : PA X es t' := ⟨fun pos pins s σ H Q I q => h.run pos pins s σ H Q I (i σ H Q q)⟩
theorem PS.weak {st : Stmt} {t t' : TS} (h : PS X st t) (i : ∀ D σ H, t' D σ H → t D σ H) : PS X st t' := ⟨fun pins s σ H D I q => h.run pins s σ H D I (i D σ H q)⟩
theorem PSs.weak {st : List Stmt} {t t' : TS} (h : PSs X st t) (i : ∀ D σ H, t' D σ H → t D σ H) : PSs X st t' := ⟨fun pins s σ H D I q => h.run pins s σ H D I (i D σ H q)⟩
theorem PI.weak {tg : Expr} {t t' : TI} (h : PI X tg e t) (i : ∀ σ H R, t' σ H R → t σ H R) : PI X tg e t' := ⟨fun pins s σ H R I q => h.run pins s σ H R I (i σ H R q)⟩
theorem PI.or {tg : Expr} {t t' : TI} (h : PI X tg e t) (h' : PI X tg e t') : PI X tg e (fun σ H R => t σ H R ∨ t' σ H R) :=
  ⟨fun pins s σ H R I q => q.elim (h.run pins s σ H R I) (h'.run pins s σ H R I)⟩
theorem OpR.or {f : Value → Value → Sem Value} {r r' : R2} (h : OpR X f r) (h' : OpR X f r') : OpR X f (fun x y H Q => r x y H Q ∨ r' x y H Q) := by
  intro pins s σ H x y v u Q I rx ry q
  exact q.elim (h pins s σ H x y v u Q I rx ry) (h' pins s σ H x y v u Q I rx ry)
theorem CallR.or {f : Value} {r r' : List V → Hp → VK → Prop} (h : CallR X f r) (h' : CallR X f r') : CallR X f (fun x H Q => r x H Q ∨ r' x H Q) := by
  intro pins s σ H x v Q I rx q
  exact q.elim (h pins s σ H x v Q I rx) (h' pins s σ H x v Q I rx)
end

/-! ### what is read -/
/-- an object's content as data -/
def frO : O → D
  | .lst xs => .lst xs
  | .dct ks xs => .dct ks xs
  | .ins C ks xs => .ins C ks xs
  | .obj s xs => .obj s xs
/-- as DV, but a list at the top may be one that changes later -/
def RD (K : PySem.W.Frag) (H : Hp) (N : Addr → Prop) : D → V → Prop
  | .lst xs, v => ∃ a vs, v = .ref a ∧ H a = some (.lst vs) ∧ DVs K H N xs vs
  | .dct ks xs, v => ∃ a vs, v = .ref a ∧ (H a = some (.dK (ks.zip vs)) ∧ ks.length = xs.length) ∧ DVs K H N xs vs
  | .ins C ks xs, v => ∃ a vs, v = .ref a ∧ (∃ dx, H a = some (.ins (He.ga K C) dx (ks.zip vs)) ∧ ks.length = xs.length) ∧ DVs K H N xs vs
  | .obj s xs, v => ∃ a vs, v = .ref a ∧ (H a = some (s.ho a vs) ∧ s.fit xs) ∧ DVs K H N xs vs
  | d, v => DV K H N d v
theorem OV.rd {K : PySem.W.Frag} {H : Hp} {N : Addr → Prop} {a : Addr} : ∀ {o : O}, OV K H N a o → RD K H N (frO o) (.ref a)
  | .lst _, ⟨vs, e, q⟩ => ⟨a, vs, rfl, e, q⟩
  | .dct _ _, ⟨vs, e, q⟩ => ⟨a, vs, rfl, e, q⟩
  | .ins _ _ _, ⟨vs, e, q⟩ => ⟨a, vs, rfl, e, q⟩
  | .obj _ _, ⟨vs, e, q⟩ => ⟨a, vs, rfl, e, q⟩
theorem OV.dv {K : PySem.W.Frag} {H : Hp} {N N' : Addr → Prop} {a : Addr} (n : ¬ N' a) (f : ∀ x, N' x → N x) : ∀ {o : O}, OV K H N a o → DV K H N' (frO o) (.ref a)
  | .lst _, ⟨vs, e, q⟩ => by
    simp only [frO, DV]
    exact ⟨a, vs, rfl, ⟨e, n⟩, DVs.keep (fun _ _ e _ _ => e) (fun x z => .inl (f x z)) _ _ q⟩
  | .dct _ _, ⟨vs, e, q⟩ => by
    simp only [frO, DV]
    exact ⟨a, vs, rfl, ⟨e.1, n, e.2⟩, DVs.keep (fun _ _ e _ _ => e) (fun x z => .inl (f x z)) _ _ q⟩
  | .ins _ _ _, ⟨vs, ⟨dx, e⟩, q⟩ => by
    simp only [frO, DV]
    exact ⟨a, vs, rfl, ⟨dx, e.1, n, e.2⟩, DVs.keep (fun _ _ e _ _ => e) (fun x z => .inl (f x z)) _ _ q⟩
  | .obj _ _, ⟨vs, e, q⟩ => by
    simp only [frO, DV]
    exact ⟨a, vs, rfl, ⟨e.1, n, e.2⟩, DVs.keep (fun _ _ e _ _ => e) (fun x z => .inl (f x z)) _ _ q⟩
def rdC : Option (Option Cell) → Option D
  | some (some (.imm d)) => some d
  | some (some (.own o)) => some (frO o)
  | some (some (.bor o)) => some (frO o)
  | _ => none
def rdI : R → Env' → Option D
  | .imm d, _ => some d
  | .new o, _ => some (frO o)
  | .slot i, ρ => rdC ρ[i]?
def rdIs : List R → Env' → Option (List D)
  | [], _ => some []
  | r :: rs, ρ => match rdI r ρ, rdIs rs ρ with
    | some d, some ds => some (d :: ds)
    | _, _ => none
def RDs (K : PySem.W.Frag) (H : Hp) (N : Addr → Prop) : List D → List V → Prop
  | [], vs => vs = []
  | d :: ds, vs => ∃ v ws, vs = v :: ws ∧ RD K H N d v ∧ RDs K H N ds ws
section
variable {K : PySem.W.Frag} {H H' H0 : Hp} {Φ N : Addr → Prop} {σ : L2.St} {ρ ρ' : Env'} {W : WX} {Q : VK}
theorem DV.rd {d : D} {v : V} (h : DV K H N d v) : RD K H N d v := by
  cases d with
  | lst xs =>
    simp only [DV] at h
    obtain ⟨a, vs, e, r, q⟩ := h
    exact ⟨a, vs, e, r.1, q⟩
  | dct ks xs =>
    simp only [DV] at h
    obtain ⟨a, vs, e, r, q⟩ := h
    exact ⟨a, vs, e, ⟨r.1, r.2.2⟩, q⟩
  | ins C ks xs =>
    simp only [DV] at h
    obtain ⟨a, vs, e, ⟨dx, r⟩, q⟩ := h
    exact ⟨a, vs, e, ⟨dx, r.1, r.2.2⟩, q⟩
  | obj s xs =>
    simp only [DV] at h
    obtain ⟨a, vs, e, r, q⟩ := h
    exact ⟨a, vs, e, ⟨r.1, r.2.2⟩, q⟩
  | _ => exact h
theorem RV.rd {r : R} {v : V} {d : D} (h : RV K H0 H Φ σ ρ r v) (s : SR K τ H Φ σ ρ) (e : rdI r ρ = some d) : RD K H (Nn Φ σ ρ) d v := by
  cases r with
  | imm d' => cases e; exact DV.rd h
  | new o =>
    cases e
    obtain ⟨a, e, _, _, q⟩ := h
    rw [e]
    exact q.rd
  | slot i =>
    have e : rdC ρ[i]? = some d := e
    have h : σ[i]? = some (some v) := h
    cases ec : ρ[i]? with
    | none => rw [ec] at e; cases e
    | some oc =>
      cases oc with
      | none => rw [ec] at e; cases e
      | some c =>
        rw [ec] at e
        obtain ⟨v', e1, q⟩ := s.cell i c ec
        rw [h] at e1
        cases e1
        cases c with
        | imm d' => cases e; exact DV.rd q
        | own o =>
          cases e
          obtain ⟨a, ev, _, q⟩ := q
          rw [ev]
          exact q.rd
        | bor o =>
          cases e
          obtain ⟨a, ev, _, q⟩ := q
          rw [ev]
          exact q.rd
theorem RVs.rd (s : SR K τ H Φ σ ρ) : ∀ {rs : List R} {vs : List V} {ds : List D}, RVs K H0 H Φ σ ρ rs vs → rdIs rs ρ = some ds → RDs K H (Nn Φ σ ρ) ds vs
  | [], vs, ds, h, e => by cases e; exact h
  | r :: rs, vs, ds, ⟨v, ws, e1, h, t⟩, e => by
    unfold rdIs at e
    cases ea : rdI r ρ with
    | none => rw [ea] at e; cases e
    | some d =>
      cases eb : rdIs rs ρ with
      | none => rw [ea, eb] at e; cases e
      | some dr =>
        rw [ea, eb] at e
        cases e
        exact ⟨v, ws, e1, h.rd s ea, RVs.rd s t eb⟩
/-- data that stays: the object of a slot is given up -/
def toI : R → M D
  | .imm d => mr d
  | .new o => mr (frO o)
  | .slot i => fun ρ => match ρ[i]? with
    | some (some (.imm d)) => .ok d ρ
    | some (some (.own o)) => .ok (frO o) (ρ.set i (some (.imm (frO o))))
    | _ => .bad
def toIs : List R → M (List D)
  | [] => mr []
  | r :: rs => mb (toI r) fun d => mb (toIs rs) fun ds => mr (d :: ds)
theorem own_set {i : Nat} {d : D} {a : Addr} (h : Own σ (ρ.set i (some (.imm d))) a) : ∃ (j : Nat) (o : O), j ≠ i ∧ ρ[j]? = some (some (.own o)) ∧ σ[j]? = some (some (V.ref a)) := by
  obtain ⟨j, o, e1, e2⟩ := h
  by_cases hj : i = j
  · subst hj
    by_cases hl : i < ρ.length
    · rw [List.getElem?_set_self hl] at e1; cases e1
    · rw [List.getElem?_eq_none (by simpa using hl)] at e1; cases e1
  · rw [List.getElem?_set_ne hj] at e1
    exact ⟨j, o, fun z => hj z.symm, e1, e2⟩
theorem toI_ok {r : R} {v : V} {d : D} (h : RV K H0 H Φ σ ρ r v) (s : SR K τ H Φ σ ρ) (e : toI r ρ = .ok d ρ') : ES σ ρ H ρ' H ∧ SR K τ H Φ σ ρ' ∧ DV K H (Nn Φ σ ρ') d v := by
  cases r with
  | imm d' => cases e; exact ⟨ES.refl, s, h⟩
  | new o =>
    cases e
    obtain ⟨a, e, _, m, q⟩ := h
    rw [e]
    exact ⟨ES.refl, s, q.dv m fun _ z => z⟩
  | slot i =>
    have h : σ[i]? = some (some v) := h
    dsimp only [toI] at e
    cases ec : ρ[i]? with
    | none => rw [ec] at e; cases e
    | some oc =>
      cases oc with
      | none => rw [ec] at e; cases e
      | some c =>
        rw [ec] at e
        obtain ⟨v', e1, q⟩ := s.cell i c ec
        rw [h] at e1
        cases e1
        cases c with
        | imm d' => cases e; exact ⟨ES.refl, s, q⟩
        | bor o => cases e
        | own o =>
          cases e
          obtain ⟨a, ev, nf, q⟩ := q
          have sub : ∀ x, Own σ (ρ.set i (some (.imm (frO o)))) x → Own σ ρ x := fun x hx => by
            obtain ⟨j, o, _, a1, a2⟩ := own_set hx
            exact ⟨j, o, a1, a2⟩
          have back : ∀ {j : Nat} {c : Cell}, (ρ.set i (some (.imm (frO o))))[j]? = some (some c) → (i = j ∧ c = .imm (frO o)) ∨ (i ≠ j ∧ ρ[j]? = some (some c)) := fun {j c} ej => by
            by_cases z : i = j
            · subst z
              rw [List.getElem?_set_self (List.getElem?_eq_some_iff.mp ec).1] at ej
              cases ej
              exact .inl ⟨rfl, rfl⟩
            · rw [List.getElem?_set_ne z] at ej
              exact .inr ⟨z, ej⟩
          have es : ES σ ρ H (ρ.set i (some (.imm (frO o)))) H := ⟨fun _ _ e _ _ => e, fun _ h => h, sub, fun j u hj => by
            rcases back hj with ⟨_, z⟩ | ⟨_, z⟩
            · cases z
            · exact ⟨u, z⟩⟩
          have na : ¬ Nn Φ σ (ρ.set i (some (.imm (frO o)))) a := fun z => by
            rcases z with z | z
            · exact nf z
            · obtain ⟨j, u, hj, a1, a2⟩ := own_set z
              exact hj (s.inj j i u _ a a1 ec a2 (by rw [h, ev]))
          have lo : ∀ x, Nn Φ σ (ρ.set i (some (.imm (frO o)))) x → Nn Φ σ ρ x := fun x z => z.imp id (sub x)
          have dv : DV K H (Nn Φ σ (ρ.set i (some (.imm (frO o))))) (frO o) v := by
            rw [ev]
            exact q.dv na lo
          refine ⟨es, ⟨by rw [List.length_set]; exact s.len, fun j c ej => ?_, fun j k u w b e1 e2 e3 e4 => ?_, s.lv, s.tab⟩, dv⟩
          · rcases back ej with ⟨hj, e'⟩ | ⟨hj, ej⟩
            · subst hj
              subst e'
              exact ⟨v, h, dv⟩
            · obtain ⟨w, e2, q⟩ := s.cell j c ej
              refine ⟨w, e2, ?_⟩
              cases c with
              | imm d' => exact (es.stp (io := [])).dv q
              | own u =>
                obtain ⟨b, ew, n, q⟩ := q
                exact ⟨b, ew, n, q.less lo⟩
              | bor u =>
                obtain ⟨b, ew, n, q⟩ := q
                exact ⟨b, ew, n, q.less lo⟩
          · rcases back e1 with ⟨_, z⟩ | ⟨_, z1⟩
            · cases z
            · rcases back e2 with ⟨_, z⟩ | ⟨_, z2⟩
              · cases z
              · exact s.inj j k u w b z1 z2 e3 e4
theorem toI_ner {r : R} {x : Ex} : toI r ρ ≠ .er x ρ' := by
  intro e
  cases r with
  | imm d => cases e
  | new o => cases e
  | slot i =>
    unfold toI at e
    dsimp only at e
    split at e <;> cases e
theorem toIs_ok : ∀ {rs : List R} {vs : List V} {ds : List D} {ρ ρ' : Env'}, RVs K H0 H Φ σ ρ rs vs → SR K τ H Φ σ ρ → toIs rs ρ = .ok ds ρ' → ES σ ρ H ρ' H ∧ SR K τ H Φ σ ρ' ∧ DVs K H (Nn Φ σ ρ') ds vs
  | [], vs, ds, ρ, ρ', h, s, e => by
    cases e
    have h : vs = [] := h
    rw [h]
    exact ⟨ES.refl, s, DVs.nil⟩
  | r :: rs, vs, ds, ρ, ρ', ⟨v, ws, ev, h, t⟩, s, e => by
    unfold toIs mb at e
    cases e1 : toI r ρ with
    | er x ρ1 => exact absurd e1 toI_ner
    | bad => rw [e1] at e; cases e
    | ok d ρ1 =>
      rw [e1] at e
      dsimp only at e
      obtain ⟨s1, sr1, dv⟩ := toI_ok h s e1
      cases e2 : toIs rs ρ1 with
      | er x ρ2 => rw [e2] at e; cases e
      | bad => rw [e2] at e; cases e
      | ok ds' ρ2 =>
        rw [e2] at e
        cases e
        obtain ⟨s2, sr2, dvs⟩ := toIs_ok (RVs.step t s1) sr1 e2
        rw [ev]
        exact ⟨s1.trans s2, sr2, DVs.cons ((s2.stp (io := [])).dv dv) dvs⟩
theorem toIs_ner : ∀ {rs : List R} {x : Ex} {ρ ρ' : Env'}, toIs rs ρ ≠ .er x ρ'
  | [], x, ρ, ρ' => fun e => nomatch e
  | r :: rs, x, ρ, ρ' => fun e => by
    unfold toIs mb at e
    cases e1 : toI r ρ with
    | er x ρ1 => exact absurd e1 toI_ner
    | bad => rw [e1] at e; cases e
    | ok d ρ1 =>
      rw [e1] at e
      dsimp only at e
      cases e2 : toIs rs ρ1 with
      | er x ρ2 => exact absurd e2 toIs_ner
      | bad => rw [e2] at e; cases e
      | ok ds' ρ2 => rw [e2] at e; cases e

/-! ### results of operations on data -/
/-- the heap as it is, or with one object more -/
def Gr (H H' : Hp) : Prop := H' = H ∨ ∃ p o, H p = none ∧ H' = upd H p o
theorem Gr.es (g : Gr H H') : ES σ ρ H ρ H' := by
  rcases g with rfl | ⟨p, o, n, rfl⟩
  · exact ES.refl
  · exact ES.grow n
theorem Gr.sr (g : Gr H H') (s : SR K τ H Φ σ ρ) : SR K τ H' Φ σ ρ := by
  rcases g with rfl | ⟨p, o, n, rfl⟩
  · exact s
  · exact s.grow n
/-- an operation's result: data, a new list -/
inductive P where
  | d (d : D) | l (xs : List D)
def mP (o : Option P) : M R := fun ρ => match o with
  | some (.d d) => .ok (.imm d) ρ
  | some (.l xs) => .ok (.new (.lst xs)) ρ
  | none => .bad
/-- what is wanted of it -/
def PR (K : PySem.W.Frag) (N : Addr → Prop) (H : Hp) (Q : VK) : Option P → Prop
  | some (.d d) => ∀ v H', Gr H H' → DV K H' N d v → Q v H'
  | some (.l xs) => ∀ p vs, H p = none → DVs K H N xs vs → Q (.ref p) (upd H p (.lst vs))
  | none => False
theorem PR.of {o : Option P} (s : SR K τ H Φ σ ρ) (h : GoodE K τ W Φ σ ρ H Q (mP o ρ)) : PR K (Nn Φ σ ρ) H Q o := by
  cases o with
  | none => exact h
  | some r =>
    cases r with
    | d d => exact fun v H' g dv => h v H' g.es (g.sr s) dv
    | l xs => exact fun p vs n dv => h (.ref p) _ (ES.grow n) (s.grow n) (newP s n dv)
end
end DL

/-! ## DT -/
set_option Elab.async false
set_option linter.all false
set_option maxRecDepth 100000
set_option maxHeartbeats 2000000
/-! DT: a tuple times a number below 2, an empty tuple times any. -/
namespace DL
open PySem L2
theorem tmul_same (l : Addr) (items : Array Value) (n : Nat) (dd : Option Addr) (sl : Array (Option Value)) (x : Int) (u : Tok)
    (c0 : (decide (x < -(2 ^ 63)) || decide (x ≥ 2 ^ 63)) = false) (c1 : (items.isEmpty || x == 1) = true) :
    Meets (Builtin.«tuple.__mul__» ⟨[.ref l, .int x u], []⟩) (fun _ R s => s.heap.get? l = some { cls := .type "tuple", dict := dd, data := .seq items n, slots := sl } ∧ R (.ok (.ret (Value.ref l))) s) :=
  .of_wp fun prog w A R s h => by
    obtain ⟨hp, g, d, tk, os⟩ := s
    obtain ⟨hl, h⟩ := h
    have f1 := AutoSeq1.idx_int
    wp_walk using wpAny_loadPart' hl
    refine wpAny_ite_false (decide_eq_false (Bool.eq_false_iff.mp c0)) ?_
    wp_walk using wpAny_loadPart' hl
    exact ⟨_, rfl, h⟩
theorem tmul_zero (l : Addr) (items : Array Value) (n : Nat) (dd : Option Addr) (sl : Array (Option Value)) (x : Int) (u : Tok)
    (c0 : (decide (x < -(2 ^ 63)) || decide (x ≥ 2 ^ 63)) = false) (c1 : (items.isEmpty || x == 1) = false) (c2 : (decide (x ≤ 0) || items.isEmpty) = true) :
    Meets (Builtin.«tuple.__mul__» ⟨[.ref l, .int x u], []⟩) (fun _ R s => s.heap.get? l = some { cls := .type "tuple", dict := dd, data := .seq items n, slots := sl } ∧
      R (.ok (.ret (Value.ref s.heap.objs.size))) { s with heap := s.heap.push { cls := Value.type "tuple", data := Data.seq #[] } }) :=
  .of_wp fun prog w A R s h => by
    obtain ⟨hp, g, d, tk, os⟩ := s
    obtain ⟨hl, h⟩ := h
    have f1 := AutoSeq1.idx_int
    wp_walk using wpAny_loadPart' hl
    refine wpAny_ite_false (decide_eq_false (Bool.eq_false_iff.mp c0)) ?_
    wp_walk using wpAny_loadPart' hl
    exact ⟨_, rfl, h⟩
/-- t * k where t is empty, k is 1, or k is not positive -/
def rRep0 (K : PySem.W.Frag) : R2 := fun x y H Q => ∃ l k xs, x = .ref l ∧ y = .int k ∧ SqT K H l xs ∧ -(2 ^ 62) ≤ k ∧ k < 2 ^ 62 ∧
  ((xs = [] ∨ k = 1) → Q (.ref l) H) ∧ (xs ≠ [] → k ≤ 0 → ∀ p, H p = none → Q (.ref p) (upd H p (.tup []))) ∧ (xs = [] ∨ k ≤ 1)
theorem op_rep0 {X : Cx} : OpR X (binaryOp .Mult) (rRep0 X.K) := by
  intro pins s σ H x y v u Q I rx ry h
  obtain ⟨l, k, xs, rfl, rfl, hT, k0, k1, q1, q2, q3⟩ := h
  cases rx
  obtain ⟨t, rfl⟩ := ry
  obtain ⟨its, r, ⟨⟨cls, dd, data, sl⟩, ho, hc, n, hd⟩, hs⟩ := I.tuple hT
  simp only at hc hd
  subst hc hd
  have hle := r.length
  have c0 : (decide (k < -(2 ^ 63)) || decide (k ≥ 2 ^ 63)) = false := by
    rw [decide_eq_false (by omega), decide_eq_false (by omega)]; rfl
  by_cases hc : xs = [] ∨ k = 1
  · have c1 : (its.toArray.isEmpty || k == 1) = true := by
      rcases hc with e | e
      · have : its = [] := List.eq_nil_of_length_eq_zero (by rw [← hle, e]; rfl)
        rw [this]; rfl
      · rw [e]; simp
    refine wpAny_binaryOp_repeat_ref (T := "tuple") (U := "int") (by decide) ⟨_, ho, rfl⟩ (fun s' => typeIs_int s' k t) noFill_tuple_mul F.fills_int_mul F.slot_int_rmul repeat_tuple F.slot_int_index.lookup
      (call_meets F.slot_int_rmul (typeIs_int s k t) F.entry_int_rmul (F.args_int_rmul_2 _ _) (int_rmul_tuple k t l its.toArray n dd sl)
        ⟨ho, rfl, ⟨_, ho, rfl⟩, call_meets F.slot_tuple_mul ⟨_, ho, rfl⟩ F.entry_tuple_mul (F.args_tuple_mul_2 _ _) (tmul_same l its.toArray n dd sl k t c0 c1) ⟨ho, ?_⟩⟩)
    exact ⟨.ref l, H, I, rfl, q1 hc⟩
  · have hx : xs ≠ [] := fun e => hc (.inl e)
    have hk : k ≤ 0 := by
      rcases q3 with e | e
      · exact absurd e hx
      · have : k ≠ 1 := fun z => hc (.inr z)
        omega
    have c1 : (its.toArray.isEmpty || k == 1) = false := by
      have : its ≠ [] := fun e => hx (by rw [e] at hle; exact List.eq_nil_of_length_eq_zero hle)
      cases its with
      | nil => exact absurd rfl this
      | cons a b =>
        have e2 : (k == 1) = false := beq_eq_false_iff_ne.mpr (by omega)
        rw [e2]; rfl
    have c2 : (decide (k ≤ 0) || its.toArray.isEmpty) = true := by rw [decide_eq_true hk]; rfl
    refine wpAny_binaryOp_repeat_ref (T := "tuple") (U := "int") (by decide) ⟨_, ho, rfl⟩ (fun s' => typeIs_int s' k t) noFill_tuple_mul F.fills_int_mul F.slot_int_rmul repeat_tuple F.slot_int_index.lookup
      (call_meets F.slot_int_rmul (typeIs_int s k t) F.entry_int_rmul (F.args_int_rmul_2 _ _) (int_rmul_tuple k t l its.toArray n dd sl)
        ⟨ho, rfl, ⟨_, ho, rfl⟩, call_meets F.slot_tuple_mul ⟨_, ho, rfl⟩ F.entry_tuple_mul (F.args_tuple_mul_2 _ _) (tmul_zero l its.toArray n dd sl k t c0 c1 c2) ⟨ho, ?_⟩⟩)
    refine ⟨.ref s.heap.objs.size, _, I.laid (t' := s.toks) (o := .tup []) (fun b ob q => Heap.get?_push_of_some _ q) (Nat.le_refl _) ?_, rfl, q2 hx hk _ (I.hok.fresh (Nat.le_refl _))⟩
    exact ⟨Nat.zero_le _, [], .nil, PyProof.Rows.IsTup.new _ _⟩
end DL

/-! ## DL3 -/
set_option Elab.async false
set_option linter.all false
set_option maxRecDepth 100000
set_option maxHeartbeats 4000000
/-! DL3: the rules of expressions: names, constants, operators, comparisons, tests, displays, items, slices, built-in calls. -/
namespace DL
open PySem L2

def szB (n : Nat) : Bool := decide (n ≤ 16777216)
theorem szB_ok {n : Nat} (h : szB n = true) : n ≤ sizeLine := by
  rw [PySem.sizeLine_eq]
  exact of_decide_eq_true h
/-! ### names and constants -/
def xC (d : D) : M R := mr (.imm d)
def xVar (i : Nat) : M R := fun ρ => match ρ[i]? with
  | some (some (.imm d)) => .ok (.imm d) ρ
  | some (some _) => .ok (.slot i) ρ
  | _ => .bad
section
variable {X : Cx} {e a b c : Expr} {f g h : M R} {W : WX} {pos : Pos}
theorem d_c {d : D} {v : V} (h : PE X e (tC v)) (k : ∀ H N, DV X.K H N d v) : PE X e (tD X.K τ W (xC d)) := PE.weak h fun σ H Q ⟨Φ, ρ, sr, q⟩ => q v H ES.refl sr (k _ _)
theorem d_int {i j pos} : PE X (.Constant (.int i) j pos) (tD X.K τ W (xC (.int i))) := d_c pe_int fun _ _ => by simp only [DV]
theorem d_bl {i j pos} : PE X (.Constant (.bool i) j pos) (tD X.K τ W (xC (.bl i))) := d_c pe_bl fun _ _ => by simp only [DV]
theorem d_non {j pos} : PE X (.Constant .none j pos) (tD X.K τ W (xC .non)) := d_c pe_non fun _ _ => by simp only [DV]
theorem d_str {x j pos} : PE X (.Constant (.str x) j pos) (tD X.K τ W (xC (.str x))) := d_c pe_str fun _ _ => by simp only [DV]
theorem d_ty {x : Str} {n : String} {pos : Pos} (hg : Gl X x) (hm : X.mg x = none) (hv : bootBuiltins x = some (.type n)) (hn : x ≠ "__name__" := by decide) (hd : (x == ("__debug__" : Str)) = false := by decide) :
    PE X (.Name x pos) (tD X.K τ W (xC (.ty n))) := d_c (pe_bltn (v := .ty n) hg hm hv rfl hn hd) fun _ _ => by simp only [DV]
theorem d_gint {x : Str} {i : Int} {t : Tok} {pos : Pos} (hg : Gl X x) (hm : X.mg x = some (.int i t)) (hd : (x == ("__debug__" : Str)) = false := by decide) : PE X (.Name x pos) (tD X.K τ W (xC (.int i))) :=
  d_c (pe_glob (v := .int i) hg hm ⟨t, rfl⟩ hd) fun _ _ => by simp only [DV]
theorem d_gstr {x : Str} {i : Str} {t : Tok} {pos : Pos} (hg : Gl X x) (hm : X.mg x = some (.str i t)) (hd : (x == ("__debug__" : Str)) = false := by decide) : PE X (.Name x pos) (tD X.K τ W (xC (.str i))) :=
  d_c (pe_glob (v := .str i) hg hm ⟨t, rfl⟩ hd) fun _ _ => by simp only [DV]
theorem d_gref {x : Str} {a : Addr} {pos : Pos} (hg : Gl X x) (hm : X.mg x = some (.ref a)) (hd : (x == ("__debug__" : Str)) = false := by decide) : PE X (.Name x pos) (tD X.K τ W (xC (.fn a))) :=
  d_c (pe_glob (v := .ref a) hg hm rfl hd) fun _ _ => by simp only [DV]
/-- a tuple of ints of the written part -/
theorem d_gtup {x : Str} {a : Addr} {pos : Pos} {o : Obj} {its : Array Value} {n : Nat} {ns : List Int} (hg : Gl X x) (hm : X.mg x = some (.ref a)) (lk : X.K.lookup a = some o) (hc : o.cls = .type "tuple") (hd' : o.data = .seq its n)
    (hi : Vals (ns.map V.int) its.toList) (hz : its.size ≤ sizeLine) (hd : (x == ("__debug__" : Str)) = false := by decide) : PE X (.Name x pos) (tD X.K τ W (xC (.tup (ns.map D.int)))) :=
  d_c (pe_glob (v := .ref a) hg hm rfl hd) fun H N => by
    simp only [DV]
    refine ⟨a, _, rfl, .inr ⟨o, its, n, lk, hc, hd', hz, hi⟩, ?_⟩
    clear hi
    induction ns with
    | nil => exact DVs.nil
    | cons k r ih => exact DVs.cons (by simp only [DV]) ih
theorem d_var (i : Nat) (hv : PE X e (tVar i)) : PE X e (tD X.K τ W (xVar i)) := PE.weak hv fun σ H Q ⟨Φ, ρ, sr, q⟩ => by
  unfold xVar at q
  cases ec : ρ[i]? with
  | none => rw [ec] at q; exact q.elim
  | some oc =>
    cases oc with
    | none => rw [ec] at q; exact q.elim
    | some c =>
      rw [ec] at q
      obtain ⟨v, e1, cv⟩ := sr.cell i c ec
      refine ⟨v, e1, ?_⟩
      cases c with
      | imm d => exact q v H ES.refl sr cv
      | own o => exact q v H ES.refl sr e1
      | bor o => exact q v H ES.refl sr e1

/-! ### two operands -/
def xBin (op : D → D → Option P) (f g : M R) : M R := mb f fun a => mb g fun b => fun ρ => match rdI a ρ, rdI b ρ with
  | some d, some e => mP (op d e) ρ
  | _, _ => .bad
def PB (K : PySem.W.Frag) (r : R2) (op : D → D → Option P) : Prop := ∀ (N : Addr → Prop) (H : Hp) (x y : V) (d e : D) (Q : VK), (∀ a, N a → Lv H a) → RD K H N d x → RD K H N e y → PR K N H Q (op d e) → r x y H Q
theorem bin_w {K : PySem.W.Frag} {r : R2} {op : D → D → Option P} (p : PB K r op) {σ : L2.St} {H : Hp} {Q : VK} (q : tD K τ W (xBin op f g) σ H Q) : tOp r (tD K τ W f) (tD K τ W g) σ H Q := by
  obtain ⟨Φ, ρ, sr, h⟩ := q
  refine ⟨Φ, ρ, sr, ee h fun a ρ1 x H1 s1 sr1 ra ha => ⟨Φ, ρ1, sr1, ee ha fun b ρ2 y H2 s2 sr2 rb hb => ?_⟩⟩
  cases e1 : rdI a ρ2 with
  | none => simp only [e1] at hb; exact hb.elim
  | some d =>
    cases e2 : rdI b ρ2 with
    | none => simp only [e1, e2] at hb; exact hb.elim
    | some e =>
      simp only [e1, e2] at hb
      exact p _ _ _ _ d e Q (fun a z => sr2.nnLv z) ((ra.step s2).rd sr2 e1) (rb.rd sr2 e2) (PR.of sr2 hb)
theorem d_bin {r : R2} {op : D → D → Option P} (p : PB X.K r op) (he : PE X e (tOp r (tD X.K τ W f) (tD X.K τ W g))) : PE X e (tD X.K τ W (xBin op f g)) := PE.weak he fun _ _ _ q => bin_w p q
/-! ### one operand -/
def xUn (op : D → Option P) (f : M R) : M R := mb f fun a => fun ρ => match rdI a ρ with
  | some d => mP (op d) ρ
  | _ => .bad
def PU (K : PySem.W.Frag) (r : V → Hp → VK → Prop) (op : D → Option P) : Prop := ∀ (N : Addr → Prop) (H : Hp) (x : V) (d : D) (Q : VK), (∀ a, N a → Lv H a) → RD K H N d x → PR K N H Q (op d) → r x H Q
theorem d_un {r : V → Hp → VK → Prop} {op : D → Option P} (p : PU X.K r op) (he : PE X e (tUn r (tD X.K τ W f))) : PE X e (tD X.K τ W (xUn op f)) := PE.weak he fun σ H Q q => by
  obtain ⟨Φ, ρ, sr, h⟩ := q
  refine ⟨Φ, ρ, sr, ee h fun a ρ1 x H1 s1 sr1 ra ha => ?_⟩
  cases e1 : rdI a ρ1 with
  | none => simp only [e1] at ha; exact ha.elim
  | some d => simp only [e1] at ha; exact p _ _ _ d Q (fun a z => sr1.nnLv z) (ra.rd sr1 e1) (PR.of sr1 ha)
/-! ### calls of what is built in -/
def aNil : M (List R) := mr []
def aCons (f : M R) (g : M (List R)) : M (List R) := mb f fun r => mb g fun rs => mr (r :: rs)
theorem d_anil : PA X [] (tA X.K τ W aNil) := PA.weak pa_nil fun σ H Q ⟨Φ, ρ, sr, q⟩ => q [] H ES.refl sr rfl
theorem d_acons {es : List Expr} {ga : M (List R)} (ha : PE X e (tD X.K τ W f)) (hr : PA X es (tA X.K τ W ga)) (hs : starEach (e :: es) X.env = (false, eval e X.env) :: starEach es X.env := by rfl) : PA X (e :: es) (tA X.K τ W (aCons f ga)) :=
  PA.weak (pa_cons ha hr hs) fun σ H Q ⟨Φ, ρ, sr, q⟩ => ⟨Φ, ρ, sr, by
    unfold aCons mb at q
    cases ef : f ρ with
    | er x ρ1 => simp only [ef] at q; exact q
    | bad => simp only [ef] at q; exact q
    | ok r ρ1 =>
      simp only [ef] at q
      intro x H1 s1 sr1 ra'
      have ra := ra'.w
      refine ⟨Φ, ρ1, sr1, ?_⟩
      cases eg : ga ρ1 with
      | er x ρ2 => simp only [eg] at q; exact fun c d H' s' sr' xv => q c d H' (s1.trans s') sr' xv
      | bad => simp only [eg] at q; exact q
      | ok rs ρ2 =>
        simp only [eg] at q
        intro ys H2 s2 sr2 rb
        exact q (x :: ys) H2 (s1.trans s2) sr2 ⟨x, ys, rfl, ra.step s2, rb.back fun z ez => s1.free ez⟩⟩
def xCall (op : List D → Option P) (ga : M (List R)) : M R := mb ga fun rs => fun ρ => match rdIs rs ρ with
  | some ds => mP (op ds) ρ
  | none => .bad
def PCall (K : PySem.W.Frag) (r : List V → Hp → VK → Prop) (op : List D → Option P) : Prop := ∀ (N : Addr → Prop) (H : Hp) (xs : List V) (ds : List D) (Q : VK), (∀ a, N a → Lv H a) → RDs K H N ds xs → PR K N H Q (op ds) → r xs H Q
theorem d_call {r : List V → Hp → VK → Prop} {op : List D → Option P} {ga : M (List R)} (p : PCall X.K r op) (he : PE X e (tCB r (tA X.K τ W ga))) : PE X e (tD X.K τ W (xCall op ga)) := PE.weak he fun σ H Q q => by
  obtain ⟨Φ, ρ, sr, h⟩ := q
  refine ⟨Φ, ρ, sr, ae h fun rs ρ1 xs H1 s1 sr1 ra ha => ?_⟩
  cases e1 : rdIs rs ρ1 with
  | none => simp only [e1] at ha; exact ha.elim
  | some ds => simp only [e1] at ha; exact p _ _ _ ds Q (fun a z => sr1.nnLv z) (RVs.rd sr1 ra e1) (PR.of sr1 ha)
/-! ### displays -/
def xTup (ga : M (List R)) : M R := mb ga fun rs => mb (toIs rs) fun ds => fun ρ => if szB ds.length then .ok (.imm (.tup ds)) ρ else .bad
def xLst (ga : M (List R)) : M R := mb ga fun rs => mb (toIs rs) fun ds => fun ρ => if szB ds.length then .ok (.new (.lst ds)) ρ else .bad
theorem toIs_then {α : Type} {rs : List R} {k : List D → M R} {K : PySem.W.Frag} {Φ : Addr → Prop} {σ : L2.St} {ρ : Env'} {H H0 : Hp} {Q : VK} {xs : List V} (ra : RVs K H0 H Φ σ ρ rs xs) (sr : SR K τ H Φ σ ρ)
    (h : GoodE K τ W Φ σ ρ H Q (mb (toIs rs) k ρ)) : ∃ ds ρ', ES σ ρ H ρ' H ∧ SR K τ H Φ σ ρ' ∧ DVs K H (Nn Φ σ ρ') ds xs ∧ GoodE K τ W Φ σ ρ' H Q (k ds ρ') := by
  unfold mb at h
  cases e : toIs rs ρ with
  | er x ρ1 => exact absurd e toIs_ner
  | bad => rw [e] at h; exact h.elim
  | ok ds ρ1 =>
    rw [e] at h
    obtain ⟨s1, sr1, dv⟩ := toIs_ok ra sr e
    exact ⟨ds, ρ1, s1, sr1, dv, GoodE.shift h s1⟩
theorem d_tup {es : List Expr} {ga : M (List R)} {x1} (ha : PA X es (tA X.K τ W ga)) : PE X (.Tuple es x1 pos) (tD X.K τ W (xTup ga)) := PE.weak (pe_tup ha) fun σ H Q q => by
  obtain ⟨Φ, ρ, sr, h⟩ := q
  refine ⟨Φ, ρ, sr, ae h fun rs ρ1 xs H1 s1 sr1 ra ha => ?_⟩
  obtain ⟨ds, ρ2, s2, sr2, dv, hk⟩ := toIs_then (α := Unit) ra sr1 ha
  split at hk
  · rename_i hz
    refine ⟨by rw [dv.length]; exact szB_ok hz, fun p hp => ?_⟩
    refine hk (.ref p) _ (ES.grow hp) (sr2.grow hp) ?_
    show DV _ _ _ _ _
    simp only [DV]
    exact ⟨p, xs, rfl, .inl ⟨.inl upd_same, fun z => sr2.nnLive z hp⟩, ((ES.grow hp).stp (io := [])).dvs dv⟩
  · exact hk.elim
theorem d_lst {es : List Expr} {ga : M (List R)} (ha : PA X es (tA X.K τ W ga)) : PE X (.List es pos) (tD X.K τ W (xLst ga)) := PE.weak (pe_lst ha) fun σ H Q q => by
  obtain ⟨Φ, ρ, sr, h⟩ := q
  refine ⟨Φ, ρ, sr, ae h fun rs ρ1 xs H1 s1 sr1 ra ha => ?_⟩
  obtain ⟨ds, ρ2, s2, sr2, dv, hk⟩ := toIs_then (α := Unit) ra sr1 ha
  split at hk
  · rename_i hz
    refine ⟨by rw [dv.length]; exact szB_ok hz, fun p hp => ?_⟩
    exact hk (.ref p) _ (ES.grow hp) (sr2.grow hp) (newP sr2 hp dv)
  · exact hk.elim
/-! ### tests -/
def xAsB (f : M R) : M Bool := mb f fun r => match r with
  | .imm (.bl b) => mr b
  | _ => fun _ => .bad
theorem asB {K : PySem.W.Frag} {σ : L2.St} {H : Hp} {Q : Bool → Hp → Prop} (q : tT K τ W (xAsB f) σ H Q) : tD K τ W f σ H fun x H' => ∃ k, x = .bl k ∧ Q k H' := by
  obtain ⟨Φ, ρ, sr, h⟩ := q
  refine ⟨Φ, ρ, sr, et h fun r ρ1 v H1 s1 sr1 rv hk => ?_⟩
  cases r with
  | slot i => exact hk.elim
  | new o => exact hk.elim
  | imm d =>
    cases d with
    | bl b =>
      have rv : DV K H1 (Nn Φ σ ρ1) (.bl b) v := rv
      simp only [DV] at rv
      exact ⟨b, rv, hk H1 ES.refl sr1⟩
    | _ => exact hk.elim
theorem d_tcmp {r : R2} {op : D → D → Option P} (p : PB X.K r op) (he : PT X e (tTest (tOp r (tD X.K τ W f) (tD X.K τ W g)))) : PT X e (tT X.K τ W (xAsB (xBin op f g))) := PT.weak he fun _ _ _ q => bin_w p (asB q)
/-- a call's or a name's answer that is a bool -/
theorem d_tval (he : PE X e (tD X.K τ W f)) (hi : ∀ whole, isTrue e X.env whole = (do let v ← whole; standAt e.pos; holding [v] (truthy v)) := by intro _; rfl) : PT X e (tT X.K τ W (xAsB f)) := PT.weak (pt_val he hi) fun _ _ _ q => asB q
variable {t u : M Bool} {rest : List Expr}
def xAnd (t u : M Bool) : M Bool := mb t fun k => if k then u else mr false
def xOr (t u : M Bool) : M Bool := mb t fun k => if k then mr true else u
def xNot (t : M Bool) : M Bool := mb t fun k => mr (!k)
theorem d_and1 (ha : PT X a (tT X.K τ W t)) : PW X (.BoolOp .And [a] pos) (tT X.K τ W t) := pw_and1 ha
theorem d_or1 (ha : PT X a (tT X.K τ W t)) : PW X (.BoolOp .Or [a] pos) (tT X.K τ W t) := pw_or1 ha
theorem PW.weak {t t' : TT} (h : PW X e t) (i : ∀ σ H Q, t' σ H Q → t σ H Q) : PW X e t' := ⟨fun w pins s σ H Q I q => h.run w pins s σ H Q I (i σ H Q q)⟩
theorem d_and (ha : PT X a (tT X.K τ W t)) (hb : PW X (.BoolOp .And (b :: rest) pos) (tT X.K τ W u)) : PW X (.BoolOp .And (a :: b :: rest) pos) (tT X.K τ W (xAnd t u)) :=
  PW.weak (pw_and ha hb) fun σ H Q ⟨Φ, ρ, sr, q⟩ => ⟨Φ, ρ, sr, tt q fun k ρ1 H1 s1 sr1 hk => by
    cases k with
    | true => exact (if_pos rfl).mpr ⟨Φ, ρ1, sr1, hk⟩
    | false => exact (if_neg Bool.false_ne_true).mpr (hk H1 ES.refl sr1)⟩
theorem d_or (ha : PT X a (tT X.K τ W t)) (hb : PW X (.BoolOp .Or (b :: rest) pos) (tT X.K τ W u)) : PW X (.BoolOp .Or (a :: b :: rest) pos) (tT X.K τ W (xOr t u)) :=
  PW.weak (pw_or ha hb) fun σ H Q ⟨Φ, ρ, sr, q⟩ => ⟨Φ, ρ, sr, tt q fun k ρ1 H1 s1 sr1 hk => by
    cases k with
    | true => exact (if_pos rfl).mpr (hk H1 ES.refl sr1)
    | false => exact (if_neg Bool.false_ne_true).mpr ⟨Φ, ρ1, sr1, hk⟩⟩
theorem d_not (ha : PT X a (tT X.K τ W t)) : PT X (.UnaryOp .Not a pos) (tT X.K τ W (xNot t)) := PT.weak (pt_not ha) fun σ H Q ⟨Φ, ρ, sr, q⟩ => ⟨Φ, ρ, sr, tt q fun k ρ1 H1 s1 sr1 hk => hk H1 ES.refl sr1⟩
/-- .. as values -/
def xAndV (f g : M R) : M R := mb f fun r => match r with
  | .imm (.bl true) => g
  | .imm (.bl false) => mr (.imm (.bl false))
  | _ => fun _ => .bad
def xOrV (f g : M R) : M R := mb f fun r => match r with
  | .imm (.bl true) => mr (.imm (.bl true))
  | .imm (.bl false) => g
  | _ => fun _ => .bad
def xNotV (f : M R) : M R := mb f fun r => match r with
  | .imm (.bl k) => mr (.imm (.bl (!k)))
  | _ => fun _ => .bad
theorem d_one {op} (h : PE X a (tD X.K τ W f)) : PE X (.BoolOp op [a] pos) (tD X.K τ W f) := pe_one h
theorem d_andV (ha : PE X a (tD X.K τ W f)) (hb : PE X (.BoolOp .And (b :: rest) pos) (tD X.K τ W g)) : PE X (.BoolOp .And (a :: b :: rest) pos) (tD X.K τ W (xAndV f g)) :=
  PE.weak (pe_and ha hb) fun σ H Q ⟨Φ, ρ, sr, q⟩ => ⟨Φ, ρ, sr, ee q fun r ρ1 v H1 s1 sr1 rv hk => by
    cases r with
    | slot i => exact hk.elim
    | new o => exact hk.elim
    | imm d =>
      cases d with
      | bl k =>
        have rv : DV X.K H1 (Nn Φ σ ρ1) (.bl k) v := rv
        simp only [DV] at rv
        refine ⟨k, rv, ?_⟩
        cases k with
        | true => exact (if_pos rfl).mpr ⟨Φ, ρ1, sr1, hk⟩
        | false => exact (if_neg Bool.false_ne_true).mpr (hk _ H1 ES.refl sr1 (by show DV _ _ _ _ _; simp only [DV]))
      | _ => exact hk.elim⟩
theorem d_orV (ha : PE X a (tD X.K τ W f)) (hb : PE X (.BoolOp .Or (b :: rest) pos) (tD X.K τ W g)) : PE X (.BoolOp .Or (a :: b :: rest) pos) (tD X.K τ W (xOrV f g)) :=
  PE.weak (pe_or ha hb) fun σ H Q ⟨Φ, ρ, sr, q⟩ => ⟨Φ, ρ, sr, ee q fun r ρ1 v H1 s1 sr1 rv hk => by
    cases r with
    | slot i => exact hk.elim
    | new o => exact hk.elim
    | imm d =>
      cases d with
      | bl k =>
        have rv : DV X.K H1 (Nn Φ σ ρ1) (.bl k) v := rv
        simp only [DV] at rv
        refine ⟨k, rv, ?_⟩
        cases k with
        | true => exact (if_pos rfl).mpr (hk _ H1 ES.refl sr1 (by show DV _ _ _ _ _; simp only [DV]))
        | false => exact (if_neg Bool.false_ne_true).mpr ⟨Φ, ρ1, sr1, hk⟩
      | _ => exact hk.elim⟩
theorem d_notV (ha : PE X a (tD X.K τ W f)) : PE X (.UnaryOp .Not a pos) (tD X.K τ W (xNotV f)) :=
  PE.weak (pe_not ha) fun σ H Q ⟨Φ, ρ, sr, q⟩ => ⟨Φ, ρ, sr, ee q fun r ρ1 v H1 s1 sr1 rv hk => by
    cases r with
    | slot i => exact hk.elim
    | new o => exact hk.elim
    | imm d =>
      cases d with
      | bl k =>
        have rv : DV X.K H1 (Nn Φ σ ρ1) (.bl k) v := rv
        simp only [DV] at rv
        exact ⟨k, rv, hk _ H1 ES.refl sr1 (by show DV _ _ _ _ _; simp only [DV])⟩
      | _ => exact hk.elim⟩
def xIf (t : M Bool) (f g : M R) : M R := mb t fun k => if k then f else g
theorem d_ifx (hc : PT X c (tT X.K τ W t)) (ha : PE X a (tD X.K τ W f)) (hb : PE X b (tD X.K τ W g)) : PE X (.IfExp c a b pos) (tD X.K τ W (xIf t f g)) :=
  PE.weak (pe_ifExp hc ha hb) fun σ H Q ⟨Φ, ρ, sr, q⟩ => ⟨Φ, ρ, sr, te q fun k ρ1 H1 s1 sr1 hk => by
    cases k with
    | true => exact (if_pos rfl).mpr ⟨Φ, ρ1, sr1, hk⟩
    | false => exact (if_neg Bool.false_ne_true).mpr ⟨Φ, ρ1, sr1, hk⟩⟩
/-- a op b op' c -/
def xChain (op op' : D → D → Option P) (f g h : M R) : M R := mb f fun a => mb g fun b => mb (fun ρ => match rdI a ρ, rdI b ρ with
  | some d, some e => mP (op d e) ρ
  | _, _ => .bad) fun z => match z with
    | .imm (.bl true) => mb h fun c => fun ρ => match rdI b ρ, rdI c ρ with
      | some d, some e => mP (op' d e) ρ
      | _, _ => .bad
    | .imm (.bl false) => mr (.imm (.bl false))
    | _ => fun _ => .bad
/-- an operation whose answer is a bool and nothing is made -/
def PBb (K : PySem.W.Frag) (r : R2) (op : D → D → Option P) : Prop := ∀ (N : Addr → Prop) (H : Hp) (x y : V) (d e : D) (Q : VK), (∀ a, N a → Lv H a) → RD K H N d x → RD K H N e y → (match op d e with | some (.d (.bl k)) => Q (.bl k) H | _ => False) → r x y H Q
theorem chain_w {K : PySem.W.Frag} {r r' : R2} {op op' : D → D → Option P} (p : PBb K r op) (p' : PB K r' op') {σ : L2.St} {H : Hp} {Q : VK} (q : tD K τ W (xChain op op' f g h) σ H Q) : tChain r r' (tD K τ W f) (tD K τ W g) (tD K τ W h) σ H Q := by
  obtain ⟨Φ, ρ, sr, q⟩ := q
  refine ⟨Φ, ρ, sr, ee q fun a ρ1 x H1 s1 sr1 ra ha => ⟨Φ, ρ1, sr1, ee ha fun b ρ2 y H2 s2 sr2 rb hb => ?_⟩⟩
  cases e1 : rdI a ρ2 with
  | none => simp only [mb, e1] at hb; exact hb.elim
  | some d =>
    cases e2 : rdI b ρ2 with
    | none => simp only [mb, e1, e2] at hb; exact hb.elim
    | some e =>
      refine p _ _ _ _ d e _ (fun a z => sr2.nnLv z) ((ra.step s2).rd sr2 e1) (rb.rd sr2 e2) ?_
      cases eo : op d e with
      | none => simp only [mb, e1, e2, eo, mP] at hb; exact hb.elim
      | some z =>
        cases z with
        | l xs => simp only [mb, e1, e2, eo, mP] at hb; exact hb.elim
        | d z =>
          cases z with
          | bl k =>
            simp only [mb, e1, e2, eo, mP] at hb
            refine ⟨k, rfl, ?_⟩
            cases k with
            | false => exact (if_neg Bool.false_ne_true).mpr (hb _ H2 ES.refl sr2 (by show DV _ _ _ _ _; simp only [DV]))
            | true =>
              refine (if_pos rfl).mpr ⟨Φ, ρ2, sr2, ?_⟩
              refine ee (k := fun c => fun ρ => match rdI b ρ, rdI c ρ with
                | some d, some e => mP (op' d e) ρ
                | _, _ => .bad) (Q := Q) hb fun c ρ3 z H3 s3 sr3 rc hc => ?_
              cases e3 : rdI b ρ3 with
              | none => simp only [e3] at hc; exact hc.elim
              | some d' =>
                cases e4 : rdI c ρ3 with
                | none => simp only [e3, e4] at hc; exact hc.elim
                | some e' =>
                  simp only [e3, e4] at hc
                  exact p' _ _ _ _ d' e' Q (fun a z => sr3.nnLv z) ((rb.step s3).rd sr3 e3) (rc.rd sr3 e4) (PR.of sr3 hc)
          | _ => simp only [mb, e1, e2, eo, mP] at hb; exact hb.elim
end
end DL

/-! ## DL4 -/
set_option Elab.async false
set_option linter.all false
set_option maxRecDepth 100000
set_option maxHeartbeats 4000000
/-! DL4: what the operators and the built-in functions do on data. -/
namespace DL
open PySem L2

section
variable {K : PySem.W.Frag} {H : Hp} {N : Addr → Prop} {x y : V}
theorem rd_non (h : RD K H N .non x) : x = .non := by simpa only [RD, DV] using h
theorem rd_bl {b : Bool} (h : RD K H N (.bl b) x) : x = .bl b := by simpa only [RD, DV] using h
theorem rd_int {i : Int} (h : RD K H N (.int i) x) : x = .int i := by simpa only [RD, DV] using h
theorem rd_str {s : Str} (h : RD K H N (.str s) x) : x = .str s := by simpa only [RD, DV] using h
theorem rd_ty {s : String} (h : RD K H N (.ty s) x) : x = .ty s := by simpa only [RD, DV] using h
theorem rd_fn {s : Addr} (h : RD K H N (.fn s) x) : x = .ref s := by simpa only [RD, DV] using h
theorem rd_tup {xs : List D} (h : RD K H N (.tup xs) x) : ∃ a vs, x = .ref a ∧ TupAt K H N a vs ∧ DVs K H N xs vs := by simpa only [RD, DV] using h
theorem rd_scr {xs : List D} (h : RD K H N (.scr xs) x) : ∃ a vs, x = .ref a ∧ ScrAt K H N a vs ∧ DVs K H N xs vs := by simpa only [RD, DV] using h
theorem rd_lst {xs : List D} (h : RD K H N (.lst xs) x) : ∃ a vs, x = .ref a ∧ H a = some (.lst vs) ∧ DVs K H N xs vs := h
theorem dv_int {i : Int} : DV K H N (.int i) (.int i) := by simp only [DV]
theorem dv_bl {b : Bool} : DV K H N (.bl b) (.bl b) := by simp only [DV]
theorem dv_str {s : Str} : DV K H N (.str s) (.str s) := by simp only [DV]
theorem dv_non : DV K H N .non .non := by simp only [DV]
theorem dv_tupG {xs : List D} {vs : List V} {p : Addr} (h : DVs K H N xs vs) (hp : H p = none) (live : ∀ a, N a → Lv H a) : DV K (upd H p (.tup vs)) N (.tup xs) (.ref p) := by
  simp only [DV]
  refine ⟨p, vs, rfl, .inl ⟨.inl upd_same, fun z => (live p z).ne hp⟩, DVs.keep (N := N) (fun b o e _ _ => ?_) (fun a z => .inl z) xs vs h⟩
  rw [upd_ne (ne_of_none e hp)]
  exact e
end
theorem Gr.refl {H : Hp} : Gr H H := .inl rfl
theorem Gr.new {H : Hp} {p : Addr} {o : HO} (h : H p = none) : Gr H (upd H p o) := .inr ⟨p, o, h, rfl⟩

/-! ### + - * // % ** -/
def opAdd : D → D → Option P
  | .int i, .int j => some (.d (.int (i + j)))
  | .tup xs, .tup ys => if szB (xs.length + ys.length) then some (.d (.tup (xs ++ ys))) else none
  | .lst xs, .lst ys => if szB (xs.length + ys.length) then some (.l (xs ++ ys)) else none
  | .str x, .str y => if szB (x.length + y.length) then some (.d (.str (x ++ y))) else none
  | _, _ => none
def opSub : D → D → Option P
  | .int i, .int j => some (.d (.int (i - j)))
  | _, _ => none
def mulB (i j : Int) : Bool := decide (i.natAbs.log2 + j.natAbs.log2 < 1000000)
def opMul : D → D → Option P
  | .int i, .int j => if mulB i j then some (.d (.int (i * j))) else none
  | .lst xs, .int k => if decide (-1000000 ≤ k ∧ k ≤ 1000000) && szB (xs.length * k.toNat) then some (.l (List.replicate k.toNat xs).flatten) else none
  | .tup xs, .int k => if decide (-1000000 ≤ k ∧ k ≤ 1000 ∧ xs.length ≤ 1000) then some (.d (.tup (List.replicate k.toNat xs).flatten)) else none
  | _, _ => none
def opMod : D → D → Option P
  | .int i, .int j => if decide (0 < j) then some (.d (.int (i % j))) else none
  | _, _ => none
def opDiv : D → D → Option P
  | .int i, .int j => if decide (0 < j ∧ j.natAbs.log2 < 9000) then some (.d (.int (i / j))) else none
  | _, _ => none
def powB (i : Int) : Int → Bool
  | .ofNat n => Nat.ble (Builtin.Int.intBits i * n) 134217728
  | .negSucc _ => false
theorem powB_ok {i j : Int} (h : powB i j = true) : 0 ≤ j ∧ (Builtin.Int.intBits i : Int) * j ≤ 2 ^ 27 := by
  cases j with
  | ofNat n =>
    have h : Builtin.Int.intBits i * n ≤ 134217728 := Nat.le_of_ble_eq_true h
    refine ⟨Int.natCast_nonneg n, ?_⟩
    have e : (Builtin.Int.intBits i : Int) * (Int.ofNat n) = ((Builtin.Int.intBits i * n : Nat) : Int) := by simp
    rw [e]
    omega
  | negSucc n => cases h
def opPow : D → D → Option P
  | .int i, .int j => if powB i j then some (.d (.int (i ^ j.toNat))) else none
  | _, _ => none
def opNeg : D → Option P
  | .int i => some (.d (.int (-i)))
  | _ => none
abbrev rAddS : R2 := fun x y H Q => ∃ i j, x = .str i ∧ y = .str j ∧ i.length + j.length ≤ sizeLine ∧ Q (.str (i ++ j)) H
abbrev rAddA (K : PySem.W.Frag) : R2 := fun x y H Q => (rI0 fun i j => .int (i + j)) x y H Q ∨ (rCatA K x y H Q ∨ (rCat x y H Q ∨ rAddS x y H Q))
theorem DVs.nil_of {K : PySem.W.Frag} {H : Hp} {N : Addr → Prop} {xs : List D} {vs : List V} (h : DVs K H N xs vs) : vs = [] ↔ xs = [] := by
  have l := h.length
  constructor
  · intro e; rw [e] at l; exact List.eq_nil_of_length_eq_zero l.symm
  · intro e; rw [e] at l; exact List.eq_nil_of_length_eq_zero l

theorem pb_add {K : PySem.W.Frag} : PB K (rAddA K) opAdd := by
  intro N H x y d e Q lv hx hy q
  rcases d with _|_|i|i|xs|xs|_|_|_ <;> rcases e with _|_|j|j|ys|ys|_|_|_ <;> first | exact False.elim q | skip
  · exact .inl ⟨i, j, rd_int hx, rd_int hy, q _ _ .refl dv_int⟩
  · simp only [opAdd] at q
    split at q
    · rename_i hz
      exact .inr (.inr (.inr ⟨i, j, rd_str hx, rd_str hy, szB_ok hz, q _ _ .refl dv_str⟩))
    · exact q.elim
  · simp only [opAdd] at q
    split at q
    · rename_i hz
      obtain ⟨a, vs, ea, ta, da⟩ := rd_tup hx
      obtain ⟨b, ws, eb, tb, db⟩ := rd_tup hy
      have q : ∀ v H', Gr H H' → DV K H' N (.tup (xs ++ ys)) v → Q v H' := q
      refine .inr (.inl ⟨a, b, vs, ws, ea, eb, ta.sq, tb.sq, by rw [da.length, db.length]; exact szB_ok hz, fun e => ?_, fun _ e => ?_, fun _ _ p hp => ?_⟩)
      · rw [da.nil_of.mp e] at q
        refine q _ _ .refl ?_
        simp only [DV]
        exact ⟨b, ws, rfl, tb, db⟩
      · rw [db.nil_of.mp e, List.append_nil] at q
        refine q _ _ .refl ?_
        simp only [DV]
        exact ⟨a, vs, rfl, ta, da⟩
      · exact q _ _ (.new hp) (dv_tupG (DVs.append da db) hp lv)
    · exact q.elim
  · simp only [opAdd] at q
    split at q
    · rename_i hz
      obtain ⟨a, vs, ea, ta, da⟩ := rd_lst hx
      obtain ⟨b, ws, eb, tb, db⟩ := rd_lst hy
      exact .inr (.inr (.inl ⟨a, b, vs, ws, ea, eb, ta, tb, by rw [da.length, db.length]; exact szB_ok hz, fun p hp => q p (vs ++ ws) hp (DVs.append da db)⟩))
    · exact q.elim
theorem pb_sub {K : PySem.W.Frag} : PB K (rI0 fun i j => .int (i - j)) opSub := by
  intro N H x y d e Q lv hx hy q
  rcases d with _|_|i|i|xs|xs|_|_|_ <;> rcases e with _|_|j|j|ys|ys|_|_|_ <;> first | exact False.elim q | skip
  exact ⟨i, j, rd_int hx, rd_int hy, q _ _ .refl dv_int⟩
theorem pb_mod {K : PySem.W.Frag} : PB K (rI (fun _ j => 0 < j) fun i j => .int (i % j)) opMod := by
  intro N H x y d e Q lv hx hy q
  rcases d with _|_|i|i|xs|xs|_|_|_ <;> rcases e with _|_|j|j|ys|ys|_|_|_ <;> first | exact False.elim q | skip
  simp only [opMod] at q
  split at q
  · rename_i hz
    exact ⟨i, j, rd_int hx, rd_int hy, of_decide_eq_true hz, q _ _ .refl dv_int⟩
  · exact q.elim
theorem pb_div {K : PySem.W.Frag} : PB K (rI CDivW fun i j => .int (i / j)) opDiv := by
  intro N H x y d e Q lv hx hy q
  rcases d with _|_|i|i|xs|xs|_|_|_ <;> rcases e with _|_|j|j|ys|ys|_|_|_ <;> first | exact False.elim q | skip
  simp only [opDiv] at q
  split at q
  · rename_i hz
    exact ⟨i, j, rd_int hx, rd_int hy, by have z := of_decide_eq_true hz; exact z, q _ _ .refl dv_int⟩
  · exact q.elim
def CPowW (i j : Int) : Prop := 0 ≤ j ∧ (Builtin.Int.intBits i : Int) * j ≤ 2 ^ 27
theorem op_powW {X : Cx} : OpR X (binaryOp .Pow) (rI CPowW fun i j => .int (i ^ j.toNat)) := opI fun _ _ _ _ _ _ _ hc q => PyProof.Rows.pow_int hc.1 hc.2 q
theorem pb_pow {K : PySem.W.Frag} : PB K (rI CPowW fun i j => .int (i ^ j.toNat)) opPow := by
  intro N H x y d e Q lv hx hy q
  rcases d with _|_|i|i|xs|xs|_|_|_ <;> rcases e with _|_|j|j|ys|ys|_|_|_ <;> first | exact False.elim q | skip
  simp only [opPow] at q
  split at q
  · rename_i hz
    exact ⟨i, j, rd_int hx, rd_int hy, powB_ok hz, q _ _ .refl dv_int⟩
  · exact q.elim
abbrev rMulA (K : PySem.W.Frag) : R2 := fun x y H Q => (rI CMulW fun i j => .int (i * j)) x y H Q ∨ (rRep x y H Q ∨ (rRepT K x y H Q ∨ rRep0 K x y H Q))
theorem pb_mul {K : PySem.W.Frag} : PB K (rMulA K) opMul := by
  intro N H x y d e Q lv hx hy q
  rcases d with _|_|i|i|xs|xs|_|_|_ <;> rcases e with _|_|j|j|ys|ys|_|_|_ <;> first | exact False.elim q | skip
  · simp only [opMul] at q
    split at q
    · rename_i hz
      exact .inl ⟨i, j, rd_int hx, rd_int hy, by have z := of_decide_eq_true hz; exact z, q _ _ .refl dv_int⟩
    · exact q.elim
  · simp only [opMul] at q
    split at q
    · rename_i hz
      have hz := of_decide_eq_true hz
      obtain ⟨a, vs, ea, ta, da⟩ := rd_tup hx
      have q : ∀ v H', Gr H H' → DV K H' N (.tup (List.replicate j.toNat xs).flatten) v → Q v H' := q
      by_cases hk : vs ≠ [] ∧ 2 ≤ j
      · exact .inr (.inr (.inl ⟨a, j, vs, ea, rd_int hy, ta.sq, hk.1, hk.2, hz.2.1, by rw [da.length]; exact hz.2.2, fun p hp => q _ _ (.new hp) (dv_tupG (DVs.flat da _) hp lv)⟩))
      · refine .inr (.inr (.inr ⟨a, j, vs, ea, rd_int hy, ta.sq, by omega, by omega, fun hc => ?_, fun hne hj p hp => ?_, ?_⟩))
        · refine q _ _ .refl ?_
          simp only [DV]
          refine ⟨a, vs, rfl, ta, ?_⟩
          rcases hc with e | e
          · have : xs = [] := da.nil_of.mp e
            rw [this, List.flatten_replicate_nil]
            rw [this] at da
            exact da
          · rw [e]
            show DVs K H N (xs ++ []) vs
            rw [List.append_nil]
            exact da
        · have : j.toNat = 0 := by omega
          rw [this] at q
          exact q _ _ (.new hp) (dv_tupG DVs.nil hp lv)
        · by_cases h1 : vs = []
          · exact .inl h1
          · exact .inr (by have : ¬ 2 ≤ j := fun z => hk ⟨h1, z⟩; omega)
    · exact q.elim
  · simp only [opMul] at q
    split at q
    · rename_i hz
      rw [Bool.and_eq_true] at hz
      have hz1 := of_decide_eq_true hz.1
      obtain ⟨a, vs, ea, ta, da⟩ := rd_lst hx
      exact .inr (.inl ⟨a, j, vs, ea, rd_int hy, ta, by omega, by omega, by rw [da.length]; exact szB_ok hz.2, fun p hp => q p _ hp (DVs.flat da _)⟩)
    · exact q.elim
theorem pu_neg {K : PySem.W.Frag} : PU K (rU fun i => .int (-i)) opNeg := by
  intro N H x d Q lv hx q
  rcases d with _|_|i|i|xs|xs|_|_|_ <;> first | exact False.elim q | skip
  exact ⟨i, rd_int hx, q _ _ .refl dv_int⟩

/-! ### data of the library, == and repr -/
mutual
def toPy : D → Option PyData
  | .non => some .none
  | .bl b => some (.bool b)
  | .int i => some (.int i)
  | .str x => some (.str x)
  | .tup xs => (toPys xs).map PyData.tuple
  | .lst xs => (toPys xs).map PyData.list
  | _ => none
def toPys : List D → Option (List PyData)
  | [] => some []
  | x :: xs => match toPy x, toPys xs with
    | some p, some ps => some (p :: ps)
    | _, _ => none
end
section
variable {K : PySem.W.Frag} {H : Hp} {N : Addr → Prop}
mutual
theorem DV.dp : ∀ (d : D) (v : V) (p : PyData), DV K H N d v → toPy d = some p → Dp K H v p
  | .non, v, p, h, e => by simp only [DV] at h; simp only [toPy] at e; cases e; rw [h]; exact .non
  | .bl b, v, p, h, e => by simp only [DV] at h; simp only [toPy] at e; cases e; rw [h]; exact .bl b
  | .int i, v, p, h, e => by simp only [DV] at h; simp only [toPy] at e; cases e; rw [h]; exact .int i
  | .str x, v, p, h, e => by simp only [DV] at h; simp only [toPy] at e; cases e; rw [h]; exact .str x
  | .tup xs, v, p, h, e => by
    simp only [DV] at h
    simp only [toPy] at e
    obtain ⟨a, vs, ev, t, q⟩ := h
    obtain ⟨ps, e1, e2⟩ := Option.map_eq_some_iff.mp e
    rw [ev, ← e2]
    exact .tup t.sq (DVs.dp xs vs ps q e1)
  | .lst xs, v, p, h, e => by
    simp only [DV] at h
    simp only [toPy] at e
    obtain ⟨a, vs, ev, t, q⟩ := h
    obtain ⟨ps, e1, e2⟩ := Option.map_eq_some_iff.mp e
    rw [ev, ← e2]
    exact .lst (SqL.of t.1) (DVs.dp xs vs ps q e1)
  | .fn a, v, p, h, e => by simp only [toPy] at e; cases e
  | .ty n, v, p, h, e => by simp only [toPy] at e; cases e
  | .scr xs, v, p, h, e => by simp only [toPy] at e; cases e
theorem DVs.dp : ∀ (ds : List D) (vs : List V) (ps : List PyData), DVs K H N ds vs → toPys ds = some ps → DpAll K H vs ps
  | [], vs, ps, h, e => by simp only [DVs] at h; simp only [toPys] at e; cases e; rw [h]; exact .nil
  | d :: ds, vs, ps, h, e => by
    simp only [DVs] at h
    obtain ⟨v, r, ev, h1, h2⟩ := h
    rw [ev]
    simp only [toPys] at e
    cases e1 : toPy d with
    | none => simp only [e1] at e; cases e
    | some p =>
      cases e2 : toPys ds with
      | none => simp only [e1, e2] at e; cases e
      | some ps' =>
        simp only [e1, e2] at e
        cases e
        exact .cons (DV.dp d v p h1 e1) (DVs.dp ds r ps' h2 e2)
end
theorem RD.dp {d : D} {v : V} {p : PyData} (h : RD K H N d v) (e : toPy d = some p) : Dp K H v p := by
  cases d with
  | lst xs =>
    obtain ⟨a, vs, ev, t, q⟩ := rd_lst h
    simp only [toPy] at e
    obtain ⟨ps, e1, e2⟩ := Option.map_eq_some_iff.mp e
    rw [ev, ← e2]
    exact .lst (SqL.of t) (DVs.dp xs vs ps q e1)
  | dct ks xs => simp only [toPy] at e; cases e
  | ins C ks xs => simp only [toPy] at e; cases e
  | obj s xs => simp only [toPy] at e; cases e
  | _ => exact DV.dp _ _ _ h e
end
def eqD (d e : D) : Option Bool := match toPy d, toPy e with
  | some p, some q => if SeqAt.shaped p && SeqAt.shaped q then some (PyData.eqv p q) else none
  | _, _ => none
def opEq : D → D → Option P
  | .str x, .str y => some (.d (.bl (x == y)))
  | d, e => (eqD d e).map fun k => .d (.bl k)
def opNe : D → D → Option P
  | .str x, .str y => some (.d (.bl (!(x == y))))
  | d, e => (eqD d e).map fun k => .d (.bl (!k))
theorem eqD_w {K : PySem.W.Frag} {H : Hp} {N : Addr → Prop} {x y : V} {d e : D} {k : Bool} (hx : RD K H N d x) (hy : RD K H N e y) (h : eqD d e = some k) : ∃ p q, Dp K H x p ∧ Dp K H y q ∧ SeqAt.shaped p = true ∧ SeqAt.shaped q = true ∧ k = PyData.eqv p q := by
  unfold eqD at h
  cases e1 : toPy d with
  | none => simp only [e1] at h; cases h
  | some p =>
    cases e2 : toPy e with
    | none => simp only [e1, e2] at h; cases h
    | some p' =>
      simp only [e1, e2] at h
      split at h
      · rename_i hz
        rw [Bool.and_eq_true] at hz
        cases h
        exact ⟨p, p', hx.dp e1, hy.dp e2, hz.1, hz.2, rfl⟩
      · cases h
abbrev rEqA (K : PySem.W.Frag) : R2 := fun x y H Q => rEq x y H Q ∨ rEqD K x y H Q
abbrev rNeA (K : PySem.W.Frag) : R2 := fun x y H Q => rNe x y H Q ∨ rNeD K x y H Q
theorem pb_eq {K : PySem.W.Frag} : PB K (rEqA K) opEq := by
  intro N H x y d e Q lv hx hy q
  have dat : PR K N H Q ((eqD d e).map fun k => .d (.bl k)) → rEqA K x y H Q := fun q => by
    cases ek : eqD d e with
    | none => rw [ek] at q; exact q.elim
    | some k =>
      rw [ek] at q
      obtain ⟨p, p', h1, h2, h3, h4, h5⟩ := eqD_w hx hy ek
      refine .inr ⟨p, p', h1, h2, h3, h4, ?_⟩
      rw [← h5]
      exact q _ _ .refl dv_bl
  rcases d with _|_|i|i|xs|xs|_|_|_ <;> first | exact dat q | skip
  rcases e with _|_|j|j|ys|ys|_|_|_ <;> first | exact dat q | skip
  refine .inl ?_
  rw [rd_str hx, rd_str hy]
  refine ⟨rfl, ?_⟩
  rw [dec_str]
  exact q _ _ .refl dv_bl
theorem pb_ne {K : PySem.W.Frag} : PB K (rNeA K) opNe := by
  intro N H x y d e Q lv hx hy q
  have dat : PR K N H Q ((eqD d e).map fun k => .d (.bl (!k))) → rNeA K x y H Q := fun q => by
    cases ek : eqD d e with
    | none => rw [ek] at q; exact q.elim
    | some k =>
      rw [ek] at q
      obtain ⟨p, p', h1, h2, h3, h4, h5⟩ := eqD_w hx hy ek
      refine .inr ⟨p, p', h1, h2, h3, h4, ?_⟩
      rw [← h5]
      exact q _ _ .refl dv_bl
  rcases d with _|_|i|i|xs|xs|_|_|_ <;> first | exact dat q | skip
  rcases e with _|_|j|j|ys|ys|_|_|_ <;> first | exact dat q | skip
  refine .inl ?_
  rw [rd_str hx, rd_str hy]
  refine ⟨rfl, ?_⟩
  rw [dec_str]
  exact q _ _ .refl dv_bl
/-! ### < <= > >= of ints, is None, in -/
def opCmp (f : Int → Int → Bool) : D → D → Option P
  | .int i, .int j => some (.d (.bl (f i j)))
  | _, _ => none
theorem pb_cmp {K : PySem.W.Frag} (f : Int → Int → Bool) : PB K (rI0 fun i j => .bl (f i j)) (opCmp f) := by
  intro N H x y d e Q lv hx hy q
  rcases d with _|_|i|i|xs|xs|_|_|_ <;> rcases e with _|_|j|j|ys|ys|_|_|_ <;> first | exact False.elim q | skip
  exact ⟨i, j, rd_int hx, rd_int hy, q _ _ .refl dv_bl⟩
theorem pbb_cmp {K : PySem.W.Frag} (f : Int → Int → Bool) : PBb K (rI0 fun i j => .bl (f i j)) (opCmp f) := by
  intro N H x y d e Q lv hx hy q
  rcases d with _|_|i|i|xs|xs|_|_|_ <;> rcases e with _|_|j|j|ys|ys|_|_|_ <;> first | exact False.elim q | skip
  exact ⟨i, j, rd_int hx, rd_int hy, q⟩
def isNonD : D → Bool
  | .non => true
  | _ => false
def opIsN : D → D → Option P
  | d, .non => some (.d (.bl (isNonD d)))
  | _, _ => none
def opNotN : D → D → Option P
  | d, .non => some (.d (.bl (!isNonD d)))
  | _, _ => none
theorem isNon_dec {K : PySem.W.Frag} {H : Hp} {N : Addr → Prop} {d : D} {v : V} (h : RD K H N d v) : decide (v = .non) = isNonD d := by
  rcases d with _|_|i|i|xs|xs|_|_|_|_|_|_|_|_|_
  · rw [rd_non h]; rfl
  · rw [rd_bl h]; rfl
  · rw [rd_int h]; rfl
  · rw [rd_str h]; rfl
  · obtain ⟨a, vs, e, _⟩ := rd_tup h; rw [e]; rfl
  · obtain ⟨a, vs, e, _⟩ := rd_lst h; rw [e]; rfl
  · rw [rd_fn h]; rfl
  · rw [rd_ty h]; rfl
  · obtain ⟨a, vs, e, _⟩ := rd_scr h; rw [e]; rfl
  · obtain ⟨a, vs, e, _⟩ := h; rw [e]; rfl
  · obtain ⟨a, vs, e, _⟩ := h; rw [e]; rfl
  · simp only [RD, DV] at h; obtain ⟨vs, e, _⟩ := h; rw [e]; rfl
  · obtain ⟨a, vs, e, _⟩ := h; rw [e]; rfl
  · simp only [RD, DV] at h; rw [h]; rfl
  · obtain ⟨a, vs, e, _⟩ := h; rw [e]; rfl
abbrev rIsN' : R2 := fun x y H Q => y = .non ∧ Q (.bl (decide (x = .non))) H
abbrev rNotN' : R2 := fun x y H Q => y = .non ∧ Q (.bl (!decide (x = .non))) H
theorem pb_isN {K : PySem.W.Frag} : PB K rIsN' opIsN := by
  intro N H x y d e Q lv hx hy q
  rcases e with _|_|j|j|ys|ys|_|_|_ <;> first | exact False.elim q | skip
  refine ⟨rd_non hy, ?_⟩
  rw [isNon_dec hx]
  exact q _ _ .refl dv_bl
theorem pb_notN {K : PySem.W.Frag} : PB K rNotN' opNotN := by
  intro N H x y d e Q lv hx hy q
  rcases e with _|_|j|j|ys|ys|_|_|_ <;> first | exact False.elim q | skip
  refine ⟨rd_non hy, ?_⟩
  rw [isNon_dec hx]
  exact q _ _ .refl dv_bl
/-! ### items -/
def opIx : D → D → Option P
  | .lst xs, .int i => (atI xs i).map P.d
  | .tup xs, .int i => (atI xs i).map P.d
  | .scr xs, .int i => (atI xs i).map P.d
  | .str z, .int i => if szB z.length then (atI z.cps.toList i).map fun c => P.d (.str ⟨#[c]⟩) else none
  | _, _ => none
theorem atI_dv {K : PySem.W.Frag} {H : Hp} {N : Addr → Prop} {xs : List D} {vs : List V} {i : Int} {d : D} (h : DVs K H N xs vs) (e : atI xs i = some d) : ∃ v, atI vs i = some v ∧ DV K H N d v := by
  unfold atI at e ⊢
  rw [h.length]
  obtain ⟨j, e1, e2⟩ := Option.bind_eq_some_iff.mp e
  obtain ⟨v, q1, q2⟩ := h.getD' e2
  exact ⟨v, by rw [e1]; exact q1, q2⟩
theorem pb_ix {K : PySem.W.Frag} : PB K (rIx K) opIx := by
  intro N H x y d e Q lv hx hy q
  rcases d with _|_|i|i|xs|xs|_|_|xs <;> rcases e with _|_|j|j|ys|ys|_|_|_ <;> first | exact False.elim q | skip
  · simp only [opIx] at q
    split at q
    · rename_i hz
      cases ea : atI i.cps.toList j with
      | none => rw [ea] at q; exact q.elim
      | some c =>
        rw [ea] at q
        exact .inr (.inr ⟨i, j, c, rd_str hx, rd_int hy, szB_ok hz, ea, q _ _ .refl dv_str⟩)
    · exact q.elim
  · simp only [opIx] at q
    cases ea : atI xs j with
    | none => rw [ea] at q; exact q.elim
    | some c =>
      rw [ea] at q
      obtain ⟨a, vs, e1, t, dv⟩ := rd_tup hx
      obtain ⟨v, e2, dc⟩ := atI_dv dv ea
      exact .inr (.inl ⟨a, vs, j, v, e1, rd_int hy, t.sq, e2, q _ _ .refl dc⟩)
  · simp only [opIx] at q
    cases ea : atI xs j with
    | none => rw [ea] at q; exact q.elim
    | some c =>
      rw [ea] at q
      obtain ⟨a, vs, e1, t, dv⟩ := rd_lst hx
      obtain ⟨v, e2, dc⟩ := atI_dv dv ea
      exact .inl ⟨a, vs, j, v, e1, rd_int hy, SqL.of t, e2, q _ _ .refl dc⟩
  · simp only [opIx] at q
    cases ea : atI xs j with
    | none => rw [ea] at q; exact q.elim
    | some c =>
      rw [ea] at q
      obtain ⟨a, vs, e1, t, dv⟩ := rd_scr hx
      obtain ⟨v, e2, dc⟩ := atI_dv dv ea
      exact .inl ⟨a, vs, j, v, e1, rd_int hy, t.sq, e2, q _ _ .refl dc⟩

/-! ### the rules -/
section
variable {X : Cx} {e a b c : Expr} {f g h : M R} {W : WX} {pos : Pos}
theorem d_add (ha : PE X a (tD X.K τ W f)) (hb : PE X b (tD X.K τ W g)) : PE X (.BinOp a .Add b pos) (tD X.K τ W (xBin opAdd f g)) := d_bin pb_add (pe_op (OpR.or op_add (OpR.or op_catA (OpR.or op_cat op_add_str))) ha hb)
theorem d_sub (ha : PE X a (tD X.K τ W f)) (hb : PE X b (tD X.K τ W g)) : PE X (.BinOp a .Sub b pos) (tD X.K τ W (xBin opSub f g)) := d_bin pb_sub (pe_op op_sub ha hb)
theorem d_mul (ha : PE X a (tD X.K τ W f)) (hb : PE X b (tD X.K τ W g)) : PE X (.BinOp a .Mult b pos) (tD X.K τ W (xBin opMul f g)) := d_bin pb_mul (pe_op (OpR.or op_mulW (OpR.or op_rep (OpR.or op_repT op_rep0))) ha hb)
theorem d_mod (ha : PE X a (tD X.K τ W f)) (hb : PE X b (tD X.K τ W g)) : PE X (.BinOp a .Mod b pos) (tD X.K τ W (xBin opMod f g)) := d_bin pb_mod (pe_op op_mod ha hb)
theorem d_div (ha : PE X a (tD X.K τ W f)) (hb : PE X b (tD X.K τ W g)) : PE X (.BinOp a .FloorDiv b pos) (tD X.K τ W (xBin opDiv f g)) := d_bin pb_div (pe_op op_fdivW ha hb)
theorem d_pow (ha : PE X a (tD X.K τ W f)) (hb : PE X b (tD X.K τ W g)) : PE X (.BinOp a .Pow b pos) (tD X.K τ W (xBin opPow f g)) := d_bin pb_pow (pe_op op_powW ha hb)
theorem d_neg (ha : PE X a (tD X.K τ W f)) : PE X (.UnaryOp .USub a pos) (tD X.K τ W (xUn opNeg f)) := d_un pu_neg (pe_un un_neg ha)
theorem d_ix (ha : PE X a (tD X.K τ W f)) (hb : PE X b (tD X.K τ W g)) (hs : PlainIx b) : PE X (.Subscript a b pos) (tD X.K τ W (xBin opIx f g)) := d_bin pb_ix (pe_ix ix_seq ha hb hs)
theorem d_eq (hu : X.A.units + 64 < cLine) (ha : PE X a (tD X.K τ W f)) (hb : PE X b (tD X.K τ W g)) : PE X (.Compare a [.Eq] [b] pos) (tD X.K τ W (xBin opEq f g)) := d_bin pb_eq (pe_cmpR (OpR.or op_eq (op_eqD hu)) ha hb (nomark _))
theorem d_ne (hu : X.A.units + 64 < cLine) (ha : PE X a (tD X.K τ W f)) (hb : PE X b (tD X.K τ W g)) : PE X (.Compare a [.NotEq] [b] pos) (tD X.K τ W (xBin opNe f g)) := d_bin pb_ne (pe_cmpR (OpR.or op_ne (op_neD hu)) ha hb (nomark _))
theorem d_lt (ha : PE X a (tD X.K τ W f)) (hb : PE X b (tD X.K τ W g)) : PE X (.Compare a [.Lt] [b] pos) (tD X.K τ W (xBin (opCmp fun i j => decide (i < j)) f g)) := d_bin (pb_cmp _) (pe_cmpR op_lt ha hb (nomark _))
theorem d_le (ha : PE X a (tD X.K τ W f)) (hb : PE X b (tD X.K τ W g)) : PE X (.Compare a [.LtE] [b] pos) (tD X.K τ W (xBin (opCmp fun i j => decide (i ≤ j)) f g)) := d_bin (pb_cmp _) (pe_cmpR op_le ha hb (nomark _))
theorem d_gt (ha : PE X a (tD X.K τ W f)) (hb : PE X b (tD X.K τ W g)) : PE X (.Compare a [.Gt] [b] pos) (tD X.K τ W (xBin (opCmp fun i j => decide (j < i)) f g)) := d_bin (pb_cmp _) (pe_cmpR op_gt ha hb (nomark _))
theorem d_ge (ha : PE X a (tD X.K τ W f)) (hb : PE X b (tD X.K τ W g)) : PE X (.Compare a [.GtE] [b] pos) (tD X.K τ W (xBin (opCmp fun i j => decide (j ≤ i)) f g)) := d_bin (pb_cmp _) (pe_cmpR op_ge ha hb (nomark _))
theorem d_isN (ha : PE X a (tD X.K τ W f)) (hb : PE X b (tD X.K τ W g)) : PE X (.Compare a [.Is] [b] pos) (tD X.K τ W (xBin opIsN f g)) := d_bin pb_isN (pe_cmpR op_isN ha hb (nomark _))
theorem d_notN (ha : PE X a (tD X.K τ W f)) (hb : PE X b (tD X.K τ W g)) : PE X (.Compare a [.IsNot] [b] pos) (tD X.K τ W (xBin opNotN f g)) := d_bin pb_notN (pe_cmpR op_notN ha hb (nomark _))
/- as tests -/
theorem t_eq (hu : X.A.units + 64 < cLine) (ha : PE X a (tD X.K τ W f)) (hb : PE X b (tD X.K τ W g)) : PT X (.Compare a [.Eq] [b] pos) (tT X.K τ W (xAsB (xBin opEq f g))) := d_tcmp pb_eq (pt_cmpR (OpR.or op_eq (op_eqD hu)) ha hb (nomark _))
theorem t_ne (hu : X.A.units + 64 < cLine) (ha : PE X a (tD X.K τ W f)) (hb : PE X b (tD X.K τ W g)) : PT X (.Compare a [.NotEq] [b] pos) (tT X.K τ W (xAsB (xBin opNe f g))) := d_tcmp pb_ne (pt_cmpR (OpR.or op_ne (op_neD hu)) ha hb (nomark _))
theorem t_lt (ha : PE X a (tD X.K τ W f)) (hb : PE X b (tD X.K τ W g)) : PT X (.Compare a [.Lt] [b] pos) (tT X.K τ W (xAsB (xBin (opCmp fun i j => decide (i < j)) f g))) := d_tcmp (pb_cmp _) (pt_cmpR op_lt ha hb (nomark _))
theorem t_le (ha : PE X a (tD X.K τ W f)) (hb : PE X b (tD X.K τ W g)) : PT X (.Compare a [.LtE] [b] pos) (tT X.K τ W (xAsB (xBin (opCmp fun i j => decide (i ≤ j)) f g))) := d_tcmp (pb_cmp _) (pt_cmpR op_le ha hb (nomark _))
theorem t_gt (ha : PE X a (tD X.K τ W f)) (hb : PE X b (tD X.K τ W g)) : PT X (.Compare a [.Gt] [b] pos) (tT X.K τ W (xAsB (xBin (opCmp fun i j => decide (j < i)) f g))) := d_tcmp (pb_cmp _) (pt_cmpR op_gt ha hb (nomark _))
theorem t_ge (ha : PE X a (tD X.K τ W f)) (hb : PE X b (tD X.K τ W g)) : PT X (.Compare a [.GtE] [b] pos) (tT X.K τ W (xAsB (xBin (opCmp fun i j => decide (j ≤ i)) f g))) := d_tcmp (pb_cmp _) (pt_cmpR op_ge ha hb (nomark _))
theorem t_isN (ha : PE X a (tD X.K τ W f)) (hb : PE X b (tD X.K τ W g)) : PT X (.Compare a [.Is] [b] pos) (tT X.K τ W (xAsB (xBin opIsN f g))) := d_tcmp pb_isN (pt_cmpR op_isN ha hb (nomark _))
theorem t_notN (ha : PE X a (tD X.K τ W f)) (hb : PE X b (tD X.K τ W g)) : PT X (.Compare a [.IsNot] [b] pos) (tT X.K τ W (xAsB (xBin opNotN f g))) := d_tcmp pb_notN (pt_cmpR op_notN ha hb (nomark _))
/-- low <= value <= high -/
theorem d_lele (ha : PE X a (tD X.K τ W f)) (hb : PE X b (tD X.K τ W g)) (hc : PE X c (tD X.K τ W h)) (hm : lastMarks [.LtE, .LtE] [b, c] = false := by with_unfolding_all rfl) :
    PE X (.Compare a [.LtE, .LtE] [b, c] pos) (tD X.K τ W (xChain (opCmp fun i j => decide (i ≤ j)) (opCmp fun i j => decide (i ≤ j)) f g h)) := PE.weak (pe_chain op_le op_le ha hb hc hm) fun _ _ _ q => chain_w (pbb_cmp _) (pb_cmp _) q
theorem t_lele (ha : PE X a (tD X.K τ W f)) (hb : PE X b (tD X.K τ W g)) (hc : PE X c (tD X.K τ W h)) (hm : lastMarks [.LtE, .LtE] [b, c] = false := by with_unfolding_all rfl) :
    PT X (.Compare a [.LtE, .LtE] [b, c] pos) (tT X.K τ W (xAsB (xChain (opCmp fun i j => decide (i ≤ j)) (opCmp fun i j => decide (i ≤ j)) f g h))) := PT.weak (pt_chain op_le op_le ha hb hc hm) fun _ _ _ q => chain_w (pbb_cmp _) (pb_cmp _) (asB q)
theorem t_ltlt (ha : PE X a (tD X.K τ W f)) (hb : PE X b (tD X.K τ W g)) (hc : PE X c (tD X.K τ W h)) (hm : lastMarks [.Lt, .Lt] [b, c] = false := by with_unfolding_all rfl) :
    PT X (.Compare a [.Lt, .Lt] [b, c] pos) (tT X.K τ W (xAsB (xChain (opCmp fun i j => decide (i < j)) (opCmp fun i j => decide (i < j)) f g h))) := PT.weak (pt_chain op_lt op_lt ha hb hc hm) fun _ _ _ q => chain_w (pbb_cmp _) (pb_cmp _) (asB q)
theorem t_lelt (ha : PE X a (tD X.K τ W f)) (hb : PE X b (tD X.K τ W g)) (hc : PE X c (tD X.K τ W h)) (hm : lastMarks [.LtE, .Lt] [b, c] = false := by with_unfolding_all rfl) :
    PT X (.Compare a [.LtE, .Lt] [b, c] pos) (tT X.K τ W (xAsB (xChain (opCmp fun i j => decide (i ≤ j)) (opCmp fun i j => decide (i < j)) f g h))) := PT.weak (pt_chain op_le op_lt ha hb hc hm) fun _ _ _ q => chain_w (pbb_cmp _) (pb_cmp _) (asB q)
end
end DL

/-! ## DL5 -/
set_option Elab.async false
set_option linter.all false
set_option maxRecDepth 100000
set_option maxHeartbeats 4000000
/-! DL5: built-in calls and slices on data. -/
namespace DL
open PySem L2
section
variable {K : PySem.W.Frag} {H : Hp} {N : Addr → Prop}
theorem rds1 {d : D} {xs : List V} (h : RDs K H N [d] xs) : ∃ x, xs = [x] ∧ RD K H N d x := by
  obtain ⟨x, r, e, h, t⟩ := h
  have t : r = [] := t
  exact ⟨x, by rw [e, t], h⟩
theorem rds2 {d e : D} {xs : List V} (h : RDs K H N [d, e] xs) : ∃ x y, xs = [x, y] ∧ RD K H N d x ∧ RD K H N e y := by
  obtain ⟨x, r, ev, h, t⟩ := h
  obtain ⟨y, er, h2⟩ := rds1 t
  exact ⟨x, y, by rw [ev, er], h, h2⟩
end
/-- an operation of one argument -/
def one (op : D → Option P) : List D → Option P
  | [d] => op d
  | _ => none
def two (op : D → D → Option P) : List D → Option P
  | [d, e] => op d e
  | _ => none
theorem pc_one {K : PySem.W.Frag} {r : List V → Hp → VK → Prop} {op : D → Option P} (h : PU K (fun x H Q => r [x] H Q) op) : PCall K r (one op) := by
  intro N H xs ds Q lv hx q
  match ds, hx, q with
  | [d], hx, q =>
    obtain ⟨x, e, hd⟩ := rds1 hx
    rw [e]
    exact h N H x d Q lv hd q
theorem pc_two {K : PySem.W.Frag} {r : List V → Hp → VK → Prop} {op : D → D → Option P} (h : PB K (fun x y H Q => r [x, y] H Q) op) : PCall K r (two op) := by
  intro N H xs ds Q lv hx q
  match ds, hx, q with
  | [d, e], hx, q =>
    obtain ⟨x, y, ev, hd, he⟩ := rds2 hx
    rw [ev]
    exact h N H x y d e Q lv hd he q
/-! ### len, int, abs, min, max, bool -/
def opLen : D → Option P
  | .lst xs => some (.d (.int xs.length))
  | .tup xs => some (.d (.int xs.length))
  | .scr xs => some (.d (.int xs.length))
  | .str z => if szB z.length then some (.d (.int z.length)) else none
  | _ => none
abbrev rLenA (K : PySem.W.Frag) : List V → Hp → VK → Prop := fun xs H Q => ∃ x n, xs = [x] ∧ LenV K x H n ∧ Q (.int n) H
theorem pc_len {K : PySem.W.Frag} : PCall K (rLenA K) (one opLen) := pc_one fun N H x d Q lv hx q => by
  rcases d with _|_|i|i|xs|xs|_|_|xs <;> first | exact False.elim q | skip
  · simp only [opLen] at q
    split at q
    · rename_i hz
      exact ⟨x, _, rfl, by rw [rd_str hx]; exact ⟨szB_ok hz, rfl⟩, q _ _ .refl dv_int⟩
    · exact q.elim
  · obtain ⟨a, vs, e1, t, dv⟩ := rd_tup hx
    exact ⟨x, xs.length, rfl, by rw [e1]; exact .inr ⟨vs, t.sq, dv.length.symm⟩, q _ _ .refl dv_int⟩
  · obtain ⟨a, vs, e1, t, dv⟩ := rd_lst hx
    exact ⟨x, xs.length, rfl, by rw [e1]; exact .inl ⟨vs, SqL.of t, dv.length.symm⟩, q _ _ .refl dv_int⟩
  · obtain ⟨a, vs, e1, t, dv⟩ := rd_scr hx
    exact ⟨x, xs.length, rfl, by rw [e1]; exact .inl ⟨vs, t.sq, dv.length.symm⟩, q _ _ .refl dv_int⟩
def opInt : D → Option P
  | .int i => some (.d (.int i))
  | .bl k => some (.d (.int (if k then 1 else 0)))
  | _ => none
abbrev rInt1 : List V → Hp → VK → Prop := fun xs H Q => (∃ i, xs = [.int i] ∧ Q (.int i) H) ∨ ∃ k, xs = [.bl k] ∧ Q (.int (if k then 1 else 0)) H
theorem pc_int {K : PySem.W.Frag} : PCall K rInt1 (one opInt) := pc_one fun N H x d Q lv hx q => by
  rcases d with _|k|i|i|xs|xs|_|_|xs <;> first | exact False.elim q | skip
  · exact .inr ⟨k, by rw [rd_bl hx], q _ _ .refl dv_int⟩
  · exact .inl ⟨i, by rw [rd_int hx], q _ _ .refl dv_int⟩
def opAbs : D → Option P
  | .int i => some (.d (.int (if i < 0 then -i else i)))
  | _ => none
theorem pc_abs {K : PySem.W.Frag} : PCall K (fun xs H Q => ∃ i : Int, xs = [.int i] ∧ Q (.int (if i < 0 then -i else i)) H) (one opAbs) := pc_one fun N H x d Q lv hx q => by
  rcases d with _|k|i|i|xs|xs|_|_|xs <;> first | exact False.elim q | skip
  exact ⟨i, by rw [rd_int hx], q _ _ .refl dv_int⟩
def opMin : D → D → Option P
  | .int i, .int j => some (.d (.int (if j < i then j else i)))
  | _, _ => none
def opMax : D → D → Option P
  | .int i, .int j => some (.d (.int (if j > i then j else i)))
  | _, _ => none
theorem pc_min {K : PySem.W.Frag} : PCall K (fun xs H Q => ∃ i j : Int, xs = [.int i, .int j] ∧ Q (.int (if j < i then j else i)) H) (two opMin) := pc_two fun N H x y d e Q lv hx hy q => by
  rcases d with _|k|i|i|xs|xs|_|_|xs <;> rcases e with _|k|j|j|ys|ys|_|_|ys <;> first | exact False.elim q | skip
  exact ⟨i, j, by rw [rd_int hx, rd_int hy], q _ _ .refl dv_int⟩
theorem pc_max {K : PySem.W.Frag} : PCall K (fun xs H Q => ∃ i j : Int, xs = [.int i, .int j] ∧ Q (.int (if j > i then j else i)) H) (two opMax) := pc_two fun N H x y d e Q lv hx hy q => by
  rcases d with _|k|i|i|xs|xs|_|_|xs <;> rcases e with _|k|j|j|ys|ys|_|_|ys <;> first | exact False.elim q | skip
  exact ⟨i, j, by rw [rd_int hx, rd_int hy], q _ _ .refl dv_int⟩
/-! ### tuple, list, sum, all, any -/
def opTuple : D → Option P
  | .lst xs => some (.d (.tup xs))
  | .tup xs => some (.d (.tup xs))
  | _ => none
abbrev rTupleOf (K : PySem.W.Frag) : List V → Hp → VK → Prop := fun xs H Q => ∃ p ys, xs = [.ref p] ∧ ((SqL K H p ys ∧ ∀ l, H l = none → Q (.ref l) (upd H l (.tup ys))) ∨ (SqT K H p ys ∧ Q (.ref p) H))
theorem pc_tuple {K : PySem.W.Frag} : PCall K (rTupleOf K) (one opTuple) := pc_one fun N H x d Q lv hx q => by
  rcases d with _|k|i|i|xs|xs|_|_|xs <;> first | exact False.elim q | skip
  · obtain ⟨a, vs, e1, t, dv⟩ := rd_tup hx
    refine ⟨a, vs, by rw [e1], .inr ⟨t.sq, q _ _ .refl ?_⟩⟩
    simp only [DV]
    exact ⟨a, vs, rfl, t, dv⟩
  · obtain ⟨a, vs, e1, t, dv⟩ := rd_lst hx
    exact ⟨a, vs, by rw [e1], .inl ⟨SqL.of t, fun l hl => q _ _ (.new hl) (dv_tupG dv hl lv)⟩⟩
def opList : D → Option P
  | .lst xs => some (.l xs)
  | .tup xs => some (.l xs)
  | .scr xs => some (.l xs)
  | _ => none
abbrev rListOf (K : PySem.W.Frag) : List V → Hp → VK → Prop := fun xs H Q => ∃ p ys, xs = [.ref p] ∧ (SqL K H p ys ∨ SqT K H p ys) ∧ ∀ l, H l = none → Q (.ref l) (upd H l (.lst ys))
theorem pc_list {K : PySem.W.Frag} : PCall K (rListOf K) (one opList) := pc_one fun N H x d Q lv hx q => by
  rcases d with _|k|i|i|xs|xs|_|_|xs <;> first | exact False.elim q | skip
  · obtain ⟨a, vs, e1, t, dv⟩ := rd_tup hx
    exact ⟨a, vs, by rw [e1], .inr t.sq, fun l hl => q l vs hl dv⟩
  · obtain ⟨a, vs, e1, t, dv⟩ := rd_lst hx
    exact ⟨a, vs, by rw [e1], .inl (SqL.of t), fun l hl => q l vs hl dv⟩
  · obtain ⟨a, vs, e1, t, dv⟩ := rd_scr hx
    exact ⟨a, vs, by rw [e1], .inl t.sq, fun l hl => q l vs hl dv⟩
def intsOf : List D → Option (List Int)
  | [] => some []
  | .int i :: r => (intsOf r).map (i :: ·)
  | _ :: _ => none
def boolsOf : List D → Option (List Bool)
  | [] => some []
  | .bl i :: r => (boolsOf r).map (i :: ·)
  | _ :: _ => none
theorem intsOf_dv {K : PySem.W.Frag} {H : Hp} {N : Addr → Prop} : ∀ {xs : List D} {vs : List V} {ns : List Int}, DVs K H N xs vs → intsOf xs = some ns → vs = ns.map V.int
  | [], vs, ns, h, e => by simp only [DVs] at h; cases e; exact h
  | x :: xs, vs, ns, h, e => by
    simp only [DVs] at h
    obtain ⟨v, r, ev, h1, h2⟩ := h
    cases x with
    | int i =>
      simp only [intsOf] at e
      obtain ⟨ms, e1, e2⟩ := Option.map_eq_some_iff.mp e
      simp only [DV] at h1
      rw [ev, h1, ← e2, intsOf_dv h2 e1]
      rfl
    | _ => cases e
theorem boolsOf_dv {K : PySem.W.Frag} {H : Hp} {N : Addr → Prop} : ∀ {xs : List D} {vs : List V} {ns : List Bool}, DVs K H N xs vs → boolsOf xs = some ns → vs = ns.map V.bl
  | [], vs, ns, h, e => by simp only [DVs] at h; cases e; exact h
  | x :: xs, vs, ns, h, e => by
    simp only [DVs] at h
    obtain ⟨v, r, ev, h1, h2⟩ := h
    cases x with
    | bl i =>
      simp only [boolsOf] at e
      obtain ⟨ms, e1, e2⟩ := Option.map_eq_some_iff.mp e
      simp only [DV] at h1
      rw [ev, h1, ← e2, boolsOf_dv h2 e1]
      rfl
    | _ => cases e
def opSum : D → Option P
  | .lst xs => (intsOf xs).map fun ns => .d (.int ns.sum)
  | _ => none
def opAll : D → Option P
  | .lst xs => (boolsOf xs).map fun ns => .d (.bl (ns.all id))
  | _ => none
def opAny : D → Option P
  | .lst xs => (boolsOf xs).map fun ns => .d (.bl (ns.any id))
  | _ => none
theorem pc_sum {K : PySem.W.Frag} : PCall K (rSum K) (one opSum) := pc_one fun N H x d Q lv hx q => by
  rcases d with _|k|i|i|xs|xs|_|_|xs <;> first | exact False.elim q | skip
  simp only [opSum] at q
  cases e : intsOf xs with
  | none => rw [e] at q; exact q.elim
  | some ns =>
    rw [e] at q
    obtain ⟨a, vs, e1, t, dv⟩ := rd_lst hx
    exact ⟨a, ns, by rw [e1], by rw [← intsOf_dv dv e]; exact SqL.of t, q _ _ .refl dv_int⟩
theorem pc_all {K : PySem.W.Frag} : PCall K (rAll K) (one opAll) := pc_one fun N H x d Q lv hx q => by
  rcases d with _|k|i|i|xs|xs|_|_|xs <;> first | exact False.elim q | skip
  simp only [opAll] at q
  cases e : boolsOf xs with
  | none => rw [e] at q; exact q.elim
  | some ns =>
    rw [e] at q
    obtain ⟨a, vs, e1, t, dv⟩ := rd_lst hx
    exact ⟨a, ns, by rw [e1], by rw [← boolsOf_dv dv e]; exact SqL.of t, q _ _ .refl dv_bl⟩
theorem pc_any {K : PySem.W.Frag} : PCall K (rAny K) (one opAny) := pc_one fun N H x d Q lv hx q => by
  rcases d with _|k|i|i|xs|xs|_|_|xs <;> first | exact False.elim q | skip
  simp only [opAny] at q
  cases e : boolsOf xs with
  | none => rw [e] at q; exact q.elim
  | some ns =>
    rw [e] at q
    obtain ⟨a, vs, e1, t, dv⟩ := rd_lst hx
    exact ⟨a, ns, by rw [e1], by rw [← boolsOf_dv dv e]; exact SqL.of t, q _ _ .refl dv_bl⟩
/-! ### isinstance of a built-in class -/
def tyN : D → Option String
  | .non => some "NoneType"
  | .bl _ => some "bool"
  | .int _ => some "int"
  | .str _ => some "str"
  | .tup _ => some "tuple"
  | .lst _ => some "list"
  | .scr _ => some "list"
  | .dct _ _ => some "dict"
  | _ => none
theorem tyN_x {K : PySem.W.Frag} {H : Hp} {N : Addr → Prop} {d : D} {x : V} {n : String} (h : RD K H N d x) (e : tyN d = some n) : TyX K H x (.type n) := by
  rcases d with _|k|i|i|xs|xs|_|_|xs|⟨ks, xs⟩|_|_|_ <;> cases e
  · rw [rd_non h]; exact .base .non
  · rw [rd_bl h]; exact .base (.bl _)
  · rw [rd_int h]; exact .base (.int _)
  · rw [rd_str h]; exact .base (.str _)
  · obtain ⟨a, vs, e1, t, dv⟩ := rd_tup h
    rw [e1]
    rcases t with ⟨t | ⟨o, t⟩, _⟩ | ⟨o, its, m, lk, c, _⟩
    · exact .base (.tup t)
    · exact .fTuple t
    · exact .kTuple lk c
  · obtain ⟨a, vs, e1, t, dv⟩ := rd_lst h
    rw [e1]; exact .base (.lst t)
  · obtain ⟨a, vs, e1, t, dv⟩ := rd_scr h
    rw [e1]
    rcases t with ⟨⟨o, t⟩, _⟩ | ⟨o, its, m, lk, c, _⟩
    · exact .base (.frz t)
    · exact .kList lk c
  · obtain ⟨a, vs, e1, t, dv⟩ := h
    rw [e1]; exact .base (.dK t.1)
def opIsi : D → D → Option P
  | d, .ty T => match tyN d with
    | some n => match kitB n T with
      | some b => some (.d (.bl b))
      | none => none
    | none => none
  | _, _ => none
theorem pc_isi {K : PySem.W.Frag} : PCall K (rIsi K) (two opIsi) := pc_two fun N H x y d e Q lv hx hy q => by
  rcases e with _|k|j|j|ys|ys|_|T|ys <;> first | exact False.elim q | skip
  simp only [opIsi] at q
  cases e1 : tyN d with
  | none => simp only [e1] at q; exact q.elim
  | some n =>
    cases e2 : kitB n T with
    | none => simp only [e1, e2] at q; exact q.elim
    | some b =>
      simp only [e1, e2] at q
      exact ⟨x, y, .type n, .type T, b, rfl, by rw [rd_ty hy]; exact .ty T, tyN_x hx e1, kit_ty e2, q _ _ .refl dv_bl⟩
/-! ### repr -/
def reprB (p : PyData) : Bool := PyData.showable p && !PyData.hasDict p && decide (PyData.depth p ≤ 64) && szB (PyData.shown p).length
/-! ### data with dicts in it -/
def keyPy : Key → PyData
  | .inl i => .int i
  | .inr x => .str x
mutual
def toPyR : D → Option PyData
  | .non => some .none
  | .bl b => some (.bool b)
  | .int i => some (.int i)
  | .str x => some (.str x)
  | .tup xs => (toPyRs xs).map PyData.tuple
  | .lst xs => (toPyRs xs).map PyData.list
  | .dct ks xs => (toPyRs xs).map fun ps => PyData.dict ((ks.map keyPy).zip ps)
  | _ => none
def toPyRs : List D → Option (List PyData)
  | [] => some []
  | x :: xs => match toPyR x, toPyRs xs with
    | some p, some ps => some (p :: ps)
    | _, _ => none
end
/-- where sys.modules stands is a dict of the written part -/
def SysOk (base : Heap) : Prop := ∃ o, base.get? sysModules = some o
section
variable {X : Cx} {pins : List (Addr × Obj)} {σ : L2.St} {H : Hp} {s : Shared} {N : Addr → Prop}
theorem SysOk.free (sm : SysOk X.base) (I : Inv X pins σ H s) : H sysModules = none := by
  obtain ⟨o, e⟩ := sm
  exact (I.bs _ _ e).2
theorem key_py {k : Key} {v : Value} (h : keyIs k v = true) : ∀ hp : Heap, Reads hp v (keyPy k) [] := by
  rcases keyIs_shape h with ⟨i, t, rfl, rfl⟩ | ⟨x, t, rfl, rfl⟩
  · exact fun _ => .int i t
  · exact fun _ => .str x t
theorem zip_fst {α β γ : Type} (f : α → γ) : ∀ {ks : List α} {ps : List β}, ks.length = ps.length → ((ks.map f).zip ps).map (·.1) = ks.map f ∧ ((ks.map f).zip ps).map (·.2) = ps
  | [], [], _ => ⟨rfl, rfl⟩
  | k :: ks, p :: ps, h => by
    obtain ⟨a, b⟩ := zip_fst f (ks := ks) (ps := ps) (by simpa using h)
    exact ⟨by simp only [List.map_cons, List.zip_cons_cons, a], by simp only [List.map_cons, List.zip_cons_cons, b]⟩
theorem toPyRs_length : ∀ {xs : List D} {ps : List PyData}, toPyRs xs = some ps → ps.length = xs.length
  | [], ps, h => by simp only [toPyRs] at h; cases h; rfl
  | x :: xs, ps, h => by
    simp only [toPyRs] at h
    cases e1 : toPyR x with
    | none => simp only [e1] at h; cases h
    | some p =>
      cases e2 : toPyRs xs with
      | none => simp only [e1, e2] at h; cases h
      | some q => simp only [e1, e2] at h; cases h; rw [List.length_cons, List.length_cons, toPyRs_length e2]
/-- a dict's entries are read -/
theorem reads_dk {a : Addr} {ks : List Key} {ws : List V} {ps : List PyData} {bs : List Addr} (I : Inv X pins σ H s) (e : H a = some (.dK (ks.zip ws))) (hl : ks.length = ws.length) (hp : ks.length = ps.length)
    (hv : ∀ us, Vals ws us → ∃ bs, ReadsAll s.heap us ps bs ∧ sysModules ∉ bs) : ∃ as, Reads s.heap (.ref a) (.dict ((ks.map keyPy).zip ps)) as ∧ sysModules ∉ as := by
  obtain ⟨_, hs, vs, r, o, es, ep, ho, hx, hd, _, pr, _⟩ := I.hok a _ e
  have go : ∀ {ks : List Key} {ws : List V} {vs : List (Key × Value)} {es : List DictEntry}, ks.length = ws.length → KV (ks.zip ws) vs → Pairs (mixKind X.prog X.w) es vs → ReadsAll s.heap (es.map (·.key)) (ks.map keyPy) [] ∧ Vals ws (es.map (·.val)) := by
    intro ks
    induction ks with
    | nil =>
      intro ws vs es hl r pr
      cases ws with
      | cons => simp at hl
      | nil =>
        cases r
        cases es with
        | nil => exact ⟨.nil, .nil⟩
        | cons => cases pr
    | cons k ks ih =>
      intro ws vs es hl r pr
      cases ws with
      | nil => simp at hl
      | cons w ws =>
        cases r with
        | @cons _ q _ qs h t =>
          cases es with
          | nil => cases pr
          | cons en es =>
            cases pr
            rename_i p1 p2 p3
            obtain ⟨z1, z2⟩ := ih (by simpa using hl) t p3
            refine ⟨?_, .cons (by show RelV w en.val; rw [p2]; exact h.2) z2⟩
            have kk : keyIs k en.key = true := by rw [show k = q.1 from h.1]; exact p1
            exact ReadsAll.cons (as := []) (bs := []) (key_py kk _) z1
  obtain ⟨z1, z2⟩ := go hl r pr
  obtain ⟨bs, q1, q2⟩ := hv _ z2
  obtain ⟨f1, f2⟩ := zip_fst keyPy hp
  refine ⟨_, Reads.dict ho hx.1 hd (by rw [f1]; exact z1) (by rw [f2]; exact q1), ?_⟩
  have ne : a ≠ sysModules := by simpa using hs
  simp only [List.cons_append, List.nil_append, List.append_nil, List.mem_cons, List.not_mem_nil, false_or, not_or]
  exact ⟨fun z => ne z.symm, q2⟩
theorem reads_lst {a : Addr} {ws : List V} {ps : List PyData} (sm : SysOk X.base) (I : Inv X pins σ H s) (e : H a = some (.lst ws)) (hv : ∀ us, Vals ws us → ∃ bs, ReadsAll s.heap us ps bs ∧ sysModules ∉ bs) : ∃ as, Reads s.heap (.ref a) (.list ps) as ∧ sysModules ∉ as := by
  obtain ⟨its, rv, ⟨o, n, ho, hc, _, hd⟩, _⟩ := I.list (SqL.of e)
  obtain ⟨bs, q1, q2⟩ := hv _ rv
  refine ⟨_, Reads.list ho hc hd q1, fun z => ?_⟩
  rcases List.mem_cons.mp z with z | z
  · rw [← z, sm.free I] at e; cases e
  · exact q2 z
mutual
theorem DV.reads (sm : SysOk X.base) (I : Inv X pins σ H s) : ∀ (d : D) (v : V) (p : PyData) (u : Value), DV X.K H N d v → toPyR d = some p → RelV v u → ∃ as, Reads s.heap u p as ∧ sysModules ∉ as
  | .non, v, p, u, h, e, r => by simp only [DV] at h; simp only [toPyR] at e; cases e; subst h; cases r; exact ⟨_, .none, by simp⟩
  | .bl b, v, p, u, h, e, r => by simp only [DV] at h; simp only [toPyR] at e; cases e; subst h; cases r; exact ⟨_, .bool b, by simp⟩
  | .int i, v, p, u, h, e, r => by simp only [DV] at h; simp only [toPyR] at e; cases e; subst h; obtain ⟨t, rfl⟩ := r; exact ⟨_, .int i t, by simp⟩
  | .str x, v, p, u, h, e, r => by simp only [DV] at h; simp only [toPyR] at e; cases e; subst h; obtain ⟨t, rfl⟩ := r; exact ⟨_, .str x t, by simp⟩
  | .tup xs, v, p, u, h, e, r => by
    simp only [DV] at h
    simp only [toPyR] at e
    obtain ⟨a, vs, ev, t, q⟩ := h
    obtain ⟨ps, e1, e2⟩ := Option.map_eq_some_iff.mp e
    subst ev e2
    cases r
    obtain ⟨its, rv, ⟨o, ho, hc, n, hd⟩, _⟩ := I.tuple t.sq
    obtain ⟨as, q1, q2⟩ := DVs.reads sm I xs vs ps its q e1 rv
    exact ⟨as, .tuple ho hc hd q1, q2⟩
  | .lst xs, v, p, u, h, e, r => by
    simp only [DV] at h
    simp only [toPyR] at e
    obtain ⟨a, vs, ev, t, q⟩ := h
    obtain ⟨ps, e1, e2⟩ := Option.map_eq_some_iff.mp e
    subst ev e2
    cases r
    exact reads_lst sm I t.1 fun us rv => DVs.reads sm I xs vs ps us q e1 rv
  | .dct ks xs, v, p, u, h, e, r => by
    simp only [DV] at h
    simp only [toPyR] at e
    obtain ⟨a, vs, ev, t, q⟩ := h
    obtain ⟨ps, e1, e2⟩ := Option.map_eq_some_iff.mp e
    subst ev e2
    cases r
    exact reads_dk (bs := []) I t.1 (t.2.2.trans q.length.symm) (t.2.2.trans (toPyRs_length e1).symm) fun us rv => DVs.reads sm I xs vs ps us q e1 rv
  | .fn a, v, p, u, h, e, r => by simp only [toPyR] at e; cases e
  | .ty n, v, p, u, h, e, r => by simp only [toPyR] at e; cases e
  | .scr xs, v, p, u, h, e, r => by simp only [toPyR] at e; cases e
  | .ins C ks xs, v, p, u, h, e, r => by simp only [toPyR] at e; cases e
  | .exh a d c fs xs, v, p, u, h, e, r => by simp only [toPyR] at e; cases e
  | .obj s xs, v, p, u, h, e, r => by simp only [toPyR] at e; cases e
  | .cl c, v, p, u, h, e, r => by simp only [toPyR] at e; cases e
  | .exv c fs xs, v, p, u, h, e, r => by simp only [toPyR] at e; cases e
theorem DVs.reads (sm : SysOk X.base) (I : Inv X pins σ H s) : ∀ (ds : List D) (vs : List V) (ps : List PyData) (us : List Value), DVs X.K H N ds vs → toPyRs ds = some ps → Vals vs us → ∃ as, ReadsAll s.heap us ps as ∧ sysModules ∉ as
  | [], vs, ps, us, h, e, r => by simp only [DVs] at h; simp only [toPyRs] at e; cases e; subst h; cases r; exact ⟨_, .nil, by simp⟩
  | d :: ds, vs, ps, us, h, e, r => by
    simp only [DVs] at h
    obtain ⟨v, w, ev, h1, h2⟩ := h
    subst ev
    simp only [toPyRs] at e
    cases e1 : toPyR d with
    | none => simp only [e1] at e; cases e
    | some p =>
      cases e2 : toPyRs ds with
      | none => simp only [e1, e2] at e; cases e
      | some ps' =>
        simp only [e1, e2] at e
        cases e
        cases r with
        | cons r1 r2 =>
          obtain ⟨as, q1, q2⟩ := DV.reads sm I d v p _ h1 e1 r1
          obtain ⟨bs, q3, q4⟩ := DVs.reads sm I ds w ps' _ h2 e2 r2
          exact ⟨_, .cons q1 q3, by rw [List.mem_append, not_or]; exact ⟨q2, q4⟩⟩
end
theorem RD.reads {d : D} {v : V} {p : PyData} {u : Value} (sm : SysOk X.base) (I : Inv X pins σ H s) (h : RD X.K H N d v) (e : toPyR d = some p) (r : RelV v u) : ∃ as, Reads s.heap u p as ∧ sysModules ∉ as := by
  cases d with
  | lst xs =>
    obtain ⟨a, vs, ev, t, q⟩ := h
    simp only [toPyR] at e
    obtain ⟨ps, e1, e2⟩ := Option.map_eq_some_iff.mp e
    subst ev e2
    cases r
    exact reads_lst sm I t fun us rv => DVs.reads sm I xs vs ps us q e1 rv
  | dct ks xs =>
    obtain ⟨a, vs, ev, t, q⟩ := h
    simp only [toPyR] at e
    obtain ⟨ps, e1, e2⟩ := Option.map_eq_some_iff.mp e
    subst ev e2
    cases r
    exact reads_dk (bs := []) I t.1 (t.2.trans q.length.symm) (t.2.trans (toPyRs_length e1).symm) fun us rv => DVs.reads sm I xs vs ps us q e1 rv
  | ins C ks xs => simp only [toPyR] at e; cases e
  | obj s xs => simp only [toPyR] at e; cases e
  | _ => exact DV.reads sm I _ _ _ _ h e r
end
def reprC (p : PyData) : Bool := PyData.showable p && decide (PyData.depth p ≤ 64) && szB (PyData.shown p).length
def opRepr (d : D) : Option P := match toPy d with
  | some p => if reprB p then some (.d (.str (PyData.shown p))) else none
  | none => match toPyR d with
    | some p => if reprC p then some (.d (.str (PyData.shown p))) else none
    | none => none
def rRepr (X : Cx) : List V → Hp → VK → Prop := fun xs H Q => ∃ x p, xs = [x] ∧ ((Dp X.K H x p ∧ reprB p = true) ∨ (∃ a N d, x = .ref a ∧ RD X.K H N d x ∧ toPyR d = some p ∧ reprC p = true)) ∧ Q (.str (PyData.shown p)) H
theorem call_reprD {X : Cx} (sm : SysOk X.base) (hg : X.A.guards = some []) (hu : X.A.units + 80 < cLine) : CallR X (.builtin "repr") (rRepr X) := by
  intro pins s σ H xs us Q I r h
  obtain ⟨x, p, rfl, hd, q⟩ := h
  obtain ⟨u, rfl, ru⟩ : ∃ u, us = [u] ∧ RelV x u := by
    cases r with
    | cons a t => cases t; exact ⟨_, rfl, a⟩
  rcases hd with ⟨hd, hb⟩ | ⟨a, N, d, rfl, hd, hp, hb⟩
  · unfold reprB at hb
    simp only [Bool.and_eq_true] at hb
    obtain ⟨⟨⟨b1, b2⟩, b3⟩, b4⟩ := hb
    have b2 : PyData.hasDict p = false := by simpa using b2
    have b3 := of_decide_eq_true b3
    have b4 := szB_ok b4
    obtain ⟨as, rd⟩ := Dp.reads I p x u hd ru
    cases hd with
    | non => cases ru; exact PySem.P.repr_of_none ⟨.str _, H, I.tok _, ⟨_, rfl⟩, q⟩
    | bl b => cases ru; exact PySem.P.repr_of_bool ⟨.str _, H, I.tok _, ⟨_, rfl⟩, q⟩
    | int i => obtain ⟨t, rfl⟩ := ru; exact PySem.P.repr_of_int (of_decide_eq_true b1) ⟨.str _, H, I.tok _, ⟨_, rfl⟩, q⟩
    | str z => obtain ⟨t, rfl⟩ := ru; exact PySem.P.repr_of_str ⟨.str _, H, I.tok _, ⟨_, rfl⟩, q⟩ b4
    | lst h1 h2 =>
      cases ru
      exact PySem.repr_of_reads' rd b1 (fun z => by rw [b2] at z; cases z) hg (by omega) (fun b o e => e) (fun h' u tk k => ⟨.str _, H, I.kept k, ⟨_, rfl⟩, q⟩) b4
    | tup h1 h2 =>
      cases ru
      exact PySem.repr_of_reads' rd b1 (fun z => by rw [b2] at z; cases z) hg (by omega) (fun b o e => e) (fun h' u tk k => ⟨.str _, H, I.kept k, ⟨_, rfl⟩, q⟩) b4
  · unfold reprC at hb
    simp only [Bool.and_eq_true] at hb
    obtain ⟨⟨b1, b3⟩, b4⟩ := hb
    have b3 := of_decide_eq_true b3
    have b4 := szB_ok b4
    obtain ⟨as, rd, ns⟩ := RD.reads sm I hd hp ru
    cases ru
    exact PySem.repr_of_reads' rd b1 (fun _ => ns) hg (by omega) (fun b o e => e) (fun h' u tk k => ⟨.str _, H, I.kept k, ⟨_, rfl⟩, q⟩) b4
/-- data that is no plain value stands at an address -/
theorem rd_ref {K : PySem.W.Frag} {H : Hp} {N : Addr → Prop} {d : D} {x : V} {p : PyData} (h : RD K H N d x) (e : toPy d = none) (e' : toPyR d = some p) : ∃ a, x = .ref a := by
  cases d with
  | non => simp [toPy] at e
  | bl b => simp [toPy] at e
  | int i => simp [toPy] at e
  | str z => simp [toPy] at e
  | tup xs => obtain ⟨a, vs, ev, _⟩ := rd_tup h; exact ⟨a, ev⟩
  | lst xs => obtain ⟨a, vs, ev, _⟩ := h; exact ⟨a, ev⟩
  | dct ks xs => obtain ⟨a, vs, ev, _⟩ := h; exact ⟨a, ev⟩
  | fn a => simp [toPyR] at e'
  | ty n => simp [toPyR] at e'
  | scr xs => simp [toPyR] at e'
  | ins C ks xs => simp [toPyR] at e'
  | exh a d c fs xs => simp [toPyR] at e'
  | obj s xs => simp [toPyR] at e'
  | cl c => simp [toPyR] at e'
  | exv c fs xs => simp [toPyR] at e'
theorem pc_repr {X : Cx} : PCall X.K (rRepr X) (one opRepr) := pc_one fun N H x d Q lv hx q => by
  unfold opRepr at q
  cases e : toPy d with
  | some p =>
    rw [e] at q
    dsimp only at q
    split at q
    · rename_i hb
      exact ⟨x, p, rfl, .inl ⟨hx.dp e, hb⟩, q _ _ .refl dv_str⟩
    · exact q.elim
  | none =>
    rw [e] at q
    dsimp only at q
    cases e' : toPyR d with
    | none => rw [e'] at q; exact q.elim
    | some p =>
      rw [e'] at q
      dsimp only at q
      split at q
      · rename_i hb
        obtain ⟨a, ev⟩ := rd_ref hx e e'
        exact ⟨x, p, rfl, .inr ⟨a, N, d, ev, hx, e', hb⟩, q _ _ .refl dv_str⟩
      · exact q.elim
/-! ### slices -/
def cutD {α : Type} (xs : List α) (lo hi : Option Int) : List α := (xs.drop (HT.sIx xs.length 0 lo)).take (HT.sIx xs.length xs.length hi - HT.sIx xs.length 0 lo)
def opSl (d : D) (lo hi : Option Int) : Option P := match d with
  | .lst xs => some (.l (cutD xs lo hi))
  | .tup xs => some (.d (.tup (cutD xs lo hi)))
  | .scr xs => some (.l (cutD xs lo hi))
  | .str z => if szB z.length then some (.d (.str (cutS z lo hi))) else none
  | _ => none
theorem cut_dv {K : PySem.W.Frag} {H : Hp} {N : Addr → Prop} {xs : List D} {vs : List V} (h : DVs K H N xs vs) (lo hi : Option Int) : DVs K H N (cutD xs lo hi) (cutV vs lo hi) := by
  unfold cutD cutV
  rw [h.length]
  exact DVs.take _ (DVs.drop _ h)
abbrev rSlAll (K : PySem.W.Frag) : V → Option Int → Option Int → Hp → VK → Prop := fun x lo hi H Q => rSlL K x lo hi H Q ∨ (rSlA K x lo hi H Q ∨ rSlS x lo hi H Q)
theorem cutD_all {α : Type} {xs : List α} {lo hi : Option Int} (h1 : HT.sIx xs.length 0 lo = 0) (h2 : HT.sIx xs.length xs.length hi = xs.length) : cutD xs lo hi = xs := by
  unfold cutD
  rw [h1, h2]
  simp
theorem ps_sl {K : PySem.W.Frag} {N : Addr → Prop} {H : Hp} {x : V} {d : D} {lo hi : Option Int} {Q : VK} (lv : ∀ a, N a → Lv H a) (hx : RD K H N d x) (q : PR K N H Q (opSl d lo hi)) : rSlAll K x lo hi H Q := by
  rcases d with _|k|i|i|xs|xs|_|_|xs <;> first | exact False.elim q | skip
  · simp only [opSl] at q
    split at q
    · rename_i hz
      exact .inr (.inr ⟨i, rd_str hx, szB_ok hz, q _ _ .refl dv_str⟩)
    · exact q.elim
  · obtain ⟨a, vs, e1, t, dv⟩ := rd_tup hx
    have q : ∀ v H', Gr H H' → DV K H' N (.tup (cutD xs lo hi)) v → Q v H' := q
    refine .inr (.inl ⟨a, vs, e1, t.sq, fun hw => ?_, fun _ p hp => q _ _ (.new hp) (dv_tupG (cut_dv dv lo hi) hp lv)⟩)
    rw [dv.length] at hw
    rw [cutD_all hw.1 hw.2] at q
    refine q _ _ .refl ?_
    simp only [DV]
    exact ⟨a, vs, rfl, t, dv⟩
  · obtain ⟨a, vs, e1, t, dv⟩ := rd_lst hx
    exact .inl ⟨a, vs, e1, SqL.of t, fun p hp => q p _ hp (cut_dv dv lo hi)⟩
  · obtain ⟨a, vs, e1, t, dv⟩ := rd_scr hx
    exact .inl ⟨a, vs, e1, t.sq, fun p hp => q p _ hp (cut_dv dv lo hi)⟩
/-- a slice's part -/
def asInt (f : M R) : M (Option Int) := mb f fun r => match r with
  | .imm (.int i) => mr (some i)
  | _ => fun _ => .bad
def xPart : Option (M R) → M (Option Int)
  | none => mr none
  | some f => asInt f
def tPD (K : PySem.W.Frag) (τ : Tb) (W : WX) : Option (M R) → TO
  | none => tNoPart
  | some f => tPart (tD K τ W f)
def xSl (f : M R) (lo hi : Option (M R)) : M R := mb f fun r => mb (xPart lo) fun l => mb (xPart hi) fun u => fun ρ => match rdI r ρ with
  | some d => mP (opSl d l u) ρ
  | none => .bad
section
variable {X : Cx} {e a b c : Expr} {f g h : M R} {W : WX} {pos : Pos}
theorem mb_assoc {α β γ : Type} {f : M α} {k : α → M β} {l : β → M γ} : mb (mb f k) l = mb f fun a => mb (k a) l := by
  funext ρ
  unfold mb
  cases f ρ <;> rfl
theorem d_pn : PO X none (tPD X.K τ W none) := po_none
theorem d_ps (h : PE X e (tD X.K τ W f)) : PO X (some e) (tPD X.K τ W (some f)) := po_some h
theorem part_w {K : PySem.W.Frag} {Φ : Addr → Prop} {σ : L2.St} {ρ : Env'} {H : Hp} {Q : VK} {Q1 : Option Int → Hp → Prop} {fo : Option (M R)} {k : Option Int → M R} (sr : SR K τ H Φ σ ρ) (hg : GoodE K τ W Φ σ ρ H Q (mb (xPart fo) k ρ))
    (c : ∀ l ρ1 H1, ES σ ρ H ρ1 H1 → SR K τ H1 Φ σ ρ1 → GoodE K τ W Φ σ ρ1 H1 Q (k l ρ1) → Q1 l H1) : tPD K τ W fo σ H Q1 := by
  cases fo with
  | none => exact c none ρ H ES.refl sr hg
  | some f =>
    refine ⟨Φ, ρ, sr, ?_⟩
    have hg : GoodE K τ W Φ σ ρ H Q (mb (mb f fun r => match r with
      | .imm (.int i) => mr (some i)
      | _ => fun _ => .bad) k ρ) := hg
    rw [mb_assoc] at hg
    refine ee hg fun r ρ1 v H1 s1 sr1 rv hk => ?_
    cases r with
    | slot i => exact hk.elim
    | new o => exact hk.elim
    | imm d =>
      cases d with
      | int i =>
        have rv : DV K H1 (Nn Φ σ ρ1) (.int i) v := rv
        simp only [DV] at rv
        exact ⟨i, rv, c _ ρ1 H1 s1 sr1 hk⟩
      | _ => exact hk.elim
theorem d_sl {lo hi : Option Expr} {fl fh : Option (M R)} {p2 : Pos} (ha : PE X e (tD X.K τ W f)) (hl : PO X lo (tPD X.K τ W fl)) (hh : PO X hi (tPD X.K τ W fh)) : PE X (.Subscript e (.Slice lo hi none p2) pos) (tD X.K τ W (xSl f fl fh)) :=
  PE.weak (pe_slice (SlR.or sl_list (SlR.or sl_tupA sl_str)) ha hl hh) fun σ H Q q => by
    obtain ⟨Φ, ρ, sr, q⟩ := q
    refine ⟨Φ, ρ, sr, ee q fun r ρ1 x H1 s1 sr1 ra ha => part_w sr1 ha fun l ρ2 H2 s2 sr2 hb => part_w sr2 hb fun u ρ3 H3 s3 sr3 hc => ?_⟩
    cases e1 : rdI r ρ3 with
    | none => simp only [e1] at hc; exact hc.elim
    | some d =>
      simp only [e1] at hc
      exact ps_sl (fun a z => sr3.nnLv z) (((ra.step s2).step s3).rd sr3 e1) (PR.of sr3 hc)
/-! ### the rules -/
variable {ga : M (List R)} {es : List Expr} {p : Pos}
theorem b_len (hg : Gl X "len") (hm : X.mg "len" = none) (ha : PA X (e :: es) (tA X.K τ W ga)) (he : starEach (e :: es) X.env = (false, eval e X.env) :: starEach es X.env := by rfl) (hpl : (backTo pos (starEach es X.env)).any (·.1) = false := by rfl) :
    PE X (.Call (.Name "len" p) (e :: es) [] pos) (tD X.K τ W (xCall (one opLen) ga)) := d_call pc_len (pe_callB call_len hg hm (by decide +kernel) ha (by decide) (by decide) he hpl)
theorem b_abs (hg : Gl X "abs") (hm : X.mg "abs" = none) (ha : PA X (e :: es) (tA X.K τ W ga)) (he : starEach (e :: es) X.env = (false, eval e X.env) :: starEach es X.env := by rfl) (hpl : (backTo pos (starEach es X.env)).any (·.1) = false := by rfl) :
    PE X (.Call (.Name "abs" p) (e :: es) [] pos) (tD X.K τ W (xCall (one opAbs) ga)) := d_call pc_abs (pe_callB call_abs hg hm (by decide +kernel) ha (by decide) (by decide) he hpl)
theorem b_min (hc : X.calm = true) (hg : Gl X "min") (hm : X.mg "min" = none) (ha : PA X (e :: es) (tA X.K τ W ga)) (he : starEach (e :: es) X.env = (false, eval e X.env) :: starEach es X.env := by rfl) (hpl : (backTo pos (starEach es X.env)).any (·.1) = false := by rfl) :
    PE X (.Call (.Name "min" p) (e :: es) [] pos) (tD X.K τ W (xCall (two opMin) ga)) := d_call pc_min (pe_callB (call_min2 hc) hg hm (by decide +kernel) ha (by decide) (by decide) he hpl)
theorem b_max (hc : X.calm = true) (hg : Gl X "max") (hm : X.mg "max" = none) (ha : PA X (e :: es) (tA X.K τ W ga)) (he : starEach (e :: es) X.env = (false, eval e X.env) :: starEach es X.env := by rfl) (hpl : (backTo pos (starEach es X.env)).any (·.1) = false := by rfl) :
    PE X (.Call (.Name "max" p) (e :: es) [] pos) (tD X.K τ W (xCall (two opMax) ga)) := d_call pc_max (pe_callB (call_max2 hc) hg hm (by decide +kernel) ha (by decide) (by decide) he hpl)
theorem b_sum (hc : X.calm = true) (hg : Gl X "sum") (hm : X.mg "sum" = none) (ha : PA X (e :: es) (tA X.K τ W ga)) (he : starEach (e :: es) X.env = (false, eval e X.env) :: starEach es X.env := by rfl) (hpl : (backTo pos (starEach es X.env)).any (·.1) = false := by rfl) :
    PE X (.Call (.Name "sum" p) (e :: es) [] pos) (tD X.K τ W (xCall (one opSum) ga)) := d_call pc_sum (pe_callB (cr_sum hc) hg hm (by decide +kernel) ha (by decide) (by decide) he hpl)
theorem b_all (hc : X.calm = true) (hg : Gl X "all") (hm : X.mg "all" = none) (ha : PA X (e :: es) (tA X.K τ W ga)) (he : starEach (e :: es) X.env = (false, eval e X.env) :: starEach es X.env := by rfl) (hpl : (backTo pos (starEach es X.env)).any (·.1) = false := by rfl) :
    PE X (.Call (.Name "all" p) (e :: es) [] pos) (tD X.K τ W (xCall (one opAll) ga)) := d_call pc_all (pe_callB (cr_all hc) hg hm (by decide +kernel) ha (by decide) (by decide) he hpl)
theorem b_any (hc : X.calm = true) (hg : Gl X "any") (hm : X.mg "any" = none) (ha : PA X (e :: es) (tA X.K τ W ga)) (he : starEach (e :: es) X.env = (false, eval e X.env) :: starEach es X.env := by rfl) (hpl : (backTo pos (starEach es X.env)).any (·.1) = false := by rfl) :
    PE X (.Call (.Name "any" p) (e :: es) [] pos) (tD X.K τ W (xCall (one opAny) ga)) := d_call pc_any (pe_callB (cr_any hc) hg hm (by decide +kernel) ha (by decide) (by decide) he hpl)
theorem b_isi (hg : Gl X "isinstance") (hm : X.mg "isinstance" = none) (ha : PA X (e :: es) (tA X.K τ W ga)) (he : starEach (e :: es) X.env = (false, eval e X.env) :: starEach es X.env := by rfl) (hpl : (backTo pos (starEach es X.env)).any (·.1) = false := by rfl) :
    PE X (.Call (.Name "isinstance" p) (e :: es) [] pos) (tD X.K τ W (xCall (two opIsi) ga)) := d_call pc_isi (pe_callB call_isi hg hm (by decide +kernel) ha (by decide) (by decide) he hpl)
theorem b_repr (sm : SysOk X.base) (h1 : X.A.guards = some []) (h2 : X.A.units + 80 < cLine) (hg : Gl X "repr") (hm : X.mg "repr" = none) (ha : PA X (e :: es) (tA X.K τ W ga)) (he : starEach (e :: es) X.env = (false, eval e X.env) :: starEach es X.env := by rfl) (hpl : (backTo pos (starEach es X.env)).any (·.1) = false := by rfl) :
    PE X (.Call (.Name "repr" p) (e :: es) [] pos) (tD X.K τ W (xCall (one opRepr) ga)) := d_call pc_repr (pe_callB (call_reprD sm h1 h2) hg hm (by decide +kernel) ha (by decide) (by decide) he hpl)
theorem b_int (hg : Gl X "int") (hm : X.mg "int" = none) (ha : PA X (e :: es) (tA X.K τ W ga)) (he : starEach (e :: es) X.env = (false, eval e X.env) :: starEach es X.env := by rfl) (hpl : (backTo pos (starEach es X.env)).any (·.1) = false := by rfl) :
    PE X (.Call (.Name "int" p) (e :: es) [] pos) (tD X.K τ W (xCall (one opInt) ga)) := d_call pc_int (pe_callTy call_int1 hg hm (by decide +kernel) ha (by decide) (by decide) he hpl)
theorem b_tuple (hg : Gl X "tuple") (hm : X.mg "tuple" = none) (ha : PA X (e :: es) (tA X.K τ W ga)) (he : starEach (e :: es) X.env = (false, eval e X.env) :: starEach es X.env := by rfl) (hpl : (backTo pos (starEach es X.env)).any (·.1) = false := by rfl) :
    PE X (.Call (.Name "tuple" p) (e :: es) [] pos) (tD X.K τ W (xCall (one opTuple) ga)) := d_call pc_tuple (pe_callTy call_tuple_of hg hm (by decide +kernel) ha (by decide) (by decide) he hpl)
theorem b_list (hg : Gl X "list") (hm : X.mg "list" = none) (ha : PA X (e :: es) (tA X.K τ W ga)) (he : starEach (e :: es) X.env = (false, eval e X.env) :: starEach es X.env := by rfl) (hpl : (backTo pos (starEach es X.env)).any (·.1) = false := by rfl) :
    PE X (.Call (.Name "list" p) (e :: es) [] pos) (tD X.K τ W (xCall (one opList) ga)) := d_call pc_list (pe_callTy call_list_of hg hm (by decide +kernel) ha (by decide) (by decide) he hpl)
end
end DL

/-! ## DL6 -/
set_option Elab.async false
set_option linter.all false
set_option maxRecDepth 100000
set_option maxHeartbeats 4000000
/-! DL6: statements on cells. -/
namespace DL
open PySem L2
inductive SO where
  | next (ρ : Env') | ret (r : R) (ρ : Env') | brk (ρ : Env') | cnt (ρ : Env') | er (x : Ex) (ρ : Env') | bad
abbrev MS := Env' → SO
def GoodS (K : PySem.W.Frag) (τ : Tb) (W : WX) (io : List Nat) (Φ : Addr → Prop) (σ : L2.St) (ρ : Env') (H : Hp) (D : Ends) : SO → Prop
  | .next ρ' => ∀ σ' H', Stp io σ ρ H σ' ρ' H' → SR K τ H' Φ σ' ρ' → D.nx σ' H'
  | .brk ρ' => ∀ σ' H', Stp io σ ρ H σ' ρ' H' → SR K τ H' Φ σ' ρ' → D.bk σ' H'
  | .cnt ρ' => ∀ σ' H', Stp io σ ρ H σ' ρ' H' → SR K τ H' Φ σ' ρ' → D.ct σ' H'
  | .ret r ρ' => ∀ v σ' H', Stp io σ ρ H σ' ρ' H' → SR K τ H' Φ σ' ρ' → RVp K τ H H' Φ σ' ρ' r v → D.rt v H'
  | .er x ρ' => ∀ cls dd σ' H', Stp io σ ρ H σ' ρ' H' → SR K τ H' Φ σ' ρ' → XV K H' (Nn Φ σ' ρ') x cls dd → W cls dd σ' H'
  | .bad => False
def tS (K : PySem.W.Frag) (τ : Tb) (W : WX) (io : List Nat) (s : MS) : TS := fun D σ H => ∃ Φ ρ, SR K τ H Φ σ ρ ∧ GoodS K τ W io Φ σ ρ H D (s ρ)
section
variable {K : PySem.W.Frag} {H H' H0 H1 H2 : Hp} {Φ : Addr → Prop} {σ σ1 : L2.St} {ρ ρ' ρ1 ρ2 : Env'} {W : WX} {io : List Nat} {D1 D2 : Ends}
theorem Stp.free (a : Stp io σ ρ H σ1 ρ1 H1) {x : Addr} (h : H1 x = none) : H x = none := by
  cases e : H x with
  | none => rfl
  | some o => exact absurd h (a.trk x (by rw [e]; intro z; cases z))
theorem GoodS.shift {o : SO} (h : GoodS K τ W io Φ σ ρ H D1 o) (s : Stp io σ ρ H σ1 ρ1 H1) : GoodS K τ W io Φ σ1 ρ1 H1 D1 o := by
  cases o with
  | next ρ' => exact fun σ' H' s' sr => h σ' H' (s.trans s') sr
  | brk ρ' => exact fun σ' H' s' sr => h σ' H' (s.trans s') sr
  | cnt ρ' => exact fun σ' H' s' sr => h σ' H' (s.trans s') sr
  | ret r ρ' => exact fun v σ' H' s' sr rv => h v σ' H' (s.trans s') sr (rv.back fun x e => s.free e)
  | er x ρ' => exact fun c d σ' H' s' sr xv => h c d σ' H' (s.trans s') sr xv
  | bad => exact h
/-- the ends that are wanted may be exchanged -/
theorem GoodS.imp {o : SO} (h : GoodS K τ W io Φ σ ρ H D1 o) (n : ∀ σ H, D1.nx σ H → D2.nx σ H) (r : ∀ v H, D1.rt v H → D2.rt v H) (b : ∀ σ H, D1.bk σ H → D2.bk σ H) (c : ∀ σ H, D1.ct σ H → D2.ct σ H) : GoodS K τ W io Φ σ ρ H D2 o := by
  cases o with
  | next ρ' => exact fun σ' H' s' sr => n _ _ (h σ' H' s' sr)
  | brk ρ' => exact fun σ' H' s' sr => b _ _ (h σ' H' s' sr)
  | cnt ρ' => exact fun σ' H' s' sr => c _ _ (h σ' H' s' sr)
  | ret r' ρ' => exact fun v σ' H' s' sr rv => r _ _ (h v σ' H' s' sr rv)
  | er x ρ' => exact h
  | bad => exact h
/-- a statement begins with an expression -/
def sb {α : Type} (f : M α) (k : α → MS) : MS := fun ρ => match f ρ with
  | .ok a ρ' => k a ρ'
  | .er x ρ' => .er x ρ'
  | .bad => .bad
theorem es {f : M R} {k : R → MS} {Q1 : VK} (h : GoodS K τ W io Φ σ ρ H D1 (sb f k ρ))
    (c : ∀ r ρ1 v H1, ES σ ρ H ρ1 H1 → SR K τ H1 Φ σ ρ1 → RVp K τ H H1 Φ σ ρ1 r v → GoodS K τ W io Φ σ ρ H D1 (k r ρ1) → Q1 v H1) : GoodE K τ W Φ σ ρ H Q1 (f ρ) := by
  unfold sb at h
  cases e : f ρ with
  | ok r ρ1 => rw [e] at h; exact fun v H1 s sr rv => c r ρ1 v H1 s sr rv h
  | er x ρ1 => rw [e] at h; exact fun c d H' s sr xv => h c d σ H' s.stp sr xv
  | bad => rw [e] at h; exact h
theorem ts {f : M Bool} {k : Bool → MS} {Q1 : Bool → Hp → Prop} (h : GoodS K τ W io Φ σ ρ H D1 (sb f k ρ))
    (c : ∀ r ρ1 H1, ES σ ρ H ρ1 H1 → SR K τ H1 Φ σ ρ1 → GoodS K τ W io Φ σ ρ1 H1 D1 (k r ρ1) → Q1 r H1) : GoodT K τ W Φ σ ρ H Q1 (f ρ) := by
  unfold sb at h
  cases e : f ρ with
  | ok r ρ1 => rw [e] at h; exact fun H1 s sr => c r ρ1 H1 s sr (h.shift s.stp)
  | er x ρ1 => rw [e] at h; exact fun c d H' s sr xv => h c d σ H' s.stp sr xv
  | bad => rw [e] at h; exact h
def sNil : MS := fun ρ => .next ρ
def sSeq (s t : MS) : MS := fun ρ => match s ρ with
  | .next ρ' => t ρ'
  | o => o
def sIf (c : M Bool) (s t : MS) : MS := sb c fun k => if k then s else t
def sExpr (f : M R) : MS := sb f fun _ => sNil
/-- what is handed back: a slot's object is given up -/
def sRet (f : M R) : MS := sb f fun r => match r with
  | .slot i => fun ρ => match toI (.slot i) ρ with
    | .ok d ρ' => .ret (.imm d) ρ'
    | _ => .bad
  | r => fun ρ => .ret r ρ
def sRetN : MS := fun ρ => .ret (.imm .non) ρ
/-- name = data -/
def sSet (i : Nat) (f : M R) : MS := sb f fun r => fun ρ => match toI r ρ with
  | .ok d ρ' => .next (ρ'.set i (some (.imm d)))
  | _ => .bad
/-- name = an object just made, owned from here on -/
def sOwn (i : Nat) (f : M R) : MS := sb f fun r => fun ρ => match r with
  | .new o => .next (ρ.set i (some (.own o)))
  | _ => .bad
theorem get_set {i j : Nat} {c c' : Cell} (h : (ρ.set i (some c))[j]? = some (some c')) : (i = j ∧ i < ρ.length ∧ c' = c) ∨ (i ≠ j ∧ ρ[j]? = some (some c')) := by
  by_cases e : i = j
  · subst e
    by_cases hl : i < ρ.length
    · rw [List.getElem?_set_self hl] at h
      cases h
      exact .inl ⟨rfl, hl, rfl⟩
    · rw [List.getElem?_eq_none (by simpa using hl)] at h; cases h
  · rw [List.getElem?_set_ne e] at h
    exact .inr ⟨e, h⟩
/-- a slot takes a datum -/
theorem put_imm {i : Nat} {d : D} {v : V} (hi : i ∉ io) (s : SR K τ H Φ σ ρ) (dv : DV K H (Nn Φ σ ρ) d v) :
    Stp io σ ρ H (σ.set i (some v)) (ρ.set i (some (.imm d))) H ∧ SR K τ H Φ (σ.set i (some v)) (ρ.set i (some (.imm d))) := by
  have own : ∀ a, Own (σ.set i (some v)) (ρ.set i (some (.imm d))) a → Own σ ρ a := fun a ⟨j, o, e1, e2⟩ => by
    rcases get_set e1 with ⟨_, _, z⟩ | ⟨ne, z⟩
    · cases z
    · rw [List.getElem?_set_ne ne] at e2
      exact ⟨j, o, z, e2⟩
  have st : Stp io σ ρ H (σ.set i (some v)) (ρ.set i (some (.imm d))) H := ⟨fun _ _ e _ _ => e, fun _ h => h, fun a h => .inl (own a h), fun j hj => List.getElem?_set_ne fun z => hi (by rw [z]; exact hj)⟩
  refine ⟨st, by rw [List.length_set, List.length_set]; exact s.len, fun j c e => ?_, fun j k o u a e1 e2 e3 e4 => ?_, s.lv, s.tab⟩
  · rcases get_set e with ⟨z, hl, e'⟩ | ⟨ne, e⟩
    · subst z
      subst e'
      exact ⟨v, List.getElem?_set_self (by rw [← s.len]; exact hl), st.dv dv⟩
    · obtain ⟨w, e1, q⟩ := s.cell j c e
      refine ⟨w, by rw [List.getElem?_set_ne ne]; exact e1, ?_⟩
      cases c with
      | imm d' => exact st.dv q
      | own o =>
        obtain ⟨a, ev, n, q⟩ := q
        exact ⟨a, ev, n, q.less fun x z => z.imp id (own x)⟩
      | bor o =>
        obtain ⟨a, ev, n, q⟩ := q
        exact ⟨a, ev, n, q.less fun x z => z.imp id (own x)⟩
  · rcases get_set e1 with ⟨_, _, z⟩ | ⟨n1, z1⟩
    · cases z
    · rcases get_set e2 with ⟨_, _, z⟩ | ⟨n2, z2⟩
      · cases z
      · rw [List.getElem?_set_ne n1] at e3
        rw [List.getElem?_set_ne n2] at e4
        exact s.inj j k o u a z1 z2 e3 e4
/-- a slot takes an object -/
theorem put_own {i : Nat} {o : O} {v : V} (hi : i ∉ io) (s : SR K τ H1 Φ σ ρ) (rv : RVp K τ H H1 Φ σ ρ (.new o) v) (z0 : ES σ ρ1 H ρ H1) :
    Stp io σ ρ1 H (σ.set i (some v)) (ρ.set i (some (.own o))) H1 ∧ SR K τ H1 Φ (σ.set i (some v)) (ρ.set i (some (.own o))) := by
  obtain ⟨a, ev, fr, na, sx, ov⟩ := rv
  subst ev
  have own : ∀ x, Own (σ.set i (some (.ref a))) (ρ.set i (some (.own o))) x → Own σ ρ x ∨ x = a := fun x ⟨j, u, e1, e2⟩ => by
    rcases get_set e1 with ⟨z, hl, _⟩ | ⟨ne, z⟩
    · subst z
      rw [List.getElem?_set_self (by rw [← s.len]; exact hl)] at e2
      cases e2
      exact .inr rfl
    · rw [List.getElem?_set_ne ne] at e2
      exact .inl ⟨j, u, z, e2⟩
  have up : ∀ x, Nn Φ (σ.set i (some (.ref a))) (ρ.set i (some (.own o))) x → Nn (fun x => Φ x ∨ x = a) σ ρ x := fun x z => by
    rcases z with z | z
    · exact .inl (.inl z)
    · rcases own x z with y | y
      · exact .inr y
      · exact .inl (.inr y)
  have up2 : ∀ x, Nn Φ (σ.set i (some (.ref a))) (ρ.set i (some (.own o))) x → Nn Φ σ ρ x ∨ x = a := fun x z => by
    rcases up x z with (z | z) | z
    · exact .inl (.inl z)
    · exact .inr z
    · exact .inl (.inr z)
  refine ⟨⟨z0.keep, z0.trk, fun x h => ?_, fun j hj => List.getElem?_set_ne fun z => hi (by rw [z]; exact hj)⟩, by rw [List.length_set, List.length_set]; exact s.len, fun j c e => ?_, fun j k u w b e1 e2 e3 e4 => ?_, s.lv, s.tab⟩
  · rcases own x h with y | y
    · exact .inl (z0.own x y)
    · exact .inr (by rw [y]; exact fr)
  · rcases get_set e with ⟨z, hl, e'⟩ | ⟨ne, e⟩
    · subst z
      subst e'
      exact ⟨.ref a, List.getElem?_set_self (by rw [← s.len]; exact hl), a, rfl, fun z => na (.inl z), ov.less up2⟩
    · obtain ⟨w, e1, q⟩ := sx.cell j c e
      refine ⟨w, by rw [List.getElem?_set_ne ne]; exact e1, ?_⟩
      cases c with
      | imm d' => exact DV.keep (fun b o e _ _ => e) (fun x z => .inl (up x z)) d' w q
      | own u =>
        obtain ⟨b, ev, n, q⟩ := q
        exact ⟨b, ev, fun z => n (.inl z), q.less up⟩
      | bor u =>
        obtain ⟨w', e1', b, ev, n, q'⟩ := s.cell j (.bor u) e
        rw [e1] at e1'
        cases e1'
        obtain ⟨b', ev', n', q⟩ := q
        rw [ev] at ev'
        cases ev'
        exact ⟨b, ev, n, q.less up⟩
  · have hit : ∀ {j k : Nat} {u : O}, i = j → i ≠ k → ρ[k]? = some (some (.own u)) → σ[k]? = some (some (V.ref b)) → (σ.set i (some (.ref a)))[j]? = some (some (V.ref b)) → i < ρ.length → False := fun {j k u} ej nk ek es e3 hl => by
      subst ej
      rw [List.getElem?_set_self (by rw [← s.len]; exact hl)] at e3
      cases e3
      exact na (.inr ⟨k, u, ek, es⟩)
    rcases get_set e1 with ⟨z1, l1, _⟩ | ⟨n1, z1⟩
    · rcases get_set e2 with ⟨z2, _, _⟩ | ⟨n2, z2⟩
      · rw [← z1, ← z2]
      · exact (hit z1 n2 z2 (by rw [List.getElem?_set_ne n2] at e4; exact e4) e3 l1).elim
    · rcases get_set e2 with ⟨z2, l2, _⟩ | ⟨n2, z2⟩
      · exact (hit z2 n1 z1 (by rw [List.getElem?_set_ne n1] at e3; exact e3) e4 l2).elim
      · rw [List.getElem?_set_ne n1] at e3
        rw [List.getElem?_set_ne n2] at e4
        exact s.inj j k u w b z1 z2 e3 e4
end
section
variable {X : Cx} {st : Stmt} {rest sa sb' : List Stmt} {e c : Expr} {W : WX} {io : List Nat} {s t : MS} {f : M R} {fc : M Bool} {pos : Pos}
theorem s_nil : PSs X [] (tS X.K τ W io sNil) := PSs.weak pss_nil fun D σ H ⟨Φ, ρ, sr, h⟩ => h σ H Stp.refl sr
theorem s_pass : PS X (.Pass pos) (tS X.K τ W io sNil) := PS.weak ps_pass fun D σ H ⟨Φ, ρ, sr, h⟩ => h σ H Stp.refl sr
theorem s_one (h : PS X st (tS X.K τ W io s)) : PSs X [st] (tS X.K τ W io s) := pss_one h
theorem s_cons (h1 : PS X st (tS X.K τ W io s)) (h2 : PSs X rest (tS X.K τ W io t)) : PSs X (st :: rest) (tS X.K τ W io (sSeq s t)) := PSs.weak (pss_cons h1 h2) fun D σ H ⟨Φ, ρ, sr, h⟩ => by
  refine ⟨Φ, ρ, sr, ?_⟩
  unfold sSeq at h
  cases e : s ρ with
  | next ρ1 => rw [e] at h; exact fun σ1 H1 s1 sr1 => ⟨Φ, ρ1, sr1, GoodS.shift h s1⟩
  | ret r ρ1 => rw [e] at h; exact h
  | brk ρ1 => rw [e] at h; exact h
  | cnt ρ1 => rw [e] at h; exact h
  | er x ρ1 => rw [e] at h; exact h
  | bad => rw [e] at h; exact h
theorem s_expr (he : PE X e (tD X.K τ W f)) (hs : swapsWith e none pos.line X.env = pure false := by rfl) : PS X (.Expr e pos) (tS X.K τ W io (sExpr f)) := PS.weak (ps_expr he hs) fun D σ H ⟨Φ, ρ, sr, h⟩ =>
  ⟨Φ, ρ, sr, es h fun r ρ1 v H1 s1 sr1 rv hk => hk σ H1 s1.stp sr1⟩
theorem s_ret (he : PE X e (tD X.K τ W f)) : PS X (.Return (some e) pos) (tS X.K τ W io (sRet f)) := PS.weak (ps_ret he) fun D σ H ⟨Φ, ρ, sr, h⟩ => by
  refine ⟨Φ, ρ, sr, es h fun r ρ1 v H1 s1 sr1 rv hk => ?_⟩
  cases r with
  | imm d => exact hk v σ H1 s1.stp sr1 rv
  | new o => exact hk v σ H1 s1.stp sr1 rv
  | slot i =>
    dsimp only at hk
    cases e : toI (.slot i) ρ1 with
    | er x ρ2 => rw [e] at hk; exact hk.elim
    | bad => rw [e] at hk; exact hk.elim
    | ok d ρ2 =>
      rw [e] at hk
      obtain ⟨s2, sr2, dv⟩ := toI_ok rv.w sr1 e
      exact hk v σ H1 (s1.trans s2).stp sr2 dv
theorem s_retN : PS X (.Return none pos) (tS X.K τ W io sRetN) := PS.weak ps_retN fun D σ H ⟨Φ, ρ, sr, h⟩ => h .non σ H Stp.refl sr (by show DV _ _ _ _ _; simp only [DV])
theorem s_if (hc : PT X c (tT X.K τ W fc)) (ha : PSs X sa (tS X.K τ W io s)) (hb : PSs X sb' (tS X.K τ W io t)) : PS X (.If c sa sb' pos) (tS X.K τ W io (sIf fc s t)) := PS.weak (ps_if hc ha hb) fun D σ H ⟨Φ, ρ, sr, h⟩ =>
  ⟨Φ, ρ, sr, ts h fun k ρ1 H1 s1 sr1 hk => by
    cases k with
    | true => exact (if_pos rfl).mpr ⟨Φ, ρ1, sr1, hk⟩
    | false => exact (if_neg Bool.false_ne_true).mpr ⟨Φ, ρ1, sr1, hk⟩⟩
/-- the assignment's reading, from its value's -/
theorem set_w {i : Nat} (hi : i ∉ io) {D : Ends} {σ : L2.St} {H : Hp} (q : tS X.K τ W io (sSet i f) D σ H) : tAsg (tD X.K τ W f) (gName i) D σ H := by
  obtain ⟨Φ, ρ, sr, h⟩ := q
  refine ⟨Φ, ρ, sr, es h fun r ρ1 v H1 s1 sr1 rv hk => ?_⟩
  cases e : toI r ρ1 with
  | er x ρ2 => rw [e] at hk; exact hk.elim
  | bad => rw [e] at hk; exact hk.elim
  | ok d ρ2 =>
    rw [e] at hk
    obtain ⟨s2, sr2, dv⟩ := toI_ok rv.w sr1 e
    obtain ⟨s3, sr3⟩ := put_imm hi sr2 dv
    exact hk _ H1 ((s1.trans s2).stp.trans s3) sr3
theorem own_w {i : Nat} (hi : i ∉ io) {D : Ends} {σ : L2.St} {H : Hp} (q : tS X.K τ W io (sOwn i f) D σ H) : tAsg (tD X.K τ W f) (gName i) D σ H := by
  obtain ⟨Φ, ρ, sr, h⟩ := q
  refine ⟨Φ, ρ, sr, es h fun r ρ1 v H1 s1 sr1 rv hk => ?_⟩
  cases r with
  | imm d => exact hk.elim
  | slot j => exact hk.elim
  | new o =>
    obtain ⟨s3, sr3⟩ := put_own hi sr1 rv s1
    exact hk _ H1 s3 sr3
theorem s_set (i : Nat) {x : Str} {pos' : Pos} (hi : i ∉ io) (hN : X.N.Nodup) (hx : X.N[i]? = some x) (hl : Loc X.env.scope x) (he : PE X e (tD X.K τ W f)) (hs : swapsWith e (some (.Name x pos')) pos.line X.env = pure false := by rfl)
    (hf : X.fn x = true ∨ X.env.scope.names.lookup x = some .local := by first | exact .inl rfl | exact .inr rfl | assumption) : PS X (.Assign [.Name x pos'] e pos) (tS X.K τ W io (sSet i f)) :=
  PS.weak (ps_set hN hx hl he hs hf) fun D σ H q => set_w hi q
theorem s_own (i : Nat) {x : Str} {pos' : Pos} (hi : i ∉ io) (hN : X.N.Nodup) (hx : X.N[i]? = some x) (hl : Loc X.env.scope x) (he : PE X e (tD X.K τ W f)) (hs : swapsWith e (some (.Name x pos')) pos.line X.env = pure false := by rfl)
    (hf : X.fn x = true ∨ X.env.scope.names.lookup x = some .local := by first | exact .inl rfl | exact .inr rfl | assumption) : PS X (.Assign [.Name x pos'] e pos) (tS X.K τ W io (sOwn i f)) :=
  PS.weak (ps_set hN hx hl he hs hf) fun D σ H q => own_w hi q
end
end DL

/-! ## DZ -/
set_option Elab.async false
set_option linter.all false
set_option maxRecDepth 100000
set_option maxHeartbeats 4000000
/-! DZ: zip and enumerate of lists and tuples in any mix, as what a loop walks. -/
namespace DL
open PySem L2
/-- at a: a list (false), a tuple (true) -/
def SqA (K : PySem.W.Frag) (H : Hp) : Bool → Addr → List V → Prop
  | true, a, xs => SqT K H a xs
  | false, a, xs => SqL K H a xs
def ItAt (h : Heap) (it a : Addr) (i : Nat) : Bool → Prop
  | true => h.IsTupleIter it a i
  | false => h.IsListIter it a i
def SeqIn (h : Heap) (a : Addr) (its : Array Value) : Bool → Prop
  | true => h.IsTuple a its
  | false => h.IsList a its
def itObj (a : Addr) : Bool → Obj
  | true => { cls := .type "tuple_iterator", data := .fields #[.ref a, .int 0 0] }
  | false => { cls := .type "list_iterator", data := .fields #[.ref a, .int 0 0] }
theorem draws_of {prog : Program} {w : World} {A : Around} (hh : A.handled = none) (it a : Addr) (ne : a ≠ it) (its : Array Value) : ∀ t, Draws prog w A it [it, a] its.size (fun i v => its[i]? = some v) (fun i h => ItAt h it a i t ∧ SeqIn h a its t)
  | true => Draws.tuple hh it a ne its
  | false => Draws.list hh it a ne its
theorem begins_of (a : Addr) (its : Array Value) : ∀ t, Begins (.ref a) (itObj a t) (fun h => SeqIn h a its t)
  | true => begins_tuple a its
  | false => begins_list a its
theorem itObj_at {h : Heap} {it a : Addr} : ∀ {t : Bool}, h.get? it = some (itObj a t) → ItAt h it a 0 t
  | true, e => ⟨_, e, rfl, rfl⟩
  | false, e => ⟨_, e, rfl, rfl⟩
theorem itAt_obj {h : Heap} {it a : Addr} {i : Nat} : ∀ {t : Bool}, ItAt h it a i t → ∃ o, h.get? it = some o ∧ ∀ v, o.data ≠ .cell v
  | true, ⟨o, e, _, d⟩ => ⟨o, e, fun v q => by rw [d] at q; cases q⟩
  | false, ⟨o, e, _, d⟩ => ⟨o, e, fun v q => by rw [d] at q; cases q⟩
theorem itAt_keep {h h' : Heap} {it a : Addr} {i : Nat} : ∀ {t : Bool}, ItAt h it a i t → (∀ o, h.get? it = some o → h'.get? it = some o) → ItAt h' it a i t
  | true, st, k => Heap.IsTupleIter.at st k
  | false, st, k => Heap.IsListIter.at st k
theorem seq_of {X : Cx} {pins : List (Addr × Obj)} {σ : L2.St} {H : Hp} {s : Shared} (I : Inv X pins σ H s) {a : Addr} {xs : List V} : ∀ {t : Bool}, SqA X.K H t a xs → ∃ its, Vals xs its ∧ SeqIn s.heap a its.toArray t
  | true, q => let ⟨its, r, p, _⟩ := I.tuple q; ⟨its, r, p⟩
  | false, q => let ⟨its, r, p, _⟩ := I.list q; ⟨its, r, p.isList⟩
theorem seqIn_lt {h : Heap} {a : Addr} {its : Array Value} : ∀ {t : Bool}, SeqIn h a its t → a < h.objs.size
  | true, ⟨_, e, _⟩ => Heap.lt_size e
  | false, ⟨_, e, _⟩ => Heap.lt_size e
theorem ne_it {h : Heap} {a it : Addr} {its : Array Value} {i : Nat} : ∀ {t : Bool}, SeqIn h a its t → ItAt h it a i t → a ≠ it
  | true, ⟨o, e1, e2, _⟩, ⟨o', e3, e4, _⟩ => fun e => by
    rw [← e, e1] at e3
    cases e3
    rw [e2] at e4
    simp at e4
  | false, ⟨o, e1, e2, _⟩, ⟨o', e3, e4, _⟩ => fun e => by
    rw [← e, e1] at e3
    cases e3
    rw [e2] at e4
    simp at e4
theorem sqA_inj {X : Cx} {pins : List (Addr × Obj)} {σ : L2.St} {H : Hp} {s : Shared} (I : Inv X pins σ H s) {a : Addr} {xs ys : List V} : ∀ {t : Bool}, SqA X.K H t a xs → SqA X.K H t a ys → xs = ys
  | true, p, q => I.tuple_inj p q
  | false, p, q => I.list_inj p q
/-- pairs of two sequences as they stand -/
def ItM (K : PySem.W.Frag) (ta tb : Bool) (a b : Addr) : It where
  go := fun i H => ∃ (xs ys : List V) (x y : V), SqA K H ta a xs ∧ SqA K H tb b ys ∧ xs[i]? = some x ∧ ys[i]? = some y
  yld := fun i H v H' => ∃ T x y, v = .ref T ∧ H T = none ∧ H' = upd H T (.tup [x, y]) ∧ (∀ xs, SqA K H ta a xs → xs[i]? = some x) ∧ ∀ ys, SqA K H tb b ys → ys[i]? = some y
  stop := fun i H => ∃ xs ys : List V, SqA K H ta a xs ∧ SqA K H tb b ys ∧ (i = xs.length ∧ i ≤ ys.length ∨ i = ys.length ∧ i ≤ xs.length)
structure ApM (z TI TO i1 i2 a b : Addr) : Prop where
  S : ZipSep2 z TI TO i1 i2 [i1, a] [i2, b]
theorem turn_zipM {P : Program} {w : World} {K : PySem.W.Frag} {elts : List Expr} {kk : Nat} {tpos : Pos} {ta tb : Bool} {a b z TI TO i1 i2 : Addr} (S : ZipSep2 z TI TO i1 i2 [i1, a] [i2, b]) :
    Turn P w K (.Tuple elts kk tpos) (ItM K ta tb a b) [z, TI, TO, i1, i2] z (fun i h => IsZip h z TI TO .none ∧ IsTupOf2 h TI (.ref i1) (.ref i2) ∧ (∃ x y, IsTupOf2 h TO x y) ∧ ItAt h i1 a i ta ∧ ItAt h i2 b i tb) where
  mem := by simp
  obj := fun i h st c hc => by
    obtain ⟨hz, hTI, ⟨x, y, hTO⟩, h1, h2⟩ := st
    have e' : c = z ∨ c = TI ∨ c = TO ∨ c = i1 ∨ c = i2 := by simpa using hc
    rcases e' with q | q | q | q | q <;> rw [q]
    · exact ⟨_, hz, fun v q => nomatch q⟩
    · exact ⟨_, hTI, fun v q => nomatch q⟩
    · exact ⟨_, hTO, fun v q => nomatch q⟩
    · exact itAt_obj h1
    · exact itAt_obj h2
  keep := fun i h h' st k => by
    obtain ⟨hz, hTI, ⟨x, y, hTO⟩, h1, h2⟩ := st
    exact ⟨k z (by simp) _ hz, k TI (by simp) _ hTI, ⟨x, y, k TO (by simp) _ hTO⟩, itAt_keep h1 fun o q => k i1 (by simp) o q, itAt_keep h2 fun o q => k i2 (by simp) o q⟩
  item := by
    intro X hP hw hK hc i pins s σ H E I hf st hg
    subst hP hw hK
    obtain ⟨hz, hTI, ⟨x0, y0, hTO⟩, h1, h2⟩ := st
    obtain ⟨xs, ys, x, y, hqx, hqy, hx, hy⟩ := hg
    obtain ⟨its, rv, p1⟩ := seq_of I hqx
    obtain ⟨jts, rw', p2⟩ := seq_of I hqy
    obtain ⟨u, hu, ru⟩ := rv.get hx
    obtain ⟨u2, hu2, ru2⟩ := rw'.get hy
    have hh : X.A.in1.handled = none := I.ok.hd hc
    have l1 : i < its.toArray.size := by simpa using (List.getElem?_eq_some_iff.mp hu).1
    have l2 : i < jts.toArray.size := by simpa using (List.getElem?_eq_some_iff.mp hu2).1
    have ne1 : a ≠ i1 := ne_it p1 h1
    have ne2 : b ≠ i2 := ne_it p2 h2
    have hzl : z < s.heap.objs.size := Heap.lt_size hz
    refine wpAny_pyNext_zipD2_item S (draws_of hh i1 a ne1 its.toArray ta) (draws_of hh i2 b ne2 jts.toArray tb) hz hTI hTO ⟨h1, p1⟩ ⟨h2, p2⟩ l1 l2 fun x1 x2 h' tk q1 q2 z' TO' s1 s2 hT hsz hk => ?_
    have e1 : x1 = u := by
      rw [List.getElem?_toArray, hu] at q1
      exact (Option.some.inj q1).symm
    have e2 : x2 = u2 := by
      rw [List.getElem?_toArray, hu2] at q2
      exact (Option.some.inj q2).symm
    subst e1 e2
    refine ⟨_, rfl, wpAny_letOwnedTupleGo_zip (s := { s with heap := h', toks := tk }) z' fun h'' z'' sb => ?_⟩
    have hT2 : h''.get? s.heap.objs.size = some { cls := .type "tuple", data := .seq #[x1, x2] } := (sb.2 _ (Nat.ne_of_gt hzl)).trans hT
    have new : ObjOk X.prog X.w (upd H s.heap.objs.size (.tup [x, y])) h'' s.heap.objs.size (.tup [x, y]) :=
      ⟨by show 2 ≤ sizeLine; decide, [x1, x2], .cons ru (.cons ru2 .nil), ⟨_, hT2, rfl, _, rfl⟩⟩
    have I1 : Inv X pins σ (upd H s.heap.objs.size (.tup [x, y])) { s with heap := h'', toks := tk } :=
      I.turnedNew (t' := tk) (ch := [z, TI, TO, i1, i2]) (fun c o hb q => (sb.2 c (fun q' => hb (by simp [q']))).trans (hk c o (fun q' => hb (by simp [q'])) (fun q' => hb (by simp [q'])) (fun q' => hb (by simp [q'])) (fun q' => hb (by simp [q'])) q)) hf (Nat.le_refl _) new
    refine ⟨.ref s.heap.objs.size, _, I1, rfl, ⟨_, x, y, rfl, I.hok.fresh (Nat.le_refl _), rfl, fun l hl => by rw [sqA_inj I hl hqx]; exact hx, fun l hl => by rw [sqA_inj I hl hqy]; exact hy⟩, ⟨z'', ?_, ⟨x1, x2, ?_⟩, ?_, ?_⟩, fun c hcm => ?_⟩
    · exact (sb.2 _ S.TIz).trans (hk _ _ S.TIz S.TITO S.TIi1 S.TIi2 hTI)
    · exact (sb.2 _ S.TOz).trans TO'
    · exact itAt_keep s1.1 fun o q => (sb.2 _ S.zi1.symm).trans q
    · exact itAt_keep s2.1 fun o q => (sb.2 _ S.zi2.symm).trans q
    · have hlt : c < s.heap.objs.size := by
        have e' : c = z ∨ c = TI ∨ c = TO ∨ c = i1 ∨ c = i2 := by simpa using hcm
        rcases e' with q | q | q | q | q <;> rw [q]
        · exact hzl
        · exact Heap.lt_size hTI
        · exact Heap.lt_size hTO
        · obtain ⟨_, e1, _⟩ := itAt_obj h1; exact Heap.lt_size e1
        · obtain ⟨_, e2, _⟩ := itAt_obj h2; exact Heap.lt_size e2
      rw [upd_ne (Nat.ne_of_lt hlt)]
      exact (hf c hcm).1
  done := by
    intro X hP hw hK hc i pins s σ H E I hf st hg
    subst hP hw hK
    obtain ⟨hz, hTI, ⟨x0, y0, hTO⟩, h1, h2⟩ := st
    obtain ⟨xs, ys, hqx, hqy, hend⟩ := hg
    obtain ⟨its, rv, p1⟩ := seq_of I hqx
    obtain ⟨jts, rw', p2⟩ := seq_of I hqy
    have hh : X.A.in1.handled = none := I.ok.hd hc
    have m1 := rv.length
    have m2 := rw'.length
    have ne1 : a ≠ i1 := ne_it p1 h1
    have ne2 : b ≠ i2 := ne_it p2 h2
    have k1 : its.toArray.size = xs.length := by rw [List.size_toArray]; exact m1.symm
    have k2 : jts.toArray.size = ys.length := by rw [List.size_toArray]; exact m2.symm
    exact wpAny_pyNext_zipD2_end S (draws_of hh i1 a ne1 its.toArray ta) (draws_of hh i2 b ne2 jts.toArray tb) hz hTI hTO ⟨h1, p1⟩ ⟨h2, p2⟩ (by omega) (by omega) (by omega) fun h' tk hk => ⟨rfl, I.turnedL (t' := tk) (ch := [z, TI, TO, i1, i2]) (fun c o hb q =>
      hk c o (fun q' => hb (by simp [q'])) (fun q' => hb (by simp [q'])) (fun q' => hb (by simp [q'])) (fun q' => hb (by simp [q'])) q) hf⟩
  self := fun A i s Q E st h => wpAny_pyIter_zip st.1 h
def iZipM (K : PySem.W.Frag) (ga : TA) : TI := fun σ H R => ga σ H fun vs H1 => ∃ ta tb a b xs ys, vs = [.ref a, .ref b] ∧ SqA K H1 ta a xs ∧ SqA K H1 tb b ys ∧ R (ItM K ta tb a b) H1
theorem pi_zipM {X : Cx} {e e2 : Expr} {ga : TA} {p pos tpos : Pos} {elts : List Expr} {kk : Nat} (hg : Gl X "zip") (hm : X.mg "zip" = none) (ha : PA X [e, e2] ga)
    (hs : starEach [e, e2] X.env = (false, eval e X.env) :: starEach [e2] X.env := by rfl) (hpl : (backTo pos (starEach [e2] X.env)).any (·.1) = false := by rfl) :
    PI X (.Tuple elts kk tpos) (.Call (.Name "zip" p) [e, e2] [] pos) (iZipM X.K ga) := by
  refine ⟨fun pins s σ H R I h => ?_⟩
  refine PyProof.Rows.Call_ (ld_blt I hg hm PyProof.Rows.boot_zip (PyProof.Rows.callWith_type1 (thn (ha.run pos pins s σ H _ I h) fun us s1 ⟨vs, H1, I1, r1, q1⟩ => ?_) hs hpl))
  obtain ⟨ta, tb, a, b, xs, ys, ex, hqx, hqy, q⟩ := q1
  subst ex
  cases r1 with
  | cons r rr =>
    cases rr with
    | cons r' rr =>
      cases rr
      cases r
      cases r'
      obtain ⟨its, rv, p1⟩ := seq_of I1 hqx
      obtain ⟨jts, rw', p2⟩ := seq_of I1 hqy
      refine zip_begins2 (begins_of a its.toArray ta) (begins_of b jts.toArray tb) p1 p2 fun h' hz hTI hTO h1 h2 hsz hk => wpAny_pyIter_zip hz ?_
      have I2 : Inv X pins σ H1 { s1 with heap := h' } := I1.kept (t' := s1.toks) hk
      have la : ∀ c ∈ [a], c < s1.heap.objs.size := fun c hc => by
        have e : c = a := by simpa using hc
        rw [e]; exact seqIn_lt p1
      have lb : ∀ c ∈ [b], c < s1.heap.objs.size := fun c hc => by
        have e : c = b := by simpa using hc
        rw [e]; exact seqIn_lt p2
      refine ⟨s1.heap.objs.size + 4, [s1.heap.objs.size + 4, s1.heap.objs.size + 2, s1.heap.objs.size + 3, s1.heap.objs.size, s1.heap.objs.size + 1], _, _, H1, rfl, I2, turn_zipM (zip_sep2 la lb), ⟨hz, hTI, ⟨_, _, hTO⟩, itObj_at h1, itObj_at h2⟩, fun c hcm => ?_, q⟩
      have e' : c = s1.heap.objs.size + 4 ∨ c = s1.heap.objs.size + 2 ∨ c = s1.heap.objs.size + 3 ∨ c = s1.heap.objs.size ∨ c = s1.heap.objs.size + 1 := by simpa using hcm
      have hle : s1.heap.objs.size ≤ c := by
        rcases e' with z | z | z | z | z <;> rw [z]
        · exact Nat.le_add_right _ _
        · exact Nat.le_add_right _ _
        · exact Nat.le_add_right _ _
        · exact Nat.le_refl _
        · exact Nat.le_add_right _ _
      exact I1.fpOk hle (I1.hok.fresh hle)
end DL

/-! ## DL7 -/
set_option Elab.async false
set_option linter.all false
set_option maxRecDepth 100000
set_option maxHeartbeats 4000000
/-! DL7: what is walked, targets, for, comprehensions. -/
namespace DL
open PySem L2
/-! ### what is walked -/
/-- J gives the items xs, whatever happens meanwhile to what nothing leans on -/
def WalkD (K : PySem.W.Frag) (N : Addr → Prop) (H : Hp) (J : It) (xs : List D) : Prop :=
  ∀ (H' : Hp) (N' : Addr → Prop), Keep N H H' → Fewer H N N' → (∀ a, N' a → Lv H' a) → (∀ i, i < xs.length → J.go i H') ∧ J.stop xs.length H' ∧
    ∀ i v H'', i < xs.length → J.yld i H' v H'' → Gr H' H'' ∧ ∃ d, xs[i]? = some d ∧ DV K H'' N' d v
def GoodI (K : PySem.W.Frag) (τ : Tb) (W : WX) (Φ : Addr → Prop) (σ : L2.St) (ρ : Env') (H : Hp) (Rr : It → Hp → Prop) : Out (List D) → Prop
  | .ok xs ρ' => ∀ J H', ES σ ρ H ρ' H' → SR K τ H' Φ σ ρ' → WalkD K (Nn Φ σ ρ') H' J xs → Rr J H'
  | .er x ρ' => ∀ cls dd H', ES σ ρ H ρ' H' → SR K τ H' Φ σ ρ' → XV K H' (Nn Φ σ ρ') x cls dd → W cls dd σ H'
  | .bad => False
def tI (K : PySem.W.Frag) (τ : Tb) (W : WX) (g : M (List D)) : TI := fun σ H Rr => ∃ Φ ρ, SR K τ H Φ σ ρ ∧ GoodI K τ W Φ σ ρ H Rr (g ρ)
def itemsD : D → Option (List D)
  | .tup xs => some xs
  | .lst xs => some xs
  | .scr xs => some xs
  | .str z => some (z.cps.toList.map fun c => .str ⟨#[c]⟩)
  | _ => none
def xIter (f : M R) : M (List D) := mb f fun r => mb (toI r) fun d => mo (itemsD d)
section
variable {K : PySem.W.Frag} {N : Addr → Prop} {H : Hp} {a : Addr} {vs : List V} {xs : List D}
theorem walkd_tup (t : TupAt K H N a vs) (dv : DVs K H N xs vs) : WalkD K N H (Itt K a) xs := fun H' N' k f lv => by
  have q : DV K H' N' (.tup xs) (.ref a) := DV.keep k f _ _ (by simp only [DV]; exact ⟨a, vs, rfl, t, dv⟩)
  simp only [DV] at q
  obtain ⟨b, ws, e, t', dv'⟩ := q
  cases e
  have l := dv'.length
  refine ⟨fun i hi => ⟨ws, ws[i]'(by omega), t'.sq, by simp [show i < ws.length by omega]⟩, ⟨ws, t'.sq, by omega⟩, fun i v H'' hi y => ?_⟩
  obtain ⟨e, y⟩ := y
  rw [e]
  obtain ⟨d, e1, e2⟩ := dv'.get (y ws t'.sq)
  exact ⟨.inl rfl, d, e1, e2⟩
theorem walkd_lst (t : H a = some (.lst vs) ∧ ¬ N a) (dv : DVs K H N xs vs) : WalkD K N H (Itl K a) xs := fun H' N' k f lv => by
  have q : DV K H' N' (.lst xs) (.ref a) := DV.keep k f _ _ (by simp only [DV]; exact ⟨a, vs, rfl, t, dv⟩)
  simp only [DV] at q
  obtain ⟨b, ws, e, t', dv'⟩ := q
  cases e
  have l := dv'.length
  have sq : SqL K H' a ws := SqL.of t'.1
  refine ⟨fun i hi => ⟨ws, ws[i]'(by omega), sq, by simp [show i < ws.length by omega]⟩, ⟨ws, sq, by omega⟩, fun i v H'' hi y => ?_⟩
  obtain ⟨e, y⟩ := y
  rw [e]
  obtain ⟨d, e1, e2⟩ := dv'.get (y ws sq)
  exact ⟨.inl rfl, d, e1, e2⟩
theorem walkd_scr (t : ScrAt K H N a vs) (dv : DVs K H N xs vs) : WalkD K N H (Itl K a) xs := fun H' N' k f lv => by
  have q : DV K H' N' (.scr xs) (.ref a) := DV.keep k f _ _ (by simp only [DV]; exact ⟨a, vs, rfl, t, dv⟩)
  simp only [DV] at q
  obtain ⟨b, ws, e, t', dv'⟩ := q
  cases e
  have l := dv'.length
  refine ⟨fun i hi => ⟨ws, ws[i]'(by omega), t'.sq, by simp [show i < ws.length by omega]⟩, ⟨ws, t'.sq, by omega⟩, fun i v H'' hi y => ?_⟩
  obtain ⟨e, y⟩ := y
  rw [e]
  obtain ⟨d, e1, e2⟩ := dv'.get (y ws t'.sq)
  exact ⟨.inl rfl, d, e1, e2⟩
theorem walkd_str {z : Str} : WalkD K N H (Its z) (z.cps.toList.map fun c => .str ⟨#[c]⟩) := fun H' N' k f lv => by
  have l : (z.cps.toList.map fun c => D.str ⟨#[c]⟩).length = z.cps.size := by simp
  refine ⟨fun i hi => by show i < z.cps.size; omega, by show z.cps.size ≤ _; omega, fun i v H'' hi y => ?_⟩
  obtain ⟨e, c, e1, e2⟩ := y
  rw [e, e2]
  refine ⟨.inl rfl, .str ⟨#[c]⟩, ?_, dv_str⟩
  rw [List.getElem?_map, Array.getElem?_toList, e1]
  rfl
theorem walkd_rng {lo : Int} {n : Nat} : WalkD K N H (Itr lo n) ((List.range n).map fun (i : Nat) => D.int (lo + (i : Int))) := fun H' N' k f lv => by
  have l : ((List.range n).map fun (i : Nat) => D.int (lo + (i : Int))).length = n := by simp
  refine ⟨fun i hi => by show i < n; omega, by show n ≤ _; omega, fun i v H'' hi y => ?_⟩
  obtain ⟨e, y⟩ := y
  rw [e, y]
  refine ⟨.inl rfl, .int (lo + (i : Int)), ?_, dv_int⟩
  rw [List.getElem?_map, List.getElem?_range (by omega)]
  rfl
/-- at a stand data xs, a list or a tuple -/
def SeqD (K : PySem.W.Frag) (H : Hp) (N : Addr → Prop) (t : Bool) (a : Addr) (xs : List D) : Prop := ∃ vs, DVs K H N xs vs ∧ match t with
  | true => TupAt K H N a vs
  | false => (H a = some (.lst vs) ∧ ¬ N a) ∨ ScrAt K H N a vs
theorem SeqD.keep {N' : Addr → Prop} {H' : Hp} {t : Bool} (h : SeqD K H N t a xs) (k : Keep N H H') (f : Fewer H N N') : SeqD K H' N' t a xs := by
  obtain ⟨vs, dv, q⟩ := h
  cases t with
  | true =>
    have q : DV K H' N' (.tup xs) (.ref a) := DV.keep k f _ _ (by simp only [DV]; exact ⟨a, vs, rfl, q, dv⟩)
    simp only [DV] at q
    obtain ⟨b, ws, e, t', dv'⟩ := q
    cases e
    exact ⟨ws, dv', t'⟩
  | false =>
    rcases q with q | q
    · have q : DV K H' N' (.lst xs) (.ref a) := DV.keep k f _ _ (by simp only [DV]; exact ⟨a, vs, rfl, q, dv⟩)
      simp only [DV] at q
      obtain ⟨b, ws, e, t', dv'⟩ := q
      cases e
      exact ⟨ws, dv', .inl t'⟩
    · have q : DV K H' N' (.scr xs) (.ref a) := DV.keep k f _ _ (by simp only [DV]; exact ⟨a, vs, rfl, q, dv⟩)
      simp only [DV] at q
      obtain ⟨b, ws, e, t', dv'⟩ := q
      cases e
      exact ⟨ws, dv', .inr t'⟩
theorem SeqD.sq {t : Bool} (h : SeqD K H N t a xs) : ∃ vs, DVs K H N xs vs ∧ SqA K H t a vs := by
  obtain ⟨vs, dv, q⟩ := h
  cases t with
  | true => exact ⟨vs, dv, q.sq⟩
  | false =>
    rcases q with q | q
    · exact ⟨vs, dv, SqL.of q.1⟩
    · exact ⟨vs, dv, q.sq⟩
def zipD : List D → List D → List D
  | x :: xs, y :: ys => .tup [x, y] :: zipD xs ys
  | _, _ => []
theorem zipD_length : ∀ xs ys : List D, (zipD xs ys).length = min xs.length ys.length
  | [], _ => by simp [zipD]
  | _ :: _, [] => by simp [zipD]
  | x :: xs, y :: ys => by simp only [zipD, List.length_cons, zipD_length xs ys]; omega
theorem zipD_get : ∀ {xs ys : List D} {i : Nat} {x y : D}, xs[i]? = some x → ys[i]? = some y → (zipD xs ys)[i]? = some (.tup [x, y])
  | [], _, _, _, _, h, _ => by simp at h
  | _ :: _, [], _, _, _, _, h => by simp at h
  | a :: xs, b :: ys, 0, x, y, h, h' => by simp at h h'; subst h h'; rfl
  | a :: xs, b :: ys, i + 1, x, y, h, h' => by
    show (zipD xs ys)[i]? = _
    exact zipD_get (by simpa using h) (by simpa using h')
theorem walkd_zip {ta tb : Bool} {b : Addr} {ys : List D} (ha : SeqD K H N ta a xs) (hb : SeqD K H N tb b ys) : WalkD K N H (ItM K ta tb a b) (zipD xs ys) := fun H' N' k f lv => by
  obtain ⟨vs, dx, qx⟩ := (ha.keep k f).sq
  obtain ⟨ws, dy, qy⟩ := (hb.keep k f).sq
  have l1 := dx.length
  have l2 := dy.length
  have l3 := zipD_length xs ys
  refine ⟨fun i hi => ⟨vs, ws, vs[i]'(by omega), ws[i]'(by omega), qx, qy, by simp [show i < vs.length by omega], by simp [show i < ws.length by omega]⟩, ⟨vs, ws, qx, qy, by omega⟩, fun i v H'' hi y => ?_⟩
  obtain ⟨T, x, z, e1, e2, e3, e4, e5⟩ := y
  obtain ⟨d1, g1, h1⟩ := dx.get (e4 vs qx)
  obtain ⟨d2, g2, h2⟩ := dy.get (e5 ws qy)
  rw [e1, e3]
  exact ⟨.new e2, _, zipD_get g1 g2, dv_tupG (DVs.cons h1 (DVs.cons h2 DVs.nil)) e2 lv⟩
end
section
variable {X : Cx} {e e2 tg : Expr} {f : M R} {ga : M (List R)} {W : WX} {pos p : Pos}
theorem mo_i {K : PySem.W.Frag} {Φ : Addr → Prop} {σ : L2.St} {ρ : Env'} {H : Hp} {Q1 : VK} {Rr : It → Hp → Prop} {f : M R} {k : R → M (List D)} (h : GoodI K τ W Φ σ ρ H Rr (mb f k ρ))
    (c : ∀ r ρ1 v H1, ES σ ρ H ρ1 H1 → SR K τ H1 Φ σ ρ1 → RV K H H1 Φ σ ρ1 r v → GoodI K τ W Φ σ ρ H Rr (k r ρ1) → Q1 v H1) : GoodE K τ W Φ σ ρ H Q1 (f ρ) := by
  unfold mb at h
  cases e : f ρ with
  | ok r ρ1 => rw [e] at h; exact fun v H1 s sr rv => c r ρ1 v H1 s sr rv.w h
  | er x ρ1 => rw [e] at h; exact h
  | bad => rw [e] at h; exact h
theorem ma_i {K : PySem.W.Frag} {Φ : Addr → Prop} {σ : L2.St} {ρ : Env'} {H : Hp} {Q1 : List V → Hp → Prop} {Rr : It → Hp → Prop} {f : M (List R)} {k : List R → M (List D)} (h : GoodI K τ W Φ σ ρ H Rr (mb f k ρ))
    (c : ∀ r ρ1 v H1, ES σ ρ H ρ1 H1 → SR K τ H1 Φ σ ρ1 → RVs K H H1 Φ σ ρ1 r v → GoodI K τ W Φ σ ρ H Rr (k r ρ1) → Q1 v H1) : GoodA K τ W Φ σ ρ H Q1 (f ρ) := by
  unfold mb at h
  cases e : f ρ with
  | ok r ρ1 => rw [e] at h; exact fun v H1 s sr rv => c r ρ1 v H1 s sr rv h
  | er x ρ1 => rw [e] at h; exact h
  | bad => rw [e] at h; exact h
/-- over a list, a tuple, a text: three ways, by what it is -/
theorem i_any (he : PE X e (tD X.K τ W f)) : PI X tg e (tI X.K τ W (xIter f)) := by
  refine ⟨fun pins s σ H Rr I q => ?_⟩
  obtain ⟨Φ, ρ, sr, h⟩ := q
  unfold xIter mb at h
  cases ef : f ρ with
  | bad => rw [ef] at h; exact h.elim
  | er x ρ1 =>
    rw [ef] at h
    exact (pi_list he).run pins s σ H Rr I ⟨Φ, ρ, sr, by rw [ef]; exact h⟩
  | ok r ρ1 =>
    rw [ef] at h
    dsimp only at h
    cases et : toI r ρ1 with
    | bad => rw [et] at h; exact h.elim
    | er x ρ2 => exact absurd et toI_ner
    | ok d ρ2 =>
      rw [et] at h
      dsimp only at h
      have go : ∀ {Q1 : VK}, (∀ v H1, ES σ ρ H ρ2 H1 → SR X.K τ H1 Φ σ ρ2 → DV X.K H1 (Nn Φ σ ρ2) d v → Q1 v H1) → tD X.K τ W f σ H Q1 := fun {Q1} c =>
        ⟨Φ, ρ, sr, by
          rw [ef]
          intro v H1 s1 sr1 rv
          obtain ⟨s2, sr2, dv⟩ := toI_ok rv.w sr1 et
          exact c v H1 (s1.trans s2) sr2 dv⟩
      cases d with
      | tup xs =>
        refine (pi_tup he).run pins s σ H Rr I (go fun v H1 s1 sr1 dv => ?_)
        simp only [DV] at dv
        obtain ⟨a, vs, ev, t, q⟩ := dv
        exact ⟨a, ev, ⟨vs, t.sq⟩, h _ H1 s1 sr1 (walkd_tup t q)⟩
      | lst xs =>
        refine (pi_list he).run pins s σ H Rr I (go fun v H1 s1 sr1 dv => ?_)
        simp only [DV] at dv
        obtain ⟨a, vs, ev, t, q⟩ := dv
        exact ⟨a, ev, ⟨vs, SqL.of t.1⟩, h _ H1 s1 sr1 (walkd_lst t q)⟩
      | scr xs =>
        refine (pi_list he).run pins s σ H Rr I (go fun v H1 s1 sr1 dv => ?_)
        simp only [DV] at dv
        obtain ⟨a, vs, ev, t, q⟩ := dv
        exact ⟨a, ev, ⟨vs, t.sq⟩, h _ H1 s1 sr1 (walkd_scr t q)⟩
      | str z =>
        refine (pi_str he).run pins s σ H Rr I (go fun v H1 s1 sr1 dv => ?_)
        simp only [DV] at dv
        exact ⟨z, dv, h _ H1 s1 sr1 walkd_str⟩
      | _ => exact h.elim
/-- a zip of two -/
def seqD : D → Option (Bool × List D)
  | .tup xs => some (true, xs)
  | .lst xs => some (false, xs)
  | .scr xs => some (false, xs)
  | _ => none
def zip2 : List D → Option (List D)
  | [d, e] => match seqD d, seqD e with
    | some (_, xs), some (_, ys) => some (zipD xs ys)
    | _, _ => none
  | _ => none
def xZip (ga : M (List R)) : M (List D) := mb ga fun rs => mb (toIs rs) fun ds => mo (zip2 ds)
theorem seqD_at {K : PySem.W.Frag} {H : Hp} {N : Addr → Prop} {d : D} {v : V} {t : Bool} {xs : List D} (h : DV K H N d v) (e : seqD d = some (t, xs)) : ∃ a, v = .ref a ∧ SeqD K H N t a xs := by
  cases d with
  | tup ys =>
    cases e
    simp only [DV] at h
    obtain ⟨a, vs, ev, t, q⟩ := h
    exact ⟨a, ev, vs, q, t⟩
  | lst ys =>
    cases e
    simp only [DV] at h
    obtain ⟨a, vs, ev, t, q⟩ := h
    exact ⟨a, ev, vs, q, .inl t⟩
  | scr ys =>
    cases e
    simp only [DV] at h
    obtain ⟨a, vs, ev, t, q⟩ := h
    exact ⟨a, ev, vs, q, .inr t⟩
  | _ => cases e
theorem toIs_i {K : PySem.W.Frag} {Φ : Addr → Prop} {σ : L2.St} {ρ : Env'} {H H0 : Hp} {Rr : It → Hp → Prop} {rs : List R} {k : List D → M (List D)} {xs : List V} (ra : RVs K H0 H Φ σ ρ rs xs) (sr : SR K τ H Φ σ ρ)
    (h : GoodI K τ W Φ σ ρ H Rr (mb (toIs rs) k ρ)) : ∃ ds ρ', ES σ ρ H ρ' H ∧ SR K τ H Φ σ ρ' ∧ DVs K H (Nn Φ σ ρ') ds xs ∧ GoodI K τ W Φ σ ρ H Rr (k ds ρ') := by
  unfold mb at h
  cases e : toIs rs ρ with
  | er x ρ1 => exact absurd e toIs_ner
  | bad => rw [e] at h; exact h.elim
  | ok ds ρ1 =>
    rw [e] at h
    obtain ⟨s1, sr1, dv⟩ := toIs_ok ra sr e
    exact ⟨ds, ρ1, s1, sr1, dv, h⟩
theorem GoodI.shift {K : PySem.W.Frag} {Φ : Addr → Prop} {σ : L2.St} {ρ ρ1 : Env'} {H H1 : Hp} {Rr : It → Hp → Prop} {o : Out (List D)} (h : GoodI K τ W Φ σ ρ H Rr o) (s : ES σ ρ H ρ1 H1) : GoodI K τ W Φ σ ρ1 H1 Rr o := by
  cases o with
  | ok r ρ' => exact fun J H' s' sr rv => h J H' (s.trans s') sr rv
  | er x ρ' => exact fun c d H' s' sr xv => h c d H' (s.trans s') sr xv
  | bad => exact h
theorem i_zip {tpos : Pos} {elts : List Expr} {kk : Nat} (hg : Gl X "zip") (hm : X.mg "zip" = none) (ha : PA X [e, e2] (tA X.K τ W ga))
    (hs : starEach [e, e2] X.env = (false, eval e X.env) :: starEach [e2] X.env := by rfl) (hpl : (backTo pos (starEach [e2] X.env)).any (·.1) = false := by rfl) :
    PI X (.Tuple elts kk tpos) (.Call (.Name "zip" p) [e, e2] [] pos) (tI X.K τ W (xZip ga)) := PI.weak (pi_zipM hg hm ha hs hpl) fun σ H Rr q => by
  obtain ⟨Φ, ρ, sr, h⟩ := q
  refine ⟨Φ, ρ, sr, ma_i h fun rs ρ1 xs H1 s1 sr1 ra hk => ?_⟩
  obtain ⟨ds, ρ2, s2, sr2, dv, hk⟩ := toIs_i ra sr1 (hk.shift s1)
  have hk : GoodI X.K τ W Φ σ ρ2 H1 Rr (mo (zip2 ds) ρ2) := hk.shift s2
  cases ez : zip2 ds with
  | none => rw [ez] at hk; exact hk.elim
  | some zs =>
    rw [ez] at hk
    unfold zip2 at ez
    split at ez
    · rename_i d e
      split at ez
      · rename_i t1 xs1 t2 ys1 q1 q2
        cases ez
        simp only [DVs] at dv
        obtain ⟨v, _, e1, dv1, w, _, e2, dv2, e3⟩ := dv
        rw [e3] at e2
        rw [e2] at e1
        obtain ⟨a, ea, sa⟩ := seqD_at dv1 q1
        obtain ⟨b, eb, sb⟩ := seqD_at dv2 q2
        obtain ⟨vs, _, qa⟩ := sa.sq
        obtain ⟨ws, _, qb⟩ := sb.sq
        exact ⟨t1, t2, a, b, vs, ws, by rw [e1, ea, eb], qa, qb, hk _ H1 ES.refl sr2 (walkd_zip sa sb)⟩
      · cases ez
    · cases ez
/-- ranges -/
def rngOk : Int → Bool
  | .ofNat n => Nat.ble n 4611686018427387903
  | .negSucc n => Nat.ble n 4611686018427387902
theorem rngOk_ok {i : Int} (h : rngOk i = true) : -(2 ^ 62) ≤ i ∧ i < 2 ^ 62 := by
  cases i with
  | ofNat n =>
    have h : n ≤ 4611686018427387903 := Nat.le_of_ble_eq_true h
    show -(2 ^ 62) ≤ (n : Int) ∧ (n : Int) < 2 ^ 62
    constructor <;> omega
  | negSucc n =>
    have h : n ≤ 4611686018427387902 := Nat.le_of_ble_eq_true h
    rw [Int.negSucc_eq]
    constructor <;> omega
def rng1 : List D → Option (List D)
  | [.int j] => if rngOk j then some ((List.range j.toNat).map fun (k : Nat) => D.int (0 + (k : Int))) else none
  | _ => none
def rng2 : List D → Option (List D)
  | [.int i, .int j] => if rngOk i && rngOk j then some ((List.range (j - i).toNat).map fun (k : Nat) => D.int (i + (k : Int))) else none
  | _ => none
def xRng1 (ga : M (List R)) : M (List D) := mb ga fun rs => mb (toIs rs) fun ds => mo (rng1 ds)
def xRng2 (ga : M (List R)) : M (List D) := mb ga fun rs => mb (toIs rs) fun ds => mo (rng2 ds)
theorem i_range1 {a : Expr} (hg : Gl X "range") (hm : X.mg "range" = none) (ha : PA X [a] (tA X.K τ W ga)) (hs : starEach [a] X.env = [(false, eval a X.env)] := by rfl) :
    PI X tg (.Call (.Name "range" p) [a] [] pos) (tI X.K τ W (xRng1 ga)) := PI.weak (pi_range1 hg hm ha hs) fun σ H Rr q => by
  obtain ⟨Φ, ρ, sr, h⟩ := q
  refine ⟨Φ, ρ, sr, ma_i h fun rs ρ1 xs H1 s1 sr1 ra hk => ?_⟩
  obtain ⟨ds, ρ2, s2, sr2, dv, hk⟩ := toIs_i ra sr1 (hk.shift s1)
  have hk : GoodI X.K τ W Φ σ ρ2 H1 Rr (mo (rng1 ds) ρ2) := hk.shift s2
  cases ez : rng1 ds with
  | none => rw [ez] at hk; exact hk.elim
  | some zs =>
    rw [ez] at hk
    unfold rng1 at ez
    split at ez
    · rename_i j
      split at ez
      · rename_i ok
        cases ez
        simp only [DVs, DV] at dv
        obtain ⟨v, _, e1, dv1, e2⟩ := dv
        have ok := rngOk_ok ok
        exact ⟨j, by rw [e1, e2, dv1], ok.1, ok.2, hk _ H1 ES.refl sr2 walkd_rng⟩
      · cases ez
    · cases ez
theorem i_range2 {a b : Expr} (hg : Gl X "range") (hm : X.mg "range" = none) (ha : PA X [a, b] (tA X.K τ W ga)) (hs : starEach [a, b] X.env = [(false, eval a X.env), (false, eval b X.env)] := by rfl) (hs2 : starEach [b] X.env = [(false, eval b X.env)] := by rfl) :
    PI X tg (.Call (.Name "range" p) [a, b] [] pos) (tI X.K τ W (xRng2 ga)) := PI.weak (pi_range2 hg hm ha hs hs2) fun σ H Rr q => by
  obtain ⟨Φ, ρ, sr, h⟩ := q
  refine ⟨Φ, ρ, sr, ma_i h fun rs ρ1 xs H1 s1 sr1 ra hk => ?_⟩
  obtain ⟨ds, ρ2, s2, sr2, dv, hk⟩ := toIs_i ra sr1 (hk.shift s1)
  have hk : GoodI X.K τ W Φ σ ρ2 H1 Rr (mo (rng2 ds) ρ2) := hk.shift s2
  cases ez : rng2 ds with
  | none => rw [ez] at hk; exact hk.elim
  | some zs =>
    rw [ez] at hk
    unfold rng2 at ez
    split at ez
    · rename_i i j
      split at ez
      · rename_i ok
        cases ez
        simp only [DVs, DV] at dv
        obtain ⟨v, _, e1, dv1, w, _, e2, dv2, e3⟩ := dv
        rw [Bool.and_eq_true] at ok
        have ok1 := rngOk_ok ok.1
        have ok2 := rngOk_ok ok.2
        exact ⟨i, j, by rw [e1, e2, e3, dv1, dv2], ⟨ok1.1, ok1.2, ok2.1, ok2.2⟩, hk _ H1 ES.refl sr2 walkd_rng⟩
      · cases ez
    · cases ez
end

/-! ### targets -/
abbrev Asg := D → Env' → Option Env'
abbrev AsgL := List D → Env' → Option Env'
def tG (K : PySem.W.Frag) (τ : Tb) (io ts : List Nat) (asg : Asg) : TG := fun v σ H Q => ∃ Φ ρ d, SR K τ H Φ σ ρ ∧ DV K H (Nn Φ σ ρ) d v ∧ match asg d ρ with
  | some ρ' => ∀ σ', Stp io σ ρ H σ' ρ' H → SR K τ H Φ σ' ρ' → (σ'.length = σ.length ∧ ∀ j, j ∉ ts → σ'[j]? = σ[j]?) → (∀ (j : Nat) (c : Cell), ρ'[j]? = some (some c) → (∃ d, c = .imm d) ∨ (ρ[j]? = some (some c) ∧ j ∉ ts)) → Q σ' H
  | none => False
def tGs (K : PySem.W.Frag) (τ : Tb) (io ts : List Nat) (asg : AsgL) : TGs := fun vs σ H Q => ∃ Φ ρ ds, SR K τ H Φ σ ρ ∧ DVs K H (Nn Φ σ ρ) ds vs ∧ match asg ds ρ with
  | some ρ' => ∀ σ', Stp io σ ρ H σ' ρ' H → SR K τ H Φ σ' ρ' → (σ'.length = σ.length ∧ ∀ j, j ∉ ts → σ'[j]? = σ[j]?) → (∀ (j : Nat) (c : Cell), ρ'[j]? = some (some c) → (∃ d, c = .imm d) ∨ (ρ[j]? = some (some c) ∧ j ∉ ts)) → Q σ' H
  | none => False
def asg1 (i : Nat) : Asg := fun d ρ => some (ρ.set i (some (.imm d)))
def asgN : AsgL := fun ds ρ => match ds with
  | [] => some ρ
  | _ => none
def asgC (a : Asg) (b : AsgL) : AsgL := fun ds ρ => match ds with
  | d :: ds => match a d ρ with
    | some ρ' => b ds ρ'
    | none => none
  | [] => none
def asgT (n : Nat) (b : AsgL) : Asg := fun d ρ => match d with
  | .tup ds => if ds.length = n then b ds ρ else none
  | .lst ds => if ds.length = n then b ds ρ else none
  | .scr ds => if ds.length = n then b ds ρ else none
  | _ => none
section
variable {X : Cx} {e : Expr} {es : List Expr} {io ts us : List Nat} {a : Asg} {b : AsgL} {pos : Pos}
theorem PG.weak {t t' : TG} (h : PG X e t) (i : ∀ v σ H Q, t' v σ H Q → t v σ H Q) : PG X e t' := ⟨fun pins s σ H v u Q I r q => h.run pins s σ H v u Q I r (i v σ H Q q)⟩
theorem PGs.weak {t t' : TGs} (h : PGs X es t) (i : ∀ v σ H Q, t' v σ H Q → t v σ H Q) : PGs X es t' := ⟨fun pins s σ H v u Q I r q => h.run pins s σ H v u Q I r (i v σ H Q q)⟩
theorem g_name (i : Nat) {x : Str} (hi : i ∉ io) (hN : X.N.Nodup) (hx : X.N[i]? = some x) (hl : Loc X.env.scope x) (hf : X.fn x = true ∨ X.env.scope.names.lookup x = some .local := by first | exact .inl rfl | exact .inr rfl | assumption) :
    PG X (.Name x pos) (tG X.K τ io [i] (asg1 i)) := PG.weak (pg_name hN hx hl hf) fun v σ H Q ⟨Φ, ρ, d, sr, dv, h⟩ => by
  obtain ⟨s1, sr1⟩ := put_imm hi sr dv
  refine h _ s1 sr1 ⟨List.length_set, fun j hj => List.getElem?_set_ne fun z => hj (by simp [z])⟩ fun j o e => ?_
  rcases get_set e with ⟨_, _, z⟩ | ⟨ne, z⟩
  · exact .inl ⟨d, z⟩
  · exact .inr ⟨z, by simpa using fun q => ne q.symm⟩
theorem gs_nil : PGs X [] (tGs X.K τ io [] asgN) := PGs.weak pgs_nil fun vs σ H Q ⟨Φ, ρ, ds, sr, dv, h⟩ => by
  cases ds with
  | nil => simp only [DVs] at dv; exact ⟨dv, h σ Stp.refl sr ⟨rfl, fun _ _ => rfl⟩ fun j o e => .inr ⟨e, by simp⟩⟩
  | cons d ds => exact h.elim
theorem gs_cons (h1 : PG X e (tG X.K τ io ts a)) (h2 : PGs X es (tGs X.K τ io us b)) (hs : (assignEach (e :: es) X.env).map (·.2) = assign e X.env :: (assignEach es X.env).map (·.2) := by rfl) :
    PGs X (e :: es) (tGs X.K τ io (ts ++ us) (asgC a b)) := PGs.weak (pgs_cons h1 h2 hs) fun vs σ H Q ⟨Φ, ρ, ds, sr, dv, h⟩ => by
  cases ds with
  | nil => exact h.elim
  | cons d ds =>
    simp only [DVs] at dv
    obtain ⟨v, r, e, d1, d2⟩ := dv
    refine ⟨v, r, e, Φ, ρ, d, sr, d1, ?_⟩
    unfold asgC at h
    dsimp only at h
    cases ea : a d ρ with
    | none => rw [ea] at h; exact h.elim
    | some ρ1 =>
      rw [ea] at h
      intro σ1 s1 sr1 k1 b1
      refine ⟨Φ, ρ1, ds, sr1, s1.dvs d2, ?_⟩
      cases eb : b ds ρ1 with
      | none => simp only [eb] at h
      | some ρ2 =>
        simp only [eb] at h
        intro σ2 s2 sr2 k2 b2
        refine h σ2 (s1.trans s2) sr2 ⟨k2.1.trans k1.1, fun j hj => ?_⟩ fun j o e => ?_
        · rw [List.mem_append, not_or] at hj
          exact (k2.2 j hj.2).trans (k1.2 j hj.1)
        · rcases b2 j o e with z | ⟨e2, n2⟩
          · exact .inl z
          · rcases b1 j o e2 with z | ⟨e1, n1⟩
            · exact .inl z
            · exact .inr ⟨e1, by rw [List.mem_append, not_or]; exact ⟨n1, n2⟩⟩
theorem PG.or {t t' : TG} (h : PG X e t) (h' : PG X e t') : PG X e (fun v σ H Q => t v σ H Q ∨ t' v σ H Q) :=
  ⟨fun pins s σ H v u Q I r q => q.elim (h.run pins s σ H v u Q I r) (h'.run pins s σ H v u Q I r)⟩
theorem g_tup {k : Nat} {n : Nat} (hc : X.calm = true) (h : PGs X es (tGs X.K τ io ts b)) (hn : (assignEach es X.env).length = n := by rfl) (hst : (assignEach es X.env).findIdx? (·.1) = none := by rfl) :
    PG X (.Tuple es k pos) (tG X.K τ io ts (asgT n b)) := PG.weak (PG.or (pg_tup hc h hn hst) (pg_lst hc h hn hst)) fun v σ H Q ⟨Φ, ρ, d, sr, dv, h⟩ => by
  unfold asgT at h
  cases d with
  | tup ds =>
    dsimp only at h
    split at h
    · rename_i ρ' hz
      split at hz
      · rename_i hl
        simp only [DV] at dv
        obtain ⟨p, vs, ev, t, q⟩ := dv
        refine .inl ⟨p, vs, ev, t.sq, by rw [q.length, hl], Φ, ρ, ds, sr, q, ?_⟩
        rw [hz]
        exact h
      · cases hz
    · exact h.elim
  | lst ds =>
    dsimp only at h
    split at h
    · rename_i ρ' hz
      split at hz
      · rename_i hl
        simp only [DV] at dv
        obtain ⟨p, vs, ev, t, q⟩ := dv
        refine .inr ⟨p, vs, ev, SqL.of t.1, by rw [q.length, hl], Φ, ρ, ds, sr, q, ?_⟩
        rw [hz]
        exact h
      · cases hz
    · exact h.elim
  | scr ds =>
    dsimp only at h
    split at h
    · rename_i ρ' hz
      split at hz
      · rename_i hl
        simp only [DV] at dv
        obtain ⟨p, vs, ev, t, q⟩ := dv
        refine .inr ⟨p, vs, ev, t.sq, by rw [q.length, hl], Φ, ρ, ds, sr, q, ?_⟩
        rw [hz]
        exact h
      · cases hz
    · exact h.elim
  | _ => exact h.elim
/-- target = value -/
def sAsg (f : M R) (asg : Asg) : MS := sb f fun r => fun ρ => match toI r ρ with
  | .ok d ρ' => match asg d ρ' with
    | some ρ'' => .next ρ''
    | none => .bad
  | _ => .bad
theorem asg_w {K : PySem.W.Frag} {W : WX} {f : M R} {D : Ends} {σ : L2.St} {H : Hp} (q : tS K τ W io (sAsg f a) D σ H) : tAsg (tD K τ W f) (tG K τ io ts a) D σ H := by
  obtain ⟨Φ, ρ, sr, h⟩ := q
  refine ⟨Φ, ρ, sr, es h fun r ρ1 v H1 s1 sr1 rv hk => ?_⟩
  cases e : toI r ρ1 with
  | er x ρ2 => rw [e] at hk; exact hk.elim
  | bad => rw [e] at hk; exact hk.elim
  | ok d ρ2 =>
    rw [e] at hk
    dsimp only at hk
    obtain ⟨s2, sr2, dv⟩ := toI_ok rv.w sr1 e
    refine ⟨Φ, ρ2, d, sr2, dv, ?_⟩
    cases ea : a d ρ2 with
    | none => rw [ea] at hk; exact hk.elim
    | some ρ3 =>
      rw [ea] at hk
      exact fun σ3 s3 sr3 _ _ => hk σ3 H1 ((s1.trans s2).stp.trans s3) sr3
theorem s_asg {W : WX} {f : M R} {tg : Expr} (he : PE X e (tD X.K τ W f)) (hg : PG X tg (tG X.K τ io ts a)) (hs : swapsWithSole [tg] e pos.line X.env = pure false := by rfl) (hw : swappedStores [tg] e X.env = pure none := by rfl)
    (h1 : (assignEach [tg] X.env).map (·.2) = [assign tg X.env] := by rfl) : PS X (.Assign [tg] e pos) (tS X.K τ W io (sAsg f a)) := PS.weak (ps_asg he hg hs hw h1) fun D σ H q => asg_w q

/-! ### for -/
def forGo (asg : Asg) (body : MS) : List D → MS
  | [], ρ => .next ρ
  | x :: xs, ρ => match asg x ρ with
    | none => .bad
    | some ρ1 => match body ρ1 with
      | .next ρ2 => forGo asg body xs ρ2
      | .cnt ρ2 => forGo asg body xs ρ2
      | .brk ρ2 => .next ρ2
      | .ret r ρ2 => .ret r ρ2
      | .er x ρ2 => .er x ρ2
      | .bad => .bad
def sFor (g : M (List D)) (asg : Asg) (body : MS) : MS := sb g fun xs => forGo asg body xs
theorem is {K : PySem.W.Frag} {W : WX} {Φ : Addr → Prop} {σ : L2.St} {ρ : Env'} {H : Hp} {D1 : Ends} {g : M (List D)} {k : List D → MS} {Rr : It → Hp → Prop} (h : GoodS K τ W io Φ σ ρ H D1 (sb g k ρ))
    (c : ∀ xs ρ1 J H1, ES σ ρ H ρ1 H1 → SR K τ H1 Φ σ ρ1 → WalkD K (Nn Φ σ ρ1) H1 J xs → GoodS K τ W io Φ σ ρ1 H1 D1 (k xs ρ1) → Rr J H1) : GoodI K τ W Φ σ ρ H Rr (g ρ) := by
  unfold sb at h
  cases e : g ρ with
  | ok r ρ1 => rw [e] at h; exact fun J H1 s sr wd => c r ρ1 J H1 s sr wd (h.shift s.stp)
  | er x ρ1 => rw [e] at h; exact fun c d H' s sr xv => h c d σ H' s.stp sr xv
  | bad => rw [e] at h; exact h
theorem s_for {W : WX} {iter tg : Expr} {body : List Stmt} {g : M (List D)} {s : MS} (hp : PassesOwn (model X.prog X.w) X.A X.env X.xe) (hc : X.calm = true) (hi : PI X tg iter (tI X.K τ W g)) (hg : PG X tg (tG X.K τ io ts a)) (hb : PSs X body (tS X.K τ W io s))
    (hs : ∀ x, foldedSetIterable iter X.env x = pure x := by intro _; rfl) : PS X (.For tg iter body [] pos) (tS X.K τ W io (sFor g a s)) := PS.weak (ps_for hp hc hi hg hb hs) fun D σ H q => by
  obtain ⟨Φ, ρ, sr, h⟩ := q
  refine ⟨Φ, ρ, sr, is h fun xs ρ1 J H1 s1 sr1 wd hk => ?_⟩
  refine ⟨fun i m σ' H' => m = xs.length - i ∧ i ≤ xs.length ∧ ∃ ρ', Stp io σ ρ1 H1 σ' ρ' H' ∧ SR X.K τ H' Φ σ' ρ' ∧ GoodS X.K τ W io Φ σ' ρ' H' D (forGo a s (xs.drop i) ρ'), ⟨xs.length, by simp, Nat.zero_le _, ρ1, Stp.refl, sr1, by simpa using hk⟩, ?_⟩
  rintro i m σ' H' ⟨rfl, hle, ρ', st, sr', hk'⟩
  obtain ⟨go, stop, yld⟩ := wd H' (Nn Φ σ' ρ') st.keepN st.fewer fun a z => sr'.nnLv z
  by_cases hlt : i < xs.length
  · refine .inr ⟨go i hlt, fun σ2 H2 => ∃ ρ2, Stp io σ ρ1 H1 σ2 ρ2 H2 ∧ SR X.K τ H2 Φ σ2 ρ2 ∧ GoodS X.K τ W io Φ σ2 ρ2 H2 D (forGo a s (xs.drop (i + 1)) ρ2), fun σ2 H2 q => ⟨xs.length - (i + 1), by omega, rfl, hlt, q⟩, fun v H2 y => ?_⟩
    obtain ⟨gr, d, ed, dv⟩ := yld i v H2 hlt y
    have ex : xs.drop i = d :: xs.drop (i + 1) := by
      obtain ⟨hl, hd⟩ := List.getElem?_eq_some_iff.mp ed
      rw [← hd]; exact List.drop_eq_getElem_cons hl
    rw [ex] at hk'
    unfold forGo at hk'
    have sr2 := gr.sr sr'
    refine ⟨Φ, ρ', d, sr2, dv, ?_⟩
    cases ea : a d ρ' with
    | none => rw [ea] at hk'; exact hk'.elim
    | some ρ3 =>
      rw [ea] at hk'
      dsimp only at hk'
      intro σ3 s3 sr3 _ _
      have st3 : Stp io σ' ρ' H' σ3 ρ3 H2 := gr.es.stp.trans s3
      have hk3 := GoodS.shift hk' st3
      have stt := st.trans st3
      refine ⟨Φ, ρ3, sr3, ?_⟩
      have nx : ∀ {ρ4}, GoodS X.K τ W io Φ σ3 ρ3 H2 D (forGo a s (xs.drop (i + 1)) ρ4) → ∀ σ4 H4, Stp io σ3 ρ3 H2 σ4 ρ4 H4 → SR X.K τ H4 Φ σ4 ρ4 → ∃ ρ2, Stp io σ ρ1 H1 σ4 ρ2 H4 ∧ SR X.K τ H4 Φ σ4 ρ2 ∧ GoodS X.K τ W io Φ σ4 ρ2 H4 D (forGo a s (xs.drop (i + 1)) ρ2) := fun {ρ4} q σ4 H4 s4 sr4 =>
        ⟨ρ4, stt.trans s4, sr4, GoodS.shift q s4⟩
      cases eb : s ρ3 with
      | next ρ4 => rw [eb] at hk3; exact nx hk3
      | cnt ρ4 => rw [eb] at hk3; exact nx hk3
      | brk ρ4 => rw [eb] at hk3; exact hk3
      | ret r ρ4 => rw [eb] at hk3; exact hk3
      | er x ρ4 => rw [eb] at hk3; exact hk3
      | bad => rw [eb] at hk3; exact hk3
  · have e : i = xs.length := by omega
    subst e
    rw [List.drop_length] at hk'
    exact .inl ⟨stop, hk' σ' H' Stp.refl sr'⟩

/-! ### while -/
def whGo (c : M Bool) (body : MS) : Nat → MS
  | 0, _ => .bad
  | n + 1, ρ => match c ρ with
    | .ok true ρ1 => match body ρ1 with
      | .next ρ2 => whGo c body n ρ2
      | .cnt ρ2 => whGo c body n ρ2
      | .brk ρ2 => .next ρ2
      | .ret r ρ2 => .ret r ρ2
      | .er x ρ2 => .er x ρ2
      | .bad => .bad
    | .ok false ρ1 => .next ρ1
    | .er x ρ1 => .er x ρ1
    | .bad => .bad
def SO.isBad : SO → Bool
  | .bad => true
  | _ => false
open Classical in
noncomputable def sWhile (c : M Bool) (body : MS) : MS := fun ρ => if h : ∃ n, (whGo c body n ρ).isBad = false then whGo c body (Classical.choose h) ρ else .bad
theorem whGo_mono {c : M Bool} {body : MS} : ∀ {n : Nat} {ρ : Env'} (k : Nat), (whGo c body n ρ).isBad = false → whGo c body (n + k) ρ = whGo c body n ρ
  | 0, ρ, k, h => by simp [whGo, SO.isBad] at h
  | n + 1, ρ, k, h => by
    rw [Nat.succ_add]
    unfold whGo at h ⊢
    cases ec : c ρ with
    | ok b ρ1 =>
      rw [ec] at h
      cases b with
      | false => rfl
      | true =>
        dsimp only at h ⊢
        cases eb : body ρ1 with
        | next ρ2 => rw [eb] at h; exact whGo_mono k h
        | cnt ρ2 => rw [eb] at h; exact whGo_mono k h
        | _ => rfl
    | er x ρ1 => rfl
    | bad => rfl
theorem sWhile_eq {c : M Bool} {body : MS} {ρ : Env'} (n : Nat) (h : (whGo c body n ρ).isBad = false) : sWhile c body ρ = whGo c body n ρ := by
  have e : ∃ n, (whGo c body n ρ).isBad = false := ⟨n, h⟩
  unfold sWhile
  rw [dif_pos e]
  have q := Classical.choose_spec e
  rcases Nat.le_total (Classical.choose e) n with z | z
  · obtain ⟨k, hk⟩ := Nat.exists_eq_add_of_le z
    have := whGo_mono k q
    rw [← hk] at this
    exact this.symm
  · obtain ⟨k, hk⟩ := Nat.exists_eq_add_of_le z
    have := whGo_mono k h
    rw [← hk] at this
    exact this
theorem s_while {W : WX} {c : Expr} {body : List Stmt} {fc : M Bool} {s : MS} (hp : PassesOwn (model X.prog X.w) X.A X.env X.xe) (hc : PT X c (tT X.K τ W fc)) (hb : PSs X body (tS X.K τ W io s)) : PS X (.While c body [] pos) (tS X.K τ W io (sWhile fc s)) := PS.weak (ps_while hp hc hb) fun D σ H q => by
  obtain ⟨Φ, ρ, sr, h⟩ := q
  unfold sWhile at h
  split at h
  · rename_i he
    refine ⟨fun m σ' H' => ∃ ρ', Stp io σ ρ H σ' ρ' H' ∧ SR X.K τ H' Φ σ' ρ' ∧ GoodS X.K τ W io Φ σ' ρ' H' D (whGo fc s m ρ'), ⟨_, ρ, Stp.refl, sr, h⟩, ?_⟩
    rintro m σ' H' ⟨ρ', st, sr', hk⟩
    refine ⟨Φ, ρ', sr', ?_⟩
    cases m with
    | zero => exact hk.elim
    | succ m =>
      unfold whGo at hk
      cases ec : fc ρ' with
      | bad => rw [ec] at hk; exact hk
      | er x ρ1 => rw [ec] at hk; exact fun c d H' s sr xv => hk c d σ' H' s.stp sr xv
      | ok b ρ1 =>
        rw [ec] at hk
        intro H1 s1 sr1
        cases b with
        | false => exact (if_neg Bool.false_ne_true).mpr (hk σ' H1 s1.stp sr1)
        | true =>
          refine (if_pos rfl).mpr ⟨fun σ2 H2 => ∃ ρ2, Stp io σ ρ H σ2 ρ2 H2 ∧ SR X.K τ H2 Φ σ2 ρ2 ∧ GoodS X.K τ W io Φ σ2 ρ2 H2 D (whGo fc s m ρ2), fun σ2 H2 q => ⟨m, Nat.lt_succ_self m, q⟩, Φ, ρ1, sr1, ?_⟩
          have hk3 := GoodS.shift hk (s1.stp (io := io))
          have stt := st.trans (s1.stp (io := io))
          dsimp only at hk3
          have nx : ∀ {ρ4}, GoodS X.K τ W io Φ σ' ρ1 H1 D (whGo fc s m ρ4) → ∀ σ4 H4, Stp io σ' ρ1 H1 σ4 ρ4 H4 → SR X.K τ H4 Φ σ4 ρ4 → ∃ ρ2, Stp io σ ρ H σ4 ρ2 H4 ∧ SR X.K τ H4 Φ σ4 ρ2 ∧ GoodS X.K τ W io Φ σ4 ρ2 H4 D (whGo fc s m ρ2) := fun {ρ4} q σ4 H4 s4 sr4 =>
            ⟨ρ4, stt.trans s4, sr4, GoodS.shift q s4⟩
          cases eb : s ρ1 with
          | next ρ4 => rw [eb] at hk3; exact nx hk3
          | cnt ρ4 => rw [eb] at hk3; exact nx hk3
          | brk ρ4 => rw [eb] at hk3; exact hk3
          | ret r ρ4 => rw [eb] at hk3; exact hk3
          | er x ρ4 => rw [eb] at hk3; exact hk3
          | bad => rw [eb] at hk3; exact hk3
  · exact h.elim
end
end DL

/-! ## DC -/
set_option Elab.async false
set_option linter.all false
set_option maxRecDepth 100000
set_option maxHeartbeats 4000000
/-! DC: list comprehensions. -/
namespace DL
open PySem L2
def wipeC (ρ : Env') : List Nat → Env'
  | [] => ρ
  | v :: vs => (wipeC ρ vs).set v none
def rsC (ρ0 ρ : Env') : List Nat → Env'
  | [] => ρ
  | v :: vs => (rsC ρ0 ρ vs).set v ((ρ0[v]?).getD none)
def vsOk (ρ : Env') (vs : List Nat) : Bool := vs.all fun v => match ρ[v]? with
  | some (some (.own _)) => false
  | some (some (.bor _)) => false
  | _ => true
def lcGo (vs : List Nat) (asg : Asg) (t : M Bool) (f : M R) : List D → List D → M (List D)
  | [], acc => mr acc
  | x :: xs, acc => fun ρ => match asg x ρ with
    | none => .bad
    | some ρ1 => match t ρ1 with
      | .ok true ρ2 => match f ρ2 with
        | .ok r ρ3 => match toI r ρ3 with
          | .ok d ρ4 => if szB (acc.length + 1) then lcGo vs asg t f xs (acc ++ [d]) (wipeC ρ4 vs) else .bad
          | _ => .bad
        | _ => .bad
      | .ok false ρ2 => lcGo vs asg t f xs acc (wipeC ρ2 vs)
      | _ => .bad
def xLc (vs : List Nat) (g : M (List D)) (asg : Asg) (t : M Bool) (f : M R) : M R := mb g fun xs => fun ρ => if vsOk ρ vs then match lcGo vs asg t f xs [] (wipeC ρ vs) with
  | .ok acc ρ' => .ok (.new (.lst acc)) (rsC ρ ρ' vs)
  | _ => .bad
  else .bad
theorem wipeC_length (ρ : Env') : ∀ vs, (wipeC ρ vs).length = ρ.length
  | [] => rfl
  | v :: vs => by unfold wipeC; rw [List.length_set, wipeC_length ρ vs]
theorem wipeC_some {ρ : Env'} {i : Nat} {c : Cell} : ∀ {vs : List Nat}, (wipeC ρ vs)[i]? = some (some c) → ρ[i]? = some (some c) ∧ i ∉ vs
  | [], h => ⟨h, by simp⟩
  | v :: vs, h => by
    unfold wipeC at h
    by_cases e : v = i
    · subst e
      rw [List.getElem?_set_self'] at h
      cases q : (wipeC ρ vs)[v]? with
      | none => rw [q] at h; cases h
      | some o => rw [q] at h; cases h
    · rw [List.getElem?_set_ne e] at h
      obtain ⟨a, b⟩ := wipeC_some h
      exact ⟨a, fun m => (List.mem_cons.mp m).elim (fun z => e z.symm) b⟩
theorem wipeC_out {ρ : Env'} {i : Nat} : ∀ {vs : List Nat}, i ∉ vs → (wipeC ρ vs)[i]? = ρ[i]?
  | [], _ => rfl
  | v :: vs, h => by
    have h1 : v ≠ i := fun e => h (by rw [e]; exact List.mem_cons_self)
    have h2 : i ∉ vs := fun m => h (List.mem_cons_of_mem _ m)
    unfold wipeC
    rw [List.getElem?_set_ne h1]
    exact wipeC_out h2
theorem rsC_length (ρ0 ρ : Env') : ∀ vs, (rsC ρ0 ρ vs).length = ρ.length
  | [] => rfl
  | v :: vs => by unfold rsC; rw [List.length_set, rsC_length ρ0 ρ vs]
theorem rsC_out {ρ0 ρ : Env'} {i : Nat} : ∀ {vs : List Nat}, i ∉ vs → (rsC ρ0 ρ vs)[i]? = ρ[i]?
  | [], _ => rfl
  | v :: vs, h => by
    have h1 : v ≠ i := fun e => h (by rw [e]; exact List.mem_cons_self)
    have h2 : i ∉ vs := fun m => h (List.mem_cons_of_mem _ m)
    unfold rsC
    rw [List.getElem?_set_ne h1]
    exact rsC_out h2
theorem rsC_in {ρ0 ρ : Env'} {i : Nat} {c : Cell} : ∀ {vs : List Nat}, i ∈ vs → (rsC ρ0 ρ vs)[i]? = some (some c) → ρ0[i]? = some (some c)
  | v :: vs, hm, h => by
    unfold rsC at h
    by_cases e : v = i
    · subst e
      by_cases hl : v < (rsC ρ0 ρ vs).length
      · rw [List.getElem?_set_self hl] at h
        cases q : ρ0[v]? with
        | none => rw [q] at h; cases h
        | some o => rw [q] at h; exact h
      · rw [List.getElem?_eq_none (by simpa using hl)] at h; cases h
    · rw [List.getElem?_set_ne e] at h
      exact rsC_in ((List.mem_cons.mp hm).elim (fun z => (e z.symm).elim) id) h
theorem vsOk_imm {ρ : Env'} {vs : List Nat} {i : Nat} {c : Cell} (h : vsOk ρ vs = true) (m : i ∈ vs) (e : ρ[i]? = some (some c)) : ∃ d, c = .imm d := by
  unfold vsOk at h
  rw [List.all_eq_true] at h
  have q := h i m
  rw [e] at q
  cases c with
  | imm d => exact ⟨d, rfl⟩
  | own o => cases q
  | bor o => cases q
theorem wipe_eq {σ σ2 : L2.St} {vs ts : List Nat} (hs : ∀ j ∈ ts, j ∈ vs) (hl : σ2.length = (wipe σ vs).length) (h : ∀ j, j ∉ ts → σ2[j]? = (wipe σ vs)[j]?) : wipe σ2 vs = wipe σ vs := by
  apply List.ext_getElem?
  intro j
  by_cases hj : j ∈ vs
  · have k : ∀ (τ : L2.St), (wipe τ vs)[j]? = if j < τ.length then some none else none := fun τ => by
      by_cases hl : j < τ.length
      · rw [if_pos hl]
        have hl' : j < (wipe τ vs).length := by rw [wipe_length]; exact hl
        cases q : (wipe τ vs)[j]? with
        | none => rw [List.getElem?_eq_none_iff] at q; omega
        | some o =>
          cases o with
          | none => rfl
          | some x => exact absurd hj (wipe_some q).2
      · rw [if_neg hl]
        exact List.getElem?_eq_none (by rw [wipe_length]; omega)
    rw [k, k, hl, wipe_length]
  · rw [wipe_out hj, h j fun z => hj (hs j z)]
section
variable {K : PySem.W.Frag} {H H' H1 : Hp} {Φ : Addr → Prop} {σ : L2.St} {ρ ρ' : Env'} {vs : List Nat}
theorem own_wipe {a : Addr} (h : Own (wipe σ vs) (wipeC ρ vs) a) : Own σ ρ a := by
  obtain ⟨i, o, e1, e2⟩ := h
  obtain ⟨e1, n⟩ := wipeC_some e1
  exact ⟨i, o, e1, (wipe_some e2).1⟩
theorem SR.fewer {N' : Addr → Prop} (h : SR K τ H Φ σ ρ) (f : ∀ a, N' a → Nn Φ σ ρ a) {i : Nat} {c : Cell} (e : ρ[i]? = some (some c)) : ∃ v, σ[i]? = some (some v) ∧ CV K H Φ N' c v := by
  obtain ⟨v, e1, q⟩ := h.cell i c e
  refine ⟨v, e1, ?_⟩
  have kp : Keep (Nn Φ σ ρ) H H := fun _ _ e _ _ => e
  have fw : Fewer H (Nn Φ σ ρ) N' := fun a z => .inl (f a z)
  cases c with
  | imm d => exact DV.keep kp fw d v q
  | own o =>
    obtain ⟨a, ev, n, q⟩ := q
    exact ⟨a, ev, n, q.less f⟩
  | bor o =>
    obtain ⟨a, ev, n, q⟩ := q
    exact ⟨a, ev, n, q.less f⟩
theorem SR.wipe (h : SR K τ H Φ σ ρ) : SR K τ H Φ (wipe σ vs) (wipeC ρ vs) := by
  refine ⟨by rw [wipeC_length, wipe_length]; exact h.len, fun i c e => ?_, fun i j o u a e1 e2 e3 e4 => ?_, h.lv, h.tab⟩
  · obtain ⟨e, n⟩ := wipeC_some e
    obtain ⟨v, e1, q⟩ := h.fewer (N' := Nn Φ (L2.wipe σ vs) (wipeC ρ vs)) (fun a z => z.imp id own_wipe) e
    exact ⟨v, by rw [wipe_out n]; exact e1, q⟩
  · exact h.inj i j o u a (wipeC_some e1).1 (wipeC_some e2).1 (wipe_some e3).1 (wipe_some e4).1
/-- neither a table of code objects nor a code object -/
def Nc (a : Addr) (u : HO) : Prop := (∀ ps, u ≠ .tbl ps) ∧ ∀ q, u ≠ LamX.CodeO a q
theorem nc_lst {a : Addr} {xs : List V} : Nc a (.lst xs) := ⟨fun _ z => (nomatch z), fun _ z => (nomatch z)⟩
theorem tabs_updC {D : Addr} {o u : HO} (h : LamX.Tabs τ H) (e : H D = some u) (n : Nc D u) : LamX.Tabs τ (upd H D o) := fun p hp => by
  obtain ⟨ps, h1, h2, h3⟩ := h p hp
  refine ⟨ps, ?_, h2, fun pos cv hc => ?_⟩
  · rw [upd_ne fun z => n.1 ps (by rw [z, e] at h1; exact Option.some.inj h1)]
    exact h1
  · obtain ⟨c, e1, e2⟩ := h3 pos cv hc
    refine ⟨c, e1, ?_⟩
    rw [upd_ne fun z => by subst z; exact n.2 _ (by rw [e] at e2; exact Option.some.inj e2)]
    exact e2
/-- an object that nothing leans on may be changed -/
theorem SR.updX {D : Addr} {o u0 : HO} (h : SR K τ H Φ σ ρ) (hD : Φ D) (e0 : H D = some u0) (n0 : Nc D u0) (hb : ∀ (i : Nat) (u : O), ρ[i]? = some (some (.bor u)) → σ[i]? ≠ some (some (V.ref D))) (mo : Mb o := by exact ⟨fun _ z => (nomatch z), fun _ z => (nomatch z)⟩) : SR K τ (upd H D o) Φ σ ρ := by
  have kp : Keep (Nn Φ σ ρ) H (upd H D o) := fun b u e n _ => by
    have ne : b ≠ D := fun z => n (.inl (by rw [z]; exact hD))
    rw [upd_ne ne]; exact e
  have fw : Fewer H (Nn Φ σ ρ) (Nn Φ σ ρ) := fun a z => .inl z
  refine ⟨h.len, fun i c e => ?_, h.inj, fun a z => ?_, tabs_updC h.tab e0 n0⟩
  · obtain ⟨v, e1, q⟩ := h.cell i c e
    refine ⟨v, e1, ?_⟩
    cases c with
    | imm d => exact DV.keep kp fw d v q
    | own u =>
      obtain ⟨a, ev, n, q⟩ := q
      obtain ⟨u', q1, _, q2⟩ := q.at
      have ne : a ≠ D := fun z => n (by rw [z]; exact hD)
      exact ⟨a, ev, n, q2 _ _ (by rw [upd_ne ne]; exact q1) kp fw⟩
    | bor u =>
      obtain ⟨a, ev, n, q⟩ := q
      obtain ⟨u', q1, _, q2⟩ := q.at
      have ne : a ≠ D := fun z => hb i _ e (by rw [e1, ev, z])
      exact ⟨a, ev, n, q2 _ _ (by rw [upd_ne ne]; exact q1) kp fw⟩
  · by_cases e : a = D
    · rw [e]; exact ⟨o, upd_same, mo⟩
    · obtain ⟨u, q, m⟩ := h.lv a z
      exact ⟨u, by rw [upd_ne e]; exact q, m⟩
/-- .. may be forgotten -/
theorem SR.drop {D : Addr} (h : SR K τ H (fun x => Φ x ∨ x = D) σ ρ) (hb : ∀ (i : Nat) (u : O), ρ[i]? = some (some (.bor u)) → σ[i]? ≠ some (some (V.ref D))) : SR K τ H Φ σ ρ := by
  refine ⟨h.len, fun i c e => ?_, h.inj, fun a z => h.lv a (.inl z), h.tab⟩
  obtain ⟨v, e1, q⟩ := h.fewer (N' := Nn Φ σ ρ) (fun a z => z.imp .inl id) e
  refine ⟨v, e1, ?_⟩
  cases c with
  | imm d => exact q
  | own u =>
    obtain ⟨a, ev, n, q⟩ := q
    exact ⟨a, ev, fun z => n (.inl z), q⟩
  | bor u =>
    obtain ⟨a, ev, n, q⟩ := q
    exact ⟨a, ev, n.elim id fun z => (hb i u e (by rw [e1, ev, z])).elim, q⟩
end
abbrev W0 : WX := fun _ _ _ _ => False
section
variable {K : PySem.W.Frag} {W : WX} {vs ts io : List Nat} {g : M (List D)} {asg : Asg} {t : M Bool} {f : M R}
theorem lc_w (hv : ∀ j ∈ ts, j ∈ vs) {σ : L2.St} {H : Hp} {Q : VK} (q : tD K τ W (xLc vs g asg t f) σ H Q) : tLc (tI K τ W g) (tG K τ io ts asg) (tT K τ W0 t) (tD K τ W0 f) vs σ H Q := by
  obtain ⟨Φ, ρ0, sr0, h⟩ := q
  refine ⟨Φ, ρ0, sr0, ?_⟩
  unfold xLc mb at h
  cases eg : g ρ0 with
  | bad => rw [eg] at h; exact h
  | er x ρ1 => rw [eg] at h; exact h
  | ok xs ρ =>
    rw [eg] at h
    dsimp only at h
    intro J H1 es0 sr wd L hL
    have h := GoodE.shift h es0
    split at h
    · rename_i vok
      -- where it ends
      generalize hO : lcGo vs asg t f xs [] (wipeC ρ vs) = Z at h
      have srw : SR K τ (upd H1 L (.lst [])) (fun x => Φ x ∨ x = L) (wipe σ vs) (wipeC ρ vs) := (sr.growX hL).wipe
      have bor0 : ∀ (i : Nat) (o : O), ρ[i]? = some (some (.bor o)) → σ[i]? ≠ some (some (V.ref L)) := fun i o e z => by
        obtain ⟨v, e1, a, ev, n, _⟩ := sr.cell i _ e
        rw [z] at e1
        cases e1
        cases ev
        exact sr.live L n hL
      refine ⟨fun i m H' => m = xs.length - i ∧ i ≤ xs.length ∧ ∃ ρ' acc accV, ES (wipe σ vs) (wipeC ρ vs) H1 ρ' H' ∧ SR K τ H' (fun x => Φ x ∨ x = L) (wipe σ vs) ρ' ∧ H' L = some (.lst accV) ∧ DVs K H' (Nn (fun x => Φ x ∨ x = L) (wipe σ vs) ρ') acc accV ∧
          lcGo vs asg t f (xs.drop i) acc ρ' = Z,
        ⟨xs.length, by simp, Nat.zero_le _, wipeC ρ vs, [], [], ⟨fun b o e _ _ => by rw [upd_ne (ne_of_none e hL)]; exact e, fun a e => ?_, fun _ h => h, fun _ o h => ⟨o, h⟩⟩, srw, upd_same, DVs.nil, by simpa using hO⟩, ?_⟩
      · unfold upd
        split
        · intro z; cases z
        · exact e
      rintro i m H' ⟨rfl, hle, ρ', acc, accV, est, sr', hacc, dacc, hk⟩
      -- what is lent stays what it is
      have borN : ∀ (i : Nat) (o : O), ρ'[i]? = some (some (.bor o)) → (wipe σ vs)[i]? ≠ some (some (V.ref L)) := fun i o e z => by
        obtain ⟨u, e1⟩ := est.bor i o e
        exact bor0 i u (wipeC_some e1).1 (wipe_some z).1
      have ownN : ∀ a, Own (wipe σ vs) ρ' a → Own σ ρ a := fun a z => own_wipe (est.own a z)
      obtain ⟨go, stop, yld⟩ := wd H' (Nn (fun x => Φ x ∨ x = L) (wipe σ vs) ρ') (fun b o e n t => est.keep b o e (fun z => n (.inr (own_wipe z))) t)
        (fun a z => by
          rcases z with (z | z) | z
          · exact .inl (.inl z)
          · exact .inr (by rw [z]; exact hL)
          · exact .inl (.inr (ownN a z))) fun a z => sr'.nnLv z
      by_cases hlt : i < xs.length
      · refine .inr ⟨go i hlt, fun H2 => ∃ ρ2 acc2 accV2, ES (wipe σ vs) (wipeC ρ vs) H1 ρ2 H2 ∧ SR K τ H2 (fun x => Φ x ∨ x = L) (wipe σ vs) ρ2 ∧ H2 L = some (.lst accV2) ∧ DVs K H2 (Nn (fun x => Φ x ∨ x = L) (wipe σ vs) ρ2) acc2 accV2 ∧
          lcGo vs asg t f (xs.drop (i + 1)) acc2 ρ2 = Z, fun H2 q => ⟨xs.length - (i + 1), by omega, rfl, hlt, q⟩, fun v H2 y => ?_⟩
        obtain ⟨gr, d, ed, dv⟩ := yld i v H2 hlt y
        have ex : xs.drop i = d :: xs.drop (i + 1) := by
          obtain ⟨hl, hd⟩ := List.getElem?_eq_some_iff.mp ed
          rw [← hd]; exact List.drop_eq_getElem_cons hl
        rw [ex] at hk
        unfold lcGo at hk
        have sr2 := gr.sr sr'
        refine ⟨_, ρ', d, sr2, dv, ?_⟩
        cases ea : asg d ρ' with
        | none => rw [ea] at hk; dsimp only at hk; rw [← hk] at h; exact h.elim
        | some ρ3 =>
          rw [ea] at hk
          dsimp only at hk
          intro σ3 st3 sr3 ⟨len3, out3⟩ cel3
          have weq : wipe σ3 vs = wipe σ vs := wipe_eq hv len3 out3
          refine ⟨weq, _, ρ3, sr3, ?_⟩
          have own3 : ∀ a, Own σ3 ρ3 a → Own (wipe σ vs) ρ' a := fun a ⟨j, o, e1, e2⟩ => by
            rcases cel3 j _ e1 with ⟨_, z⟩ | ⟨z, n⟩
            · cases z
            · exact ⟨j, o, z, by rw [← out3 j n]; exact e2⟩
          have bor3 : ∀ (j : Nat) (o : O), ρ3[j]? = some (some (.bor o)) → ρ'[j]? = some (some (.bor o)) ∧ σ3[j]? ≠ some (some (V.ref L)) := fun j o e => by
            rcases cel3 j _ e with ⟨_, z⟩ | ⟨z, n⟩
            · cases z
            · exact ⟨z, by rw [out3 j n]; exact borN j o z⟩
          -- the end of a turn
          have fin : ∀ {ρ5 : Env'} {H5 : Hp} {acc5 : List D} {accV5 : List V}, ES σ3 ρ3 H2 ρ5 H5 → SR K τ H5 (fun x => Φ x ∨ x = L) σ3 ρ5 → H5 L = some (.lst accV) →
              DVs K H5 (Nn (fun x => Φ x ∨ x = L) σ3 ρ5) acc5 accV5 → lcGo vs asg t f (xs.drop (i + 1)) acc5 (wipeC ρ5 vs) = Z →
              ∃ ρ2 acc2 accV2, ES (wipe σ vs) (wipeC ρ vs) H1 ρ2 (upd H5 L (.lst accV5)) ∧ SR K τ (upd H5 L (.lst accV5)) (fun x => Φ x ∨ x = L) (wipe σ vs) ρ2 ∧ (upd H5 L (.lst accV5)) L = some (.lst accV2) ∧ DVs K (upd H5 L (.lst accV5)) (Nn (fun x => Φ x ∨ x = L) (wipe σ vs) ρ2) acc2 accV2 ∧ lcGo vs asg t f (xs.drop (i + 1)) acc2 ρ2 = Z :=
            fun {ρ5 H5 acc5 accV5} e5 sr5 l5 d5 k5 => by
              have b5 : ∀ (j : Nat) (o : O), ρ5[j]? = some (some (.bor o)) → σ3[j]? ≠ some (some (V.ref L)) := fun j o e => by
                obtain ⟨u, e'⟩ := e5.bor j o e
                exact (bor3 j u e').2
              have sr6 := (sr5.updX (o := .lst accV5) (.inr rfl) l5 nc_lst b5).wipe (vs := vs)
              rw [weq] at sr6
              have ow : ∀ a, Own (wipe σ vs) (wipeC ρ5 vs) a → Own σ3 ρ5 a := fun a z => by
                rw [← weq] at z
                exact own_wipe z
              refine ⟨wipeC ρ5 vs, acc5, accV5, ⟨fun b o e n t => ?_, fun a e => ?_, fun a z => est.own a (own3 a (e5.own a (ow a z))), fun j o e => ?_⟩, sr6, upd_same, DVs.keep (N := Nn (fun x => Φ x ∨ x = L) σ3 ρ5) (fun b o e n _ => ?_) (fun a z => .inl (z.imp id (ow a))) acc5 accV5 d5, k5⟩
              · rw [upd_ne (ne_of_none e hL)]
                refine e5.keep b o (gr.es (σ := wipe σ vs) (ρ := ρ') |>.keep b o (est.keep b o e n t) (fun z => n (est.own b z)) t) (fun z => n (est.own b (own3 b z))) t
              · unfold upd
                split
                · intro z; cases z
                · exact e5.trk a (gr.es (σ := wipe σ vs) (ρ := ρ') |>.trk a (est.trk a e))
              · obtain ⟨e, _⟩ := wipeC_some e
                obtain ⟨u, e'⟩ := e5.bor j o e
                exact est.bor j u (bor3 j u e').1
              · rw [upd_ne fun z => n (.inl (.inr z))]
                exact e
          have dacc2 : DVs K H2 (Nn (fun x => Φ x ∨ x = L) σ3 ρ3) acc accV := st3.dvs (gr.es.stp (io := []) |>.dvs dacc)
          have hacc2 : H2 L = some (.lst accV) := gr.es (σ := wipe σ vs) (ρ := ρ') |>.keep L _ hacc (fun z => by
            obtain ⟨j, o, e1, e2⟩ := z
            obtain ⟨v, e3, a, ev, n, _⟩ := sr'.cell j _ e1
            rw [e2] at e3
            cases e3
            cases ev
            exact n (.inr rfl)) nt_lst
          have keepL : ∀ {ρ5 H5 H6}, SR K τ H5 (fun x => Φ x ∨ x = L) σ3 ρ5 → ES σ3 ρ5 H5 ρ3 H6 ∨ True → ¬ Own σ3 ρ5 L := fun {ρ5 H5 H6} s5 _ z => by
            obtain ⟨j, o, e1, e2⟩ := z
            obtain ⟨v, e3, a, ev, n, _⟩ := s5.cell j _ e1
            rw [e2] at e3
            cases e3
            cases ev
            exact n (.inr rfl)
          cases et : t ρ3 with
          | bad => rw [et] at hk; dsimp only at hk; rw [← hk] at h; exact h.elim
          | er x ρ4 => rw [et] at hk; dsimp only at hk; rw [← hk] at h; exact h.elim
          | ok b ρ4 =>
            rw [et] at hk
            intro H4 s4 sr4
            have hacc4 : H4 L = some (.lst accV) := s4.keep L _ hacc2 (keepL (H6 := H4) sr3 (.inr trivial)) nt_lst
            cases b with
            | false =>
              dsimp only at hk
              refine (if_neg Bool.false_ne_true).mpr ?_
              have e := fin s4 sr4 hacc4 ((s4.stp (io := [])).dvs dacc2) hk
              have hu : upd H4 L (.lst accV) = H4 := by
                funext a
                by_cases z : a = L
                · rw [z, upd_same, hacc4]
                · rw [upd_ne z]
              rw [hu] at e
              exact e
            | true =>
              dsimp only at hk
              refine (if_pos rfl).mpr ⟨_, ρ4, sr4, ?_⟩
              cases ef : f ρ4 with
              | bad => rw [ef] at hk; dsimp only at hk; rw [← hk] at h; exact h.elim
              | er x ρ5 => rw [ef] at hk; dsimp only at hk; rw [← hk] at h; exact h.elim
              | ok r ρ5 =>
                rw [ef] at hk
                dsimp only at hk
                intro y H5 s5 sr5 rv
                cases eti : toI r ρ5 with
                | bad => rw [eti] at hk; dsimp only at hk; rw [← hk] at h; exact h.elim
                | er x ρ6 => exact absurd eti toI_ner
                | ok dd ρ6 =>
                  rw [eti] at hk
                  dsimp only at hk
                  obtain ⟨s6, sr6, dv6⟩ := toI_ok rv.w sr5 eti
                  have s46 := s4.trans (s5.trans s6)
                  have hacc5 : H5 L = some (.lst accV) := s5.keep L _ hacc4 (keepL (H6 := H4) sr4 (.inr trivial)) nt_lst
                  have dacc6 := (s46.stp (io := [])).dvs dacc2
                  split at hk
                  · rename_i hz
                    have hz := szB_ok hz
                    refine ⟨accV, hacc5, by rw [dacc.length]; omega, ?_⟩
                    exact fin s46 sr6 hacc5 (dacc6.append (DVs.cons dv6 DVs.nil)) hk
                  · rw [← hk] at h; exact h.elim
      · have e : i = xs.length := by omega
        subst e
        rw [List.drop_length] at hk
        have hk : Z = .ok acc ρ' := hk.symm
        rw [hk] at h
        refine .inl ⟨stop, ?_⟩
        have ownR : ∀ a, Own σ (rsC ρ ρ' vs) a → Own (wipe σ vs) ρ' a := fun a ⟨j, o, e1, e2⟩ => by
          by_cases hj : j ∈ vs
          · obtain ⟨d, z⟩ := vsOk_imm vok hj (rsC_in hj e1)
            cases z
          · rw [rsC_out hj] at e1
            exact ⟨j, o, e1, by rw [wipe_out hj]; exact e2⟩
        have esR : ES σ ρ H1 (rsC ρ ρ' vs) H' := ⟨fun b o e n t => est.keep b o e (fun z => n (own_wipe z)) t, est.trk, fun a z => ownN a (ownR a z), fun j o e => by
          by_cases hj : j ∈ vs
          · exact ⟨o, rsC_in hj e⟩
          · rw [rsC_out hj] at e
            obtain ⟨u, e'⟩ := est.bor j o e
            exact ⟨u, (wipeC_some e').1⟩⟩
        have srx : SR K τ H' (fun x => Φ x ∨ x = L) σ (rsC ρ ρ' vs) := by
          refine ⟨by rw [rsC_length, sr'.len, wipe_length], fun j c e => ?_, fun j k o u a e1 e2 e3 e4 => ?_, sr'.lv, sr'.tab⟩
          · by_cases hj : j ∈ vs
            · obtain ⟨d, rfl⟩ := vsOk_imm vok hj (rsC_in hj e)
              obtain ⟨v, e1, dv⟩ := sr.cell j _ (rsC_in hj e)
              refine ⟨v, e1, DV.keep (N := Nn Φ σ ρ) (esR.stp (io := [])).keepN (fun a z => ?_) d v dv⟩
              · rcases z with (z | z) | z
                · exact .inl (.inl z)
                · exact .inr (by rw [z]; exact hL)
                · exact .inl (.inr (esR.own a z))
            · rw [rsC_out hj] at e
              obtain ⟨v, e1, q⟩ := sr'.fewer (N' := Nn (fun x => Φ x ∨ x = L) σ (rsC ρ ρ' vs)) (fun a z => z.imp id (ownR a)) e
              exact ⟨v, by rw [← wipe_out hj]; exact e1, q⟩
          · have up : ∀ {j : Nat} {o : O}, (rsC ρ ρ' vs)[j]? = some (some (.own o)) → j ∉ vs ∧ ρ'[j]? = some (some (.own o)) := fun {j o} e => by
              by_cases hj : j ∈ vs
              · obtain ⟨d, z⟩ := vsOk_imm vok hj (rsC_in hj e)
                cases z
              · exact ⟨hj, by rw [rsC_out hj] at e; exact e⟩
            obtain ⟨n1, q1⟩ := up e1
            obtain ⟨n2, q2⟩ := up e2
            exact sr'.inj j k o u a q1 q2 (by rw [wipe_out n1]; exact e3) (by rw [wipe_out n2]; exact e4)
        have srr : SR K τ H' Φ σ (rsC ρ ρ' vs) := srx.drop fun j o e => by
          obtain ⟨u, e'⟩ := esR.bor j o e
          exact bor0 j u e'
        have dv : DVs K H' (fun x => Nn Φ σ (rsC ρ ρ' vs) x ∨ x = L) acc accV := DVs.keep (N := Nn (fun x => Φ x ∨ x = L) (wipe σ vs) ρ') (fun _ _ e _ _ => e) (fun a z => .inl (by
          rcases z with (z | z) | z
          · exact .inl (.inl z)
          · exact .inr (ownR a z)
          · exact .inl (.inr z))) acc accV dacc
        refine h (.ref L) H' esR srr ⟨L, rfl, hL, fun z => ?_, srx, accV, hacc, dv⟩
        rcases z with z | z
        · exact sr.live L z hL
        · exact sr.ownLive (esR.own L z) hL
    · exact h.elim
end
section
variable {X : Cx} {W : WX} {elt tg iter : Expr} {ifs : List Expr} {scope : Scope} {own : List (Str × Nat)} {pos : Pos} {ts io : List Nat} {g : M (List D)} {asg : Asg} {t : M Bool} {f : M R}
theorem d_pts0 {X : Cx} {K : PySem.W.Frag} : PTs X [] (tT K τ W0 (mr true)) := ⟨fun pins s σ H Q I ⟨Φ, ρ, sr, q⟩ => pts_nil.run pins s σ H Q I (q H ES.refl sr)⟩
theorem d_lc (hc : X.calm = true) (hN : X.N.Nodup) (hi : PI X tg iter (tI X.K τ W g)) (ok : blkC X.N X.env.scope scope own = true)
    (hg : ∀ (s : Shared) (H : Hp) (C : Addr) (cl : List (Str × Addr)) (fp : List Addr), PG (X.blk s H scope (compEnvC scope cl C X.env) fp) tg (tG X.K τ io ts asg)) (ht : ∀ (s : Shared) (H : Hp) (C : Addr) (cl : List (Str × Addr)) (fp : List Addr), PTs (X.blk s H scope (compEnvC scope cl C X.env) fp) ifs (tT X.K τ W0 t))
    (he : ∀ (s : Shared) (H : Hp) (C : Addr) (cl : List (Str × Addr)) (fp : List Addr), PE (X.blk s H scope (compEnvC scope cl C X.env) fp) elt (tD X.K τ W0 f)) (hv : ∀ j ∈ ts, j ∈ own.map (·.2)) (hs : ∀ x, foldedSetIterable iter X.env x = pure x := by intro _; rfl) :
    PE X (.ListComp elt [⟨tg, iter, ifs, 0⟩] scope pos) (tD X.K τ W (xLc (own.map (·.2)) g asg t f)) := PE.weak (pe_lc hc hN hi (blkOk_by ok) hg ht he hs) fun σ H Q q => lc_w hv q
theorem s_setLc (i : Nat) {y : Str} {py spos : Pos} {io' : List Nat} (hi' : i ∉ io') (hc : X.calm = true) (hN : X.N.Nodup) (hy : X.N[i]? = some y) (hyl : X.env.scope.names.lookup y = some .local)
    (hsw : swapsWith (.ListComp elt [⟨tg, iter, ifs, 0⟩] scope pos) (some (.Name y py)) spos.line X.env = pure true) (hi : PI X tg iter (tI X.K τ W g)) (ok : blkC X.N X.env.scope scope own = true)
    (hg : ∀ (s : Shared) (H : Hp) (C : Addr) (cl : List (Str × Addr)) (fp : List Addr), PG (X.blk s H scope (compEnvC scope cl C X.env) fp) tg (tG X.K τ io ts asg)) (ht : ∀ (s : Shared) (H : Hp) (C : Addr) (cl : List (Str × Addr)) (fp : List Addr), PTs (X.blk s H scope (compEnvC scope cl C X.env) fp) ifs (tT X.K τ W0 t))
    (he : ∀ (s : Shared) (H : Hp) (C : Addr) (cl : List (Str × Addr)) (fp : List Addr), PE (X.blk s H scope (compEnvC scope cl C X.env) fp) elt (tD X.K τ W0 f)) (hv : ∀ j ∈ ts, j ∈ own.map (·.2)) (hs : ∀ x, foldedSetIterable iter X.env x = pure x := by intro _; rfl) :
    PS X (.Assign [.Name y py] (.ListComp elt [⟨tg, iter, ifs, 0⟩] scope pos) spos) (tS X.K τ W io' (sSet i (xLc (own.map (·.2)) g asg t f))) :=
  PS.weak (ps_setLc hc hN hy hyl hsw hi (blkOk_by ok) hg ht he hs) fun D σ H q => lc_w hv (set_w hi' q)
theorem s_ownLc (i : Nat) {y : Str} {py spos : Pos} {io' : List Nat} (hi' : i ∉ io') (hc : X.calm = true) (hN : X.N.Nodup) (hy : X.N[i]? = some y) (hyl : X.env.scope.names.lookup y = some .local)
    (hsw : swapsWith (.ListComp elt [⟨tg, iter, ifs, 0⟩] scope pos) (some (.Name y py)) spos.line X.env = pure true) (hi : PI X tg iter (tI X.K τ W g)) (ok : blkC X.N X.env.scope scope own = true)
    (hg : ∀ (s : Shared) (H : Hp) (C : Addr) (cl : List (Str × Addr)) (fp : List Addr), PG (X.blk s H scope (compEnvC scope cl C X.env) fp) tg (tG X.K τ io ts asg)) (ht : ∀ (s : Shared) (H : Hp) (C : Addr) (cl : List (Str × Addr)) (fp : List Addr), PTs (X.blk s H scope (compEnvC scope cl C X.env) fp) ifs (tT X.K τ W0 t))
    (he : ∀ (s : Shared) (H : Hp) (C : Addr) (cl : List (Str × Addr)) (fp : List Addr), PE (X.blk s H scope (compEnvC scope cl C X.env) fp) elt (tD X.K τ W0 f)) (hv : ∀ j ∈ ts, j ∈ own.map (·.2)) (hs : ∀ x, foldedSetIterable iter X.env x = pure x := by intro _; rfl) :
    PS X (.Assign [.Name y py] (.ListComp elt [⟨tg, iter, ifs, 0⟩] scope pos) spos) (tS X.K τ W io' (sOwn i (xLc (own.map (·.2)) g asg t f))) :=
  PS.weak (ps_setLc hc hN hy hyl hsw hi (blkOk_by ok) hg ht he hs) fun D σ H q => lc_w hv (own_w hi' q)
end
end DL

/-! ## DF -/
set_option Elab.async false
set_option linter.all false
set_option maxRecDepth 100000
set_option maxHeartbeats 4000000
/-! DF: defs: what they do to data, their calls. -/
namespace DL
open PySem L2 PySem.Spec
open PyProof.Rows (envOfC)
/-- what a def does: its result, then the contents of the objects it was given to change -/
inductive FO where
  | ok (r : R) (os : List O) | er (x : Ex) (os : List O) | bad
/-- how an argument is taken: as data, lent, to be changed -/
inductive Md where
  | d | b | x
deriving DecidableEq
def rdO : List Md → Env' → Option (List O)
  | [], _ => some []
  | .x :: ms, ρ => match ρ with
    | some (.own o) :: ρ => (rdO ms ρ).map (o :: ·)
    | _ => none
  | .d :: ms, ρ => match ρ with
    | _ :: ρ => rdO ms ρ
    | [] => none
  | .b :: ms, ρ => match ρ with
    | _ :: ρ => rdO ms ρ
    | [] => none
def ioC : List Md → List O → Env'
  | [], _ => []
  | .x :: ms, os => match os with
    | o :: os => some (.own o) :: ioC ms os
    | [] => none :: ioC ms []
  | .d :: ms, os => none :: ioC ms os
  | .b :: ms, os => none :: ioC ms os
def outF (ms : List Md) : SO → FO
  | .ret r ρ => match r with
    | .slot _ => .bad
    | r => match rdO ms ρ with
      | some os => .ok r os
      | none => .bad
  | .next ρ => match rdO ms ρ with
    | some os => .ok (.imm .non) os
    | none => .bad
  | .er x ρ => match rdO ms ρ with
    | some os => .er x os
    | none => .bad
  | _ => .bad
def GoodF (K : PySem.W.Frag) (τ : Tb) (ms : List Md) (Φ : Addr → Prop) (vs : List V) (cs : List Cell) (H : Hp) (Q : VK) (E : XK) : FO → Prop
  | .ok r os => ∀ v H', Keep (Own (vs.map some) (cs.map some)) H H' → (∀ a, H a ≠ none → H' a ≠ none) → SR K τ H' Φ (vs.map some) (ioC ms os) → RVp K τ H H' Φ (vs.map some) (ioC ms os) r v → Q v H'
  | .er x os => ∀ cls dd H', Keep (Own (vs.map some) (cs.map some)) H H' → (∀ a, H a ≠ none → H' a ≠ none) → SR K τ H' Φ (vs.map some) (ioC ms os) → XV K H' (Nn Φ (vs.map some) (ioC ms os)) x cls dd → E cls dd H'
  | .bad => False
def spD (K : PySem.W.Frag) (τ : Tb) (ms : List Md) (F : List Cell → FO) : Sp := fun vs H Q E => vs.length = ms.length ∧ ∃ Φ cs, cs.length = ms.length ∧ SR K τ H Φ (vs.map some) (cs.map some) ∧ GoodF K τ ms Φ vs cs H Q E (F cs)
/-- a def that stands at f, with its promise -/
def FnG (P : Program) (w : World) (K : PySem.W.Frag) (mg : Str → Option Value) (base : Heap) (k : Nat) (f : Addr) (sp : Sp) : Prop :=
  ∀ (A : Around) (outer : List Env) (s : Shared) (H : Hp) (us : List Value) (vs : List V) (Q : VK) (E : XK), Room k A → A.guards = some [] → Env0 P w K mg base A outer s H → Vals vs us → sp vs H Q E →
    codeAny (model P w) A (.call (.ref f) ⟨us, []⟩) (CR (L2.CX P w) outer P w H s Q E) s
/-- the code object of the def at f -/
def CodeOf (K : PySem.W.Frag) (f : Addr) (cdv : Value) (qual : Str) : Prop := ∃ (oc : Value) (od : Option Addr) (fd : FuncData) (osl : Array (Option Value)), K.lookup f = some ⟨oc, od, .func fd, osl⟩ ∧ fd.code = cdv ∧ PySem.W.codeIn K cdv qual = true
abbrev wE (E : XK) : WX := fun cls d _ H => E cls d H
theorem ioC_length : ∀ (ms : List Md) (os : List O), (ioC ms os).length = ms.length
  | [], os => rfl
  | .x :: ms, o :: os => congrArg (· + 1) (ioC_length ms os)
  | .x :: ms, [] => congrArg (· + 1) (ioC_length ms [])
  | .d :: ms, os => congrArg (· + 1) (ioC_length ms os)
  | .b :: ms, os => congrArg (· + 1) (ioC_length ms os)
theorem XV.keep {K : PySem.W.Frag} {H H' : Hp} {N N' : Addr → Prop} {x : Ex} {cls : Value} {dd : Option Addr} (h : XV K H N x cls dd) (k : Keep N H H') (f : Fewer H N N') : XV K H' N' x cls dd :=
  let ⟨e, vs, q, l, dv⟩ := h
  ⟨e, vs, q.keep k f, l, DVs.keep k f _ _ dv⟩
theorem XV.less {K : PySem.W.Frag} {H : Hp} {N N' : Addr → Prop} {x : Ex} {cls : Value} {dd : Option Addr} (h : XV K H N x cls dd) (f : ∀ a, N' a → N a) : XV K H N' x cls dd := h.keep (fun _ _ e _ _ => e) fun a z => .inl (f a z)
theorem rdO_ioC : ∀ {ms : List Md} {ρ : Env'} {os : List O} {j : Nat} {c : Cell}, rdO ms ρ = some os → (ioC ms os)[j]? = some (some c) → ∃ o, c = .own o ∧ ρ[j]? = some (some (.own o)) ∧ ms[j]? = some Md.x
  | [], ρ, os, j, c, h, e => by unfold ioC at e; simp at e
  | .x :: ms, [], os, j, c, h, e => by simp [rdO] at h
  | .x :: ms, none :: ρ, os, j, c, h, e => by simp [rdO] at h
  | .x :: ms, some (.imm _) :: ρ, os, j, c, h, e => by simp [rdO] at h
  | .x :: ms, some (.bor _) :: ρ, os, j, c, h, e => by simp [rdO] at h
  | .x :: ms, some (.own o) :: ρ, os, j, c, h, e => by
    have h : (rdO ms ρ).map (o :: ·) = some os := h
    obtain ⟨os', h1, h2⟩ := Option.map_eq_some_iff.mp h
    subst h2
    have e : (some (Cell.own o) :: ioC ms os')[j]? = some (some c) := e
    cases j with
    | zero =>
      simp only [List.getElem?_cons_zero] at e ⊢
      have e := Option.some.inj (Option.some.inj e)
      exact ⟨o, e.symm, rfl, trivial⟩
    | succ j =>
      rw [List.getElem?_cons_succ] at e ⊢
      exact rdO_ioC h1 e
  | .d :: ms, [], os, j, c, h, e => by simp [rdO] at h
  | .b :: ms, [], os, j, c, h, e => by simp [rdO] at h
  | .d :: ms, x :: ρ, os, j, c, h, e => by
    have h : rdO ms ρ = some os := h
    have e : (none :: ioC ms os)[j]? = some (some c) := e
    cases j with
    | zero => simp at e
    | succ j => rw [List.getElem?_cons_succ] at e ⊢; exact rdO_ioC h e
  | .b :: ms, x :: ρ, os, j, c, h, e => by
    have h : rdO ms ρ = some os := h
    have e : (none :: ioC ms os)[j]? = some (some c) := e
    cases j with
    | zero => simp at e
    | succ j => rw [List.getElem?_cons_succ] at e ⊢; exact rdO_ioC h e
def ioOf (ms : List Md) : List Nat := (List.range ms.length).filter fun i => ms[i]? == some Md.x
theorem mem_ioOf {ms : List Md} {j : Nat} (h : ms[j]? = some Md.x) : j ∈ ioOf ms := by
  unfold ioOf
  rw [List.mem_filter]
  exact ⟨by rw [List.mem_range]; exact (List.getElem?_eq_some_iff.mp h).1, by rw [h]; rfl⟩
section
variable {K : PySem.W.Frag} {H H' : Hp} {Φ : Addr → Prop} {σ σ' : L2.St} {ρ ρ' : Env'} {ms : List Md} {os : List O} {vs : List V} {cs : List Cell}
theorem SR.sub {σ2 : L2.St} {ρ2 : Env'} (h : SR K τ H Φ σ ρ) (hl : ρ2.length = σ2.length) (f : ∀ (j : Nat) (c : Cell), ρ2[j]? = some (some c) → ρ[j]? = some (some c) ∧ σ2[j]? = σ[j]?) : SR K τ H Φ σ2 ρ2 ∧ ∀ a, Own σ2 ρ2 a → Own σ ρ a := by
  have ow : ∀ a, Own σ2 ρ2 a → Own σ ρ a := fun a ⟨j, o, e1, e2⟩ => by
    obtain ⟨q1, q2⟩ := f j _ e1
    exact ⟨j, o, q1, q2 ▸ e2⟩
  refine ⟨⟨hl, fun i c e => ?_, fun i j o u a e1 e2 e3 e4 => ?_, h.lv, h.tab⟩, ow⟩
  · obtain ⟨q1, q2⟩ := f i c e
    obtain ⟨v, e1, q⟩ := h.fewer (N' := Nn Φ σ2 ρ2) (fun a z => z.imp id (ow a)) q1
    exact ⟨v, q2.trans e1, q⟩
  · obtain ⟨q1, q2⟩ := f i _ e1
    obtain ⟨q3, q4⟩ := f j _ e2
    exact h.inj i j o u a q1 q3 (q2 ▸ e3) (q4 ▸ e4)
theorem SR.pad (h : SR K τ H Φ σ ρ) (n : Nat) : SR K τ H Φ (σ ++ List.replicate n none) (ρ ++ List.replicate n none) ∧ ∀ a, Own (σ ++ List.replicate n none) (ρ ++ List.replicate n none) a ↔ Own σ ρ a := by
  have up : ∀ {j : Nat} {c : Cell}, (ρ ++ List.replicate n none)[j]? = some (some c) → ρ[j]? = some (some c) ∧ (σ ++ List.replicate n none)[j]? = σ[j]? := fun {j c} e => by
    by_cases hj : j < ρ.length
    · rw [List.getElem?_append_left hj] at e
      exact ⟨e, List.getElem?_append_left (by rw [← h.len]; exact hj)⟩
    · rw [List.getElem?_append_right (by omega), List.getElem?_replicate] at e
      split at e <;> cases e
  have ow : ∀ a, Own (σ ++ List.replicate n none) (ρ ++ List.replicate n none) a → Own σ ρ a := fun a ⟨j, o, e1, e2⟩ => by
    obtain ⟨q1, q2⟩ := up e1
    exact ⟨j, o, q1, q2 ▸ e2⟩
  refine ⟨⟨by rw [List.length_append, List.length_append, h.len, List.length_replicate, List.length_replicate], fun i c e => ?_, fun i j o u a e1 e2 e3 e4 => ?_, h.lv, h.tab⟩, fun a => ⟨ow a, fun ⟨j, o, e1, e2⟩ => ?_⟩⟩
  · obtain ⟨q1, q2⟩ := up e
    obtain ⟨v, e1, q⟩ := h.fewer (N' := Nn Φ (σ ++ List.replicate n none) (ρ ++ List.replicate n none)) (fun a z => z.imp id (ow a)) q1
    exact ⟨v, q2.trans e1, q⟩
  · obtain ⟨q1, q2⟩ := up e1
    obtain ⟨q3, q4⟩ := up e2
    exact h.inj i j o u a q1 q3 (q2 ▸ e3) (q4 ▸ e4)
  · have h1 := (List.getElem?_eq_some_iff.mp e1).1
    have h2 := (List.getElem?_eq_some_iff.mp e2).1
    exact ⟨j, o, by rw [List.getElem?_append_left h1]; exact e1, by rw [List.getElem?_append_left h2]; exact e2⟩
/-- data behind the arguments -/
theorem SR.dfl {dds : List D} {dvs : List V} (h : SR K τ H Φ (vs.map some) (cs.map some)) (hd : DVs K H (Nn Φ (vs.map some) (cs.map some)) dds dvs) :
    SR K τ H Φ ((vs ++ dvs).map some) ((cs ++ dds.map Cell.imm).map some) ∧ ∀ a, Own ((vs ++ dvs).map some) ((cs ++ dds.map Cell.imm).map some) a ↔ Own (vs.map some) (cs.map some) a := by
  have hl : cs.length = vs.length := by have := h.len; simpa using this
  have ow : ∀ a, Own ((vs ++ dvs).map some) ((cs ++ dds.map Cell.imm).map some) a → Own (vs.map some) (cs.map some) a := fun a ⟨j, o, e1, e2⟩ => by
    rw [List.map_append] at e1 e2
    by_cases hj : j < (cs.map some).length
    · rw [List.getElem?_append_left hj] at e1
      rw [List.getElem?_append_left (by simpa [← hl] using hj)] at e2
      exact ⟨j, o, e1, e2⟩
    · rw [List.getElem?_append_right (by omega), List.map_map, List.getElem?_map] at e1
      cases q : dds[j - (cs.map some).length]? with
      | none => rw [q] at e1; cases e1
      | some d => rw [q] at e1; cases e1
  have ow2 : ∀ a, Own (vs.map some) (cs.map some) a → Own ((vs ++ dvs).map some) ((cs ++ dds.map Cell.imm).map some) a := fun a ⟨j, o, e1, e2⟩ => by
    have h1 := (List.getElem?_eq_some_iff.mp e1).1
    have h2 := (List.getElem?_eq_some_iff.mp e2).1
    exact ⟨j, o, by rw [List.map_append, List.getElem?_append_left h1]; exact e1, by rw [List.map_append, List.getElem?_append_left h2]; exact e2⟩
  have up : ∀ {j : Nat} {c : Cell}, ((cs ++ dds.map Cell.imm).map some)[j]? = some (some c) → ((cs.map some)[j]? = some (some c) ∧ ((vs ++ dvs).map some)[j]? = (vs.map some)[j]?) ∨ ∃ d v, c = .imm d ∧ ((vs ++ dvs).map some)[j]? = some (some v) ∧ DV K H (Nn Φ (vs.map some) (cs.map some)) d v := fun {j c} e => by
    rw [List.map_append] at e ⊢
    by_cases hj : j < (cs.map some).length
    · rw [List.getElem?_append_left hj] at e
      exact .inl ⟨e, List.getElem?_append_left (by simpa [← hl] using hj)⟩
    · rw [List.getElem?_append_right (by omega), List.map_map, List.getElem?_map] at e
      cases q : dds[j - (cs.map some).length]? with
      | none => rw [q] at e; cases e
      | some d =>
        rw [q] at e
        obtain ⟨v, q1, q2⟩ := hd.getD' q
        refine .inr ⟨d, v, (Option.some.inj (Option.some.inj e)).symm, ?_, q2⟩
        rw [List.getElem?_append_right (by simp at hj ⊢; omega), List.getElem?_map]
        have e3 : j - (vs.map some).length = j - (cs.map some).length := by simp [hl]
        rw [e3, q1]
        rfl
  refine ⟨⟨?_, fun i c e => ?_, fun i j o u a e1 e2 e3 e4 => ?_, h.lv, h.tab⟩, fun a => ⟨ow a, ow2 a⟩⟩
  · have := hd.length
    simp [hl, this]
  · rcases up e with ⟨q1, q2⟩ | ⟨d, v, ec, ev, dv⟩
    · obtain ⟨v, e1, q⟩ := h.fewer (N' := Nn Φ ((vs ++ dvs).map some) ((cs ++ dds.map Cell.imm).map some)) (fun a z => z.imp id (ow a)) q1
      exact ⟨v, q2.trans e1, q⟩
    · subst ec
      exact ⟨v, ev, DV.keep (N := Nn Φ (vs.map some) (cs.map some)) (fun _ _ e _ _ => e) (fun a z => .inl (z.imp id (ow a))) d v dv⟩
  · rcases up e1 with ⟨q1, q2⟩ | ⟨d, v, z, _⟩
    · rcases up e2 with ⟨q3, q4⟩ | ⟨d, v, z, _⟩
      · exact h.inj i j o u a q1 q3 (q2 ▸ e3) (q4 ▸ e4)
      · cases z
    · cases z
end
section
variable {P : Program} {w : World} {K : PySem.W.Frag} {mg : Str → Option Value} {base : Heap} {k : Nat} {f : Addr} {fd : FuncData} {x qual : Str} {params : Arguments} {body : List Stmt} {scope : Scope} {dv : List V} {kws : List (Str × V)} {N ps : List Str}
/-- what the body's reading is to give, from the def's promise -/
theorem body_w {ms : List Md} {m : MS} {Φ : Addr → Prop} {vs : List V} {cs : List Cell} {dds : List D} {dvs : List V} {H : Hp} {Q : VK} {E : XK} {n : Nat} (hl : vs.length = ms.length) (hl2 : cs.length = ms.length) (sr : SR K τ H Φ (vs.map some) (cs.map some))
    (hd : ∀ H N, DVs K H N dds dvs) (h : GoodF K τ ms Φ vs cs H Q E (outF ms (m ((cs ++ dds.map Cell.imm).map some ++ List.replicate n none)))) :
    tS K τ (wE E) (ioOf ms) m { nx := fun _ H' => Q .non H', rt := Q } ((vs ++ dvs).map some ++ List.replicate n none) H := by
  obtain ⟨sr1, ow1⟩ := sr.dfl (dds := dds) (dvs := dvs) (hd _ _)
  obtain ⟨sr2, ow2⟩ := sr1.pad n
  refine ⟨Φ, _, sr2, ?_⟩
  generalize hm : m ((cs ++ dds.map Cell.imm).map some ++ List.replicate n none) = o at h
  have low : ∀ j, j < ms.length → ((vs ++ dvs).map some ++ List.replicate n none)[j]? = (vs.map some)[j]? := fun j hj => by
    rw [List.map_append, List.append_assoc, List.getElem?_append_left (by simp; omega)]
  have key : ∀ {ρ' : Env'} {os : List O} {Φ' : Addr → Prop} {σ' : L2.St} {H' : Hp}, rdO ms ρ' = some os → Stp (ioOf ms) ((vs ++ dvs).map some ++ List.replicate n none) ((cs ++ dds.map Cell.imm).map some ++ List.replicate n none) H σ' ρ' H' → SR K τ H' Φ' σ' ρ' →
      SR K τ H' Φ' (vs.map some) (ioC ms os) ∧ ∀ a, Own (vs.map some) (ioC ms os) a → Own σ' ρ' a := fun {ρ' os Φ' σ' H'} e st s' => by
    refine s'.sub (by rw [ioC_length]; simp [hl]) fun j c ec => ?_
    obtain ⟨o, e1, e2, e3⟩ := rdO_ioC e ec
    subst e1
    exact ⟨e2, ((st.pin j (mem_ioOf e3)).trans (low j (List.getElem?_eq_some_iff.mp e3).1)).symm⟩
  have kp : ∀ {H'} , Keep (Own ((vs ++ dvs).map some ++ List.replicate n none) ((cs ++ dds.map Cell.imm).map some ++ List.replicate n none)) H H' → Keep (Own (vs.map some) (cs.map some)) H H' := fun {H'} q b o e n' t => q b o e (fun z => n' ((ow1 b).mp ((ow2 b).mp z))) t
  cases o with
  | next ρ' =>
    intro σ' H' st s'
    unfold outF at h
    dsimp only at h
    cases e : rdO ms ρ' with
    | none => rw [e] at h; exact h.elim
    | some os =>
      rw [e] at h
      obtain ⟨s3, ow3⟩ := key e st s'
      exact h .non H' (kp st.keep) st.trk s3 (by show DV _ _ _ _ _; simp only [DV])
  | ret r ρ' =>
    intro v σ' H' st s' rv
    cases r with
    | slot i => exact h.elim
    | imm d =>
      unfold outF at h
      dsimp only at h
      cases e : rdO ms ρ' with
      | none => rw [e] at h; exact h.elim
      | some os =>
        rw [e] at h
        obtain ⟨s3, ow3⟩ := key e st s'
        exact h v H' (kp st.keep) st.trk s3 (DV.keep (N := Nn Φ σ' ρ') (fun _ _ e _ _ => e) (fun a z => .inl (z.imp id (ow3 a))) d v rv)
    | new o =>
      unfold outF at h
      dsimp only at h
      cases e : rdO ms ρ' with
      | none => rw [e] at h; exact h.elim
      | some os =>
        rw [e] at h
        obtain ⟨s3, ow3⟩ := key e st s'
        obtain ⟨a, ev, hn, hna, sx, ov⟩ := rv
        obtain ⟨s4, _⟩ := key e st sx
        exact h v H' (kp st.keep) st.trk s3 ⟨a, ev, hn, fun z => hna (z.imp id (ow3 a)), s4, ov.less fun b z => z.imp (fun z => z.imp id (ow3 b)) id⟩
  | brk ρ' => exact h.elim
  | cnt ρ' => exact h.elim
  | er x ρ' =>
    intro cls dd σ' H' st s' xv
    unfold outF at h
    dsimp only at h
    cases e : rdO ms ρ' with
    | none => rw [e] at h; exact h.elim
    | some os =>
      rw [e] at h
      obtain ⟨s3, ow3⟩ := key e st s'
      exact h cls dd H' (kp st.keep) st.trk s3 (xv.less fun a z => z.imp id (ow3 a))
  | bad => exact h.elim
theorem start_eq {N : List Str} {vs : List V} {n : Nat} (h : N.length - vs.length = n): L2.start N vs = vs.map some ++ List.replicate n none := by
  unfold L2.start
  rw [h]
theorem fnG_plain (ms : List Md) (dds : List D) {m : MS} {n : Nat} {dvs : List V} {ds : List Value} (F : FunD K x qual params body scope dv kws f fd) (S : FnScope N ps scope) (b : Binds K fd ps ds) (hv : Vals dvs ds) (hd : ∀ H N, DVs K H N dds dvs)
    (hl : ms.length + dds.length = ps.length) (hn : N.length - ps.length = n)
    (hbody : ∀ (cdv : Value) (A : Around) (outer : List Env) (s : Shared) (H : Hp) (E : XK), Room k (A.deeper (envOfC qual scope s.heap.objs.size f cdv)) → A.guards = some [] → CodeOf K f cdv qual →
      Takes (cxOf (L2.CX P w) P w K mg base N qual scope f cdv A outer s H E) (wE E) → PassesOwn (model P w) (A.deeper (envOfC qual scope s.heap.objs.size f cdv)) (envOfC qual scope s.heap.objs.size f cdv) (cxOf (L2.CX P w) P w K mg base N qual scope f cdv A outer s H E).xe →
      PSs (cxOf (L2.CX P w) P w K mg base N qual scope f cdv A outer s H E) body (tS K τ (wE E) (ioOf ms) m)) :
    FnG P w K mg base (k + 1) f (spD K τ ms fun cs => outF ms (m ((cs ++ dds.map Cell.imm).map some ++ List.replicate n none))) := by
  intro A outer s H us vs Q E hr hgd e0 r ⟨hl1, Φ, cs, hl2, sr, h⟩
  obtain ⟨oc, od, dV, kV, doc, pm, an, cdv, ct, osl, rfl, lk, hcd, _, _⟩ := F.ex
  have hdl : dvs.length = dds.length := (hd H fun _ => False).length
  have hul : us.length = ms.length := by rw [← r.length]; exact hl1
  have hlen : (us ++ ds).length = ps.length := by rw [List.length_append, hul, ← hv.length, hdl]; exact hl
  have KX : K.In s.heap := e0.mod.kin.keeps fun b o e => (e0.bs b o e).1
  refine StX.run_bnd (k := k) lk hcd S hr e0 (G := fun xs H2 => xs = vs ++ dvs ∧ H2 = H) (fun A' Ex Q' hq => ?_) fun s2 H2 xs ⟨ex, eH⟩ hr' => ?_
  · exact b s us KX hlen _ _ _ _ (hq s H (vs ++ dvs) (us ++ ds) e0 (Un.kept fun _ _ e => e) rfl (fun _ _ z => z) (r.append hv) (by rw [(r.append hv).length]; exact hlen) ⟨rfl, rfl⟩)
  · subst ex eH
    refine ⟨_, hbody cdv A outer s2 H2 E hr' hgd ⟨_, _, _, _, lk, rfl, hcd⟩ (takes_of rfl rfl rfl rfl) (passes_of rfl), ?_⟩
    rw [start_eq (n := n) (by rw [List.length_append, hdl, hl1, hl]; exact hn)]
    exact body_w hl1 hl2 sr hd h
end
end DL

/-! ## DG -/
set_option Elab.async false
set_option linter.all false
set_option maxRecDepth 100000
set_option maxHeartbeats 4000000
/-! DG: calls of defs. -/
namespace DL
open PySem L2 PySem.Spec
/-- the arguments as the def takes them: cells, the slots whose objects are changed, those whose objects are lent -/
def cellsOf : List Md → List R → Env' → Option (List Cell × List Nat × List Nat × Env')
  | [], [], ρ => some ([], [], [], ρ)
  | m :: ms, r :: rs, ρ => match m, r with
    | .x, .slot i => match cellsOf ms rs ρ with
      | some (cs, io, bo, ρ') => match ρ'[i]? with
        | some (some (.own o)) => if i ∈ io ∨ i ∈ bo then none else some (.own o :: cs, i :: io, bo, ρ')
        | _ => none
      | none => none
    | .b, .slot i => match cellsOf ms rs ρ with
      | some (cs, io, bo, ρ') => match ρ'[i]? with
        | some (some (.own o)) => if i ∈ io then none else some (.bor o :: cs, io, i :: bo, ρ')
        | some (some (.bor o)) => some (.bor o :: cs, io, bo, ρ')
        | some (some (.imm d)) => some (.imm d :: cs, io, bo, ρ')
        | _ => none
      | none => none
    | .x, _ => none
    | _, r => match toI r ρ with
      | .ok d ρ1 => match cellsOf ms rs ρ1 with
        | some (cs, io, bo, ρ') => some (.imm d :: cs, io, bo, ρ')
        | none => none
      | _ => none
  | _, _, _ => none
def backC : List Nat → List O → Env' → Env'
  | i :: is, o :: os, ρ => (backC is os ρ).set i (some (.own o))
  | _, _, ρ => ρ
def xFn (ms : List Md) (F : List Cell → FO) (ga : M (List R)) : M R := mb ga fun rs => fun ρ => match cellsOf ms rs ρ with
  | none => .bad
  | some (cs, io, _, ρ') => match F cs with
    | .ok r os => match r with
      | .slot _ => .bad
      | r => if os.length = io.length then .ok r (backC io os ρ') else .bad
    | .er x os => if os.length = io.length then .er x (backC io os ρ') else .bad
    | .bad => .bad
/-- what the arguments are -/
inductive ArgR (K : PySem.W.Frag) (H : Hp) (N : Addr → Prop) (σ : L2.St) (ρ : Env') : List Md → List Cell → List V → List Nat → List Nat → Prop where
  | nil : ArgR K H N σ ρ [] [] [] [] []
  | imm {m : Md} {ms : List Md} {d : D} {cs : List Cell} {v : V} {vs : List V} {io bo : List Nat} (hm : m ≠ .x) (h : DV K H N d v) (t : ArgR K H N σ ρ ms cs vs io bo) : ArgR K H N σ ρ (m :: ms) (.imm d :: cs) (v :: vs) io bo
  | own {ms : List Md} {o : O} {cs : List Cell} {v : V} {vs : List V} {io bo : List Nat} {i : Nat} (h1 : σ[i]? = some (some v)) (h2 : ρ[i]? = some (some (.own o))) (h3 : i ∉ io) (h4 : i ∉ bo) (t : ArgR K H N σ ρ ms cs vs io bo) : ArgR K H N σ ρ (.x :: ms) (.own o :: cs) (v :: vs) (i :: io) bo
  | lent {ms : List Md} {o : O} {cs : List Cell} {v : V} {vs : List V} {io bo : List Nat} {i : Nat} (h1 : σ[i]? = some (some v)) (h2 : ρ[i]? = some (some (.own o))) (h3 : i ∉ io) (t : ArgR K H N σ ρ ms cs vs io bo) : ArgR K H N σ ρ (.b :: ms) (.bor o :: cs) (v :: vs) io (i :: bo)
  | bor {ms : List Md} {o : O} {cs : List Cell} {v : V} {vs : List V} {io bo : List Nat} {i : Nat} (h1 : σ[i]? = some (some v)) (h2 : ρ[i]? = some (some (.bor o))) (t : ArgR K H N σ ρ ms cs vs io bo) : ArgR K H N σ ρ (.b :: ms) (.bor o :: cs) (v :: vs) io bo
section
variable {K : PySem.W.Frag} {H H0 H' : Hp} {Φ : Addr → Prop} {σ : L2.St} {ρ ρ' : Env'}
theorem cellsOf_ok : ∀ {ms : List Md} {rs : List R} {vs : List V} {ρ : Env'} {cs : List Cell} {io bo : List Nat} {ρ' : Env'}, RVs K H0 H Φ σ ρ rs vs → SR K τ H Φ σ ρ → cellsOf ms rs ρ = some (cs, io, bo, ρ') →
    ES σ ρ H ρ' H ∧ SR K τ H Φ σ ρ' ∧ ArgR K H (Nn Φ σ ρ') σ ρ' ms cs vs io bo
  | [], [], vs, ρ, cs, io, bo, ρ', h, s, e => by
    cases e
    have h : vs = [] := h
    rw [h]
    exact ⟨ES.refl, s, .nil⟩
  | [], r :: rs, vs, ρ, cs, io, bo, ρ', h, s, e => by unfold cellsOf at e; cases e
  | m :: ms, [], vs, ρ, cs, io, bo, ρ', h, s, e => by unfold cellsOf at e; cases e
  | m :: ms, r :: rs, vs, ρ, cs, io, bo, ρ', ⟨v, ws, ev, h, t⟩, s, e => by
    subst ev
    have dat : m ≠ .x → (match toI r ρ with
      | .ok d ρ1 => match cellsOf ms rs ρ1 with
        | some (cs, io, bo, ρ') => some (Cell.imm d :: cs, io, bo, ρ')
        | none => none
      | _ => none) = some (cs, io, bo, ρ') → ES σ ρ H ρ' H ∧ SR K τ H Φ σ ρ' ∧ ArgR K H (Nn Φ σ ρ') σ ρ' (m :: ms) cs (v :: ws) io bo := fun hm e => by
      cases e1 : toI r ρ with
      | bad => rw [e1] at e; cases e
      | er x ρ1 => exact absurd e1 toI_ner
      | ok d ρ1 =>
        rw [e1] at e
        dsimp only at e
        obtain ⟨s1, sr1, dv⟩ := toI_ok h s e1
        cases e2 : cellsOf ms rs ρ1 with
        | none => rw [e2] at e; cases e
        | some q =>
          obtain ⟨cs', io', bo', ρ2⟩ := q
          rw [e2] at e
          cases e
          obtain ⟨s2, sr2, ar⟩ := cellsOf_ok (RVs.step t s1) sr1 e2
          exact ⟨s1.trans s2, sr2, .imm hm ((s2.stp (io := [])).dv dv) ar⟩
    cases m with
    | d => exact dat (fun z => by cases z) e
    | x =>
      cases r with
      | imm d => cases e
      | new o => cases e
      | slot i =>
        unfold cellsOf at e
        dsimp only at e
        cases e2 : cellsOf ms rs ρ with
        | none => rw [e2] at e; cases e
        | some q =>
          obtain ⟨cs', io', bo', ρ2⟩ := q
          rw [e2] at e
          dsimp only at e
          obtain ⟨s2, sr2, ar⟩ := cellsOf_ok t s e2
          have h : σ[i]? = some (some v) := h
          split at e
          · rename_i o eo
            split at e
            · cases e
            · rename_i hn
              cases e
              exact ⟨s2, sr2, .own h eo (fun z => hn (.inl z)) (fun z => hn (.inr z)) ar⟩
          · cases e
    | b =>
      cases r with
      | imm d => exact dat (fun z => by cases z) e
      | new o => exact dat (fun z => by cases z) e
      | slot i =>
        unfold cellsOf at e
        dsimp only at e
        cases e2 : cellsOf ms rs ρ with
        | none => rw [e2] at e; cases e
        | some q =>
          obtain ⟨cs', io', bo', ρ2⟩ := q
          rw [e2] at e
          dsimp only at e
          obtain ⟨s2, sr2, ar⟩ := cellsOf_ok t s e2
          have h : σ[i]? = some (some v) := h
          split at e
          · rename_i o eo
            split at e
            · cases e
            · rename_i hn
              cases e
              exact ⟨s2, sr2, .lent h eo hn ar⟩
          · rename_i o eo
            cases e
            exact ⟨s2, sr2, .bor h eo ar⟩
          · rename_i d eo
            cases e
            obtain ⟨v', e1, q⟩ := sr2.cell i _ eo
            rw [h] at e1
            cases e1
            exact ⟨s2, sr2, .imm (by intro z; cases z) q ar⟩
          · cases e
theorem ArgR.len {N : Addr → Prop} : ∀ {ms cs vs io bo}, ArgR K H N σ ρ ms cs vs io bo → cs.length = ms.length ∧ vs.length = ms.length
  | _, _, _, _, _, .nil => ⟨rfl, rfl⟩
  | _, _, _, _, _, .imm _ _ t => ⟨congrArg (· + 1) t.len.1, congrArg (· + 1) t.len.2⟩
  | _, _, _, _, _, .own _ _ _ _ t => ⟨congrArg (· + 1) t.len.1, congrArg (· + 1) t.len.2⟩
  | _, _, _, _, _, .lent _ _ _ t => ⟨congrArg (· + 1) t.len.1, congrArg (· + 1) t.len.2⟩
  | _, _, _, _, _, .bor _ _ t => ⟨congrArg (· + 1) t.len.1, congrArg (· + 1) t.len.2⟩
/-- each cell -/
theorem ArgR.get {N : Addr → Prop} : ∀ {ms cs vs io bo}, ArgR K H N σ ρ ms cs vs io bo → (∀ j ∈ bo, ∃ o, ρ[j]? = some (some (.own o))) ∧ (∀ j ∈ io, ∃ o, ρ[j]? = some (some (.own o))) ∧ (∀ j ∈ bo, j ∉ io) ∧ ∀ (j : Nat) (c : Cell), cs[j]? = some c → ∃ v, vs[j]? = some v ∧ match c with
    | .imm d => DV K H N d v
    | .own o => ∃ i, i ∈ io ∧ σ[i]? = some (some v) ∧ ρ[i]? = some (some (.own o))
    | .bor o => ∃ i, σ[i]? = some (some v) ∧ ((i ∈ bo ∧ ρ[i]? = some (some (.own o))) ∨ ρ[i]? = some (some (.bor o)))
  | _, _, _, _, _, .nil => ⟨fun j h => (nomatch h), fun j h => (nomatch h), fun j h => (nomatch h), fun j c h => by simp at h⟩
  | _, _, _, _, _, .imm _ d t => by
    obtain ⟨q0, q1, q2, q3⟩ := t.get
    refine ⟨q0, q1, q2, fun j c e => ?_⟩
    cases j with
    | zero => simp at e; subst e; exact ⟨_, rfl, d⟩
    | succ j => simp only [List.getElem?_cons_succ] at e ⊢; exact q3 j c e
  | _, _, _, _, _, .own (i := i) h1 h2 h3 h4 t => by
    obtain ⟨q0, q1, q2, q3⟩ := t.get
    refine ⟨q0, fun j hj => ?_, fun j hj z => ?_, fun j c e => ?_⟩
    · rcases List.mem_cons.mp hj with z | z
      · exact ⟨_, z ▸ h2⟩
      · exact q1 j z
    · rcases List.mem_cons.mp z with y | y
      · exact h4 (y ▸ hj)
      · exact q2 j hj y
    · cases j with
      | zero => simp at e; subst e; exact ⟨_, rfl, i, List.mem_cons_self, h1, h2⟩
      | succ j =>
        simp only [List.getElem?_cons_succ] at e ⊢
        obtain ⟨v, e1, q⟩ := q3 j c e
        refine ⟨v, e1, ?_⟩
        cases c with
        | imm d => exact q
        | own o => exact let ⟨i, a, b⟩ := q; ⟨i, List.mem_cons_of_mem _ a, b⟩
        | bor o => exact q
  | _, _, _, _, _, .lent (i := i) h1 h2 h3 t => by
    obtain ⟨q0, q1, q2, q3⟩ := t.get
    refine ⟨fun j hj => ?_, q1, fun j hj => ?_, fun j c e => ?_⟩
    · rcases List.mem_cons.mp hj with z | z
      · exact ⟨_, z ▸ h2⟩
      · exact q0 j z
    · rcases List.mem_cons.mp hj with z | z
      · exact z ▸ h3
      · exact q2 j z
    · cases j with
      | zero => simp at e; subst e; exact ⟨_, rfl, i, h1, .inl ⟨List.mem_cons_self, h2⟩⟩
      | succ j =>
        simp only [List.getElem?_cons_succ] at e ⊢
        obtain ⟨v, e1, q⟩ := q3 j c e
        refine ⟨v, e1, ?_⟩
        cases c with
        | imm d => exact q
        | own o => exact q
        | bor o =>
          obtain ⟨k, a, b⟩ := q
          exact ⟨k, a, b.imp (fun z => ⟨List.mem_cons_of_mem _ z.1, z.2⟩) id⟩
  | _, _, _, _, _, .bor (i := i) h1 h2 t => by
    obtain ⟨q0, q1, q2, q3⟩ := t.get
    refine ⟨q0, q1, q2, fun j c e => ?_⟩
    cases j with
    | zero => simp at e; subst e; exact ⟨_, rfl, i, h1, .inr h2⟩
    | succ j => simp only [List.getElem?_cons_succ] at e ⊢; exact q3 j c e

theorem backC_length : ∀ (io : List Nat) (os : List O) (ρ : Env'), (backC io os ρ).length = ρ.length
  | [], _, ρ => rfl
  | _ :: _, [], ρ => rfl
  | i :: is, o :: os, ρ => by unfold backC; rw [List.length_set, backC_length is os ρ]
theorem backC_out {i : Nat} : ∀ {io : List Nat} {os : List O}, i ∉ io → (backC io os ρ)[i]? = ρ[i]?
  | [], _, _ => rfl
  | _ :: _, [], _ => rfl
  | k :: is, o :: os, h => by
    unfold backC
    rw [List.getElem?_set_ne fun z => h (by rw [z]; exact List.mem_cons_self)]
    exact backC_out fun z => h (List.mem_cons_of_mem _ z)
/-- a changed object, in the caller's slots and in the def's parameters -/
theorem ArgR.back {N : Addr → Prop} : ∀ {ms : List Md} {cs : List Cell} {vs : List V} {io bo : List Nat} {os : List O}, ArgR K H N σ ρ ms cs vs io bo → os.length = io.length → ∀ i ∈ io, ∃ (o : O) (j : Nat), (backC io os ρ)[i]? = some (some (Cell.own o)) ∧ (ioC ms os)[j]? = some (some (Cell.own o)) ∧ (vs.map some)[j]? = σ[i]?
  | _, _, _, _, _, _, .nil, _, i, hi => by cases hi
  | .d :: ms, _, _, _, _, os, .imm _ _ t, hl, i, hi => by
    obtain ⟨o, j, q1, q2, q3⟩ := t.back hl i hi
    exact ⟨o, j + 1, q1, q2, q3⟩
  | .b :: ms, _, _, _, _, os, .imm _ _ t, hl, i, hi => by
    obtain ⟨o, j, q1, q2, q3⟩ := t.back hl i hi
    exact ⟨o, j + 1, q1, q2, q3⟩
  | .x :: ms, _, _, _, _, os, .imm h _ t, hl, i, hi => (h rfl).elim
  | _, _, _, _, _, os, .lent _ _ _ t, hl, i, hi => by
    obtain ⟨o, j, q1, q2, q3⟩ := t.back hl i hi
    exact ⟨o, j + 1, q1, q2, q3⟩
  | _, _, _, _, _, os, .bor _ _ t, hl, i, hi => by
    obtain ⟨o, j, q1, q2, q3⟩ := t.back hl i hi
    exact ⟨o, j + 1, q1, q2, q3⟩
  | _, _, _, _, _, [], .own _ _ _ _ t, hl, i, hi => by simp at hl
  | _, _, _, _, _, o :: os, .own (i := k) h1 h2 h3 h4 t, hl, i, hi => by
    by_cases e : k = i
    · subst e
      refine ⟨o, 0, ?_, rfl, ?_⟩
      · unfold backC
        exact List.getElem?_set_self (by rw [backC_length]; exact (List.getElem?_eq_some_iff.mp h2).1)
      · rw [h1]; rfl
    · have hi' := (List.mem_cons.mp hi).elim (fun z => (e z.symm).elim) id
      obtain ⟨o', j, q1, q2, q3⟩ := t.back (os := os) (by simpa using hl) i hi'
      refine ⟨o', j + 1, ?_, q2, q3⟩
      unfold backC
      rw [List.getElem?_set_ne e]
      exact q1
/-- two parameters that hold one object are one -/
theorem ArgR.one {N : Addr → Prop} : ∀ {ms : List Md} {cs : List Cell} {vs : List V} {io bo : List Nat}, ArgR K H N σ ρ ms cs vs io bo → ∀ (j k : Nat) (o u : O), cs[j]? = some (Cell.own o) → cs[k]? = some (Cell.own u) → vs[j]? = vs[k]? →
    (∀ i k : Nat, i ∈ io → k ∈ io → σ[i]? = σ[k]? → i = k) → j = k
  | _, _, _, _, _, .nil, j, k, o, u, h, _, _, _ => by simp at h
  | _, _, _, _, _, .imm _ _ t, j, k, o, u, e1, e2, e3, hi => by
    cases j with
    | zero => simp at e1
    | succ j =>
      cases k with
      | zero => simp at e2
      | succ k =>
        simp only [List.getElem?_cons_succ] at e1 e2 e3
        exact congrArg (· + 1) (t.one j k o u e1 e2 e3 hi)
  | _, _, _, _, _, .lent _ _ _ t, j, k, o, u, e1, e2, e3, hi => by
    cases j with
    | zero => simp at e1
    | succ j =>
      cases k with
      | zero => simp at e2
      | succ k =>
        simp only [List.getElem?_cons_succ] at e1 e2 e3
        exact congrArg (· + 1) (t.one j k o u e1 e2 e3 hi)
  | _, _, _, _, _, .bor _ _ t, j, k, o, u, e1, e2, e3, hi => by
    cases j with
    | zero => simp at e1
    | succ j =>
      cases k with
      | zero => simp at e2
      | succ k =>
        simp only [List.getElem?_cons_succ] at e1 e2 e3
        exact congrArg (· + 1) (t.one j k o u e1 e2 e3 hi)
  | _, _, _, _, _, .own (i := s) (v := v) h1 h2 h3 h4 t, j, k, o, u, e1, e2, e3, hi => by
    have hit : ∀ (m : Nat) (w : O), _[m]? = some (Cell.own w) → _[m]? = some v → False := fun m w a b => by
      obtain ⟨_, _, _, g⟩ := t.get
      obtain ⟨v', e, p, hp, q1, _⟩ := g m _ a
      rw [b] at e
      cases e
      have z := hi s p List.mem_cons_self (List.mem_cons_of_mem _ hp) (h1.trans q1.symm)
      exact h3 (z ▸ hp)
    cases j with
    | zero =>
      cases k with
      | zero => rfl
      | succ k =>
        simp only [List.getElem?_cons_succ, List.getElem?_cons_zero] at e1 e2 e3
        exact (hit k u e2 e3.symm).elim
    | succ j =>
      cases k with
      | zero =>
        simp only [List.getElem?_cons_succ, List.getElem?_cons_zero] at e1 e2 e3
        exact (hit j o e1 e3).elim
      | succ k =>
        simp only [List.getElem?_cons_succ] at e1 e2 e3
        exact congrArg (· + 1) (t.one j k o u e1 e2 e3 fun i k hi' hk' => hi i k (List.mem_cons_of_mem _ hi') (List.mem_cons_of_mem _ hk'))
/-- THE RULE of calls, by readings -/
theorem fn_g {W : WX} {ms : List Md} {F : List Cell → FO} {ga : M (List R)} {Q : VK} {ρ0 : Env'} (h : GoodE K τ W Φ σ ρ0 H Q (xFn ms F ga ρ0)) : GoodA K τ W Φ σ ρ0 H (fun vs H1 => spD K τ ms F vs H1 Q fun cls dd H' => W cls dd σ H') (ga ρ0) := by
  refine ae h fun rs ρ1 vs H1 s1 sr1 ra hk => ?_
  cases ec : cellsOf ms rs ρ1 with
  | none => rw [ec] at hk; exact hk.elim
  | some q =>
    obtain ⟨cs, io, bo, ρ⟩ := q
    rw [ec] at hk
    dsimp only at hk
    obtain ⟨s2, sr, ar⟩ := cellsOf_ok ra sr1 ec
    have hk := GoodE.shift hk s2
    obtain ⟨l1, l2⟩ := ar.len
    obtain ⟨g0, g1, g2, g3⟩ := ar.get
    -- the objects that are changed
    generalize hIA : (fun a => ∃ i, i ∈ io ∧ σ[i]? = some (some (V.ref a))) = IA
    have ia : ∀ a, IA a ↔ ∃ i, i ∈ io ∧ σ[i]? = some (some (V.ref a)) := fun a => by rw [← hIA]
    have iaOwn : ∀ a, IA a → Own σ ρ a := fun a z => by
      obtain ⟨i, hi, e⟩ := (ia a).mp z
      obtain ⟨o, eo⟩ := g1 i hi
      exact ⟨i, o, eo, e⟩
    have inj' : ∀ i k : Nat, (∃ o, ρ[i]? = some (some (.own o))) → (∃ o, ρ[k]? = some (some (.own o))) → ∀ a, σ[i]? = some (some (V.ref a)) → σ[k]? = some (some (V.ref a)) → i = k := fun i k ⟨o, e1⟩ ⟨u, e2⟩ a e3 e4 => sr.inj i k o u a e1 e2 e3 e4
    have notIA : ∀ i, i ∉ io → (∃ o, ρ[i]? = some (some (.own o))) → ∀ a, σ[i]? = some (some (V.ref a)) → ¬ IA a := fun i hi ho a ea z => by
      obtain ⟨k, hk, ek⟩ := (ia a).mp z
      exact hi (inj' i k ho (g1 k hk) a ea ek ▸ hk)
    have ownRef : ∀ (i : Nat) (o : O), ρ[i]? = some (some (.own o)) → ∃ a, σ[i]? = some (some (V.ref a)) ∧ ¬ Φ a ∧ OV K H1 (Nn Φ σ ρ) a o := fun i o e => by
      obtain ⟨v, e1, a, ev, n, ov⟩ := sr.cell i _ e
      exact ⟨a, by rw [e1, ev], n, ov⟩
    have phiIA : ∀ a, Φ a → ¬ IA a := fun a p z => by
      obtain ⟨i, o, e1, e2⟩ := iaOwn a z
      obtain ⟨a', e3, n, _⟩ := ownRef i o e1
      rw [e2] at e3
      cases e3
      exact n p
    -- what nothing may lean on within the call, besides
    generalize hC : (fun a => Nn Φ σ ρ a ∧ ¬ IA a) = C
    have hc : ∀ a, C a ↔ Nn Φ σ ρ a ∧ ¬ IA a := fun a => by rw [← hC]
    have ownC : ∀ a, Own (vs.map some) (cs.map some) a → IA a := fun a ⟨j, o, e1, e2⟩ => by
      rw [List.getElem?_map] at e1 e2
      cases e3 : cs[j]? with
      | none => rw [e3] at e1; cases e1
      | some c =>
        rw [e3] at e1
        have e1 := Option.some.inj (Option.some.inj e1)
        subst e1
        obtain ⟨v, e4, i, hi, q1, _⟩ := g3 j _ e3
        rw [e4] at e2
        have e2 := Option.some.inj (Option.some.inj e2)
        subst e2
        exact (ia a).mpr ⟨i, hi, q1⟩
    have lowN : ∀ a, Nn C (vs.map some) (cs.map some) a → Nn Φ σ ρ a := fun a z => z.elim (fun z => ((hc a).mp z).1) fun z => .inr (iaOwn a (ownC a z))
    have kp0 : Keep (Nn Φ σ ρ) H1 H1 := fun _ _ e _ _ => e
    have fw0 : Fewer H1 (Nn Φ σ ρ) (Nn C (vs.map some) (cs.map some)) := fun a z => .inl (lowN a z)
    have cell : ∀ (j : Nat) (c : Cell), (cs.map some)[j]? = some (some c) → cs[j]? = some c := fun j c e => by
      rw [List.getElem?_map] at e
      cases e3 : cs[j]? with
      | none => rw [e3] at e; cases e
      | some c' => rw [e3] at e; exact congrArg some (Option.some.inj (Option.some.inj e))
    have srC : SR K τ H1 C (vs.map some) (cs.map some) := by
      refine ⟨by simp [l1, l2], fun j c e => ?_, fun j k o u a e1 e2 e3 e4 => ?_, fun a z => sr.nnLv ((hc a).mp z).1, sr.tab⟩
      · obtain ⟨v, e1, q⟩ := g3 j c (cell j c e)
        refine ⟨v, by rw [List.getElem?_map, e1]; rfl, ?_⟩
        cases c with
        | imm d => exact DV.keep kp0 fw0 d v q
        | own o =>
          obtain ⟨i, hi, q1, q2⟩ := q
          obtain ⟨a, e2, n, ov⟩ := ownRef i o q2
          rw [q1] at e2
          have e2 := Option.some.inj (Option.some.inj e2)
          exact ⟨a, e2, fun z => ((hc a).mp z).2 ((ia a).mpr ⟨i, hi, by rw [q1, e2]⟩), ov.less lowN⟩
        | bor o =>
          obtain ⟨i, q1, q2⟩ := q
          rcases q2 with ⟨hb, q2⟩ | q2
          · obtain ⟨a, e2, n, ov⟩ := ownRef i o q2
            have e3 := e2
            rw [q1] at e2
            have e2 := Option.some.inj (Option.some.inj e2)
            exact ⟨a, e2, (hc a).mpr ⟨.inr ⟨i, o, q2, e3⟩, notIA i (g2 i hb) ⟨o, q2⟩ a e3⟩, ov.less lowN⟩
          · obtain ⟨v', e2, a, ev, n, ov⟩ := sr.cell i _ q2
            rw [q1] at e2
            have e2 := Option.some.inj (Option.some.inj e2)
            exact ⟨a, e2.trans ev, (hc a).mpr ⟨.inl n, phiIA a n⟩, ov.less lowN⟩
      · have f1 := cell j _ e1
        have f2 := cell k _ e2
        refine ar.one j k o u f1 f2 ?_ fun i k hi hk e => ?_
        · rw [List.getElem?_map] at e3 e4
          cases q1 : vs[j]? with
          | none => rw [q1] at e3; cases e3
          | some x =>
            cases q2 : vs[k]? with
            | none => rw [q2] at e4; cases e4
            | some y =>
              rw [q1] at e3
              rw [q2] at e4
              have e3 := Option.some.inj (Option.some.inj e3)
              have e4 := Option.some.inj (Option.some.inj e4)
              rw [e3, e4]
        · obtain ⟨o1, h1⟩ := g1 i hi
          obtain ⟨a, e5, _⟩ := ownRef i o1 h1
          exact inj' i k ⟨o1, h1⟩ (g1 k hk) a e5 (e ▸ e5)
    refine ⟨l2, C, cs, l1, srC, ?_⟩
    -- the caller's cells behind the call
    have fin : ∀ {os : List O} {H2 : Hp}, Keep (Own (vs.map some) (cs.map some)) H1 H2 → (∀ a, H1 a ≠ none → H2 a ≠ none) → os.length = io.length → ∀ (Φx Cx : Addr → Prop), (∀ a, Φ a → Φx a) → (∀ a, Φx a → Φ a ∨ H1 a = none) → (∀ a, Φx a → Lv H2 a) → SR K τ H2 Cx (vs.map some) (ioC ms os) → (∀ a, C a → Cx a) → (∀ a, Φx a → H1 a = none → Cx a) → (∀ a, Cx a → C a ∨ Φx a) →
        SR K τ H2 Φx σ (backC io os ρ) ∧ (∀ a, Own σ (backC io os ρ) a → Own σ ρ a) ∧ (∀ a, Nn Φx σ (backC io os ρ) a → Nn Cx (vs.map some) (ioC ms os) a) := fun {os H2} kp tr hl Φx Cx f1 f2 f3 sx f4 f5 f6 => by
      have up : ∀ (i : Nat) (c : Cell), (backC io os ρ)[i]? = some (some c) → (i ∈ io ∧ ∃ (o : O) (j : Nat), c = Cell.own o ∧ (ioC ms os)[j]? = some (some (Cell.own o)) ∧ (vs.map some)[j]? = σ[i]?) ∨ (i ∉ io ∧ ρ[i]? = some (some c)) := fun i c e => by
        by_cases hi : i ∈ io
        · obtain ⟨o, j, q1, q2, q3⟩ := ar.back hl i hi
          rw [q1] at e
          exact .inl ⟨hi, o, j, (Option.some.inj (Option.some.inj e)).symm, q2, q3⟩
        · rw [backC_out hi] at e
          exact .inr ⟨hi, e⟩
      have ow : ∀ a, Own σ (backC io os ρ) a → Own σ ρ a := fun a ⟨i, o, e1, e2⟩ => by
        rcases up i _ e1 with ⟨hi, _⟩ | ⟨_, q⟩
        · exact iaOwn a ((ia a).mpr ⟨i, hi, e2⟩)
        · exact ⟨i, o, q, e2⟩
      have nn : ∀ a, Nn Φx σ (backC io os ρ) a → Nn Cx (vs.map some) (ioC ms os) a := fun a z => by
        rcases z with z | z
        · rcases f2 a z with y | y
          · exact .inl (f4 a ((hc a).mpr ⟨.inl y, phiIA a y⟩))
          · exact .inl (f5 a z y)
        · obtain ⟨i, o, e1, e2⟩ := z
          rcases up i _ e1 with ⟨hi, o', j, _, q2, q3⟩ | ⟨hi, q⟩
          · exact .inr ⟨j, o', q2, by rw [q3]; exact e2⟩
          · exact .inl (f4 a ((hc a).mpr ⟨.inr ⟨i, o, q, e2⟩, notIA i hi ⟨o, q⟩ a e2⟩))
      have fwx : Fewer H1 (Nn Φ σ ρ) (Nn Φx σ (backC io os ρ)) := fun a z => by
        rcases z with z | z
        · exact (f2 a z).imp .inl id
        · exact .inl (.inr (ow a z))
      have kpN : Keep (Nn Φ σ ρ) H1 H2 := fun b o e n t => kp b o e (fun z => n (.inr (iaOwn b (ownC b z)))) t
      have kpA : ∀ b o, H1 b = some o → ¬ IA b → Nt o → H2 b = some o := fun b o e n t => kp b o e (fun z => n (ownC b z)) t
      refine ⟨⟨by rw [backC_length]; exact sr.len, fun i c e => ?_, fun i k o u a e1 e2 e3 e4 => ?_, f3, sx.tab⟩, ow, nn⟩
      · rcases up i c e with ⟨hi, o, j, ec', q2, q3⟩ | ⟨hi, q⟩
        · subst ec'
          obtain ⟨w, e1, a, ev, n, ov⟩ := sx.cell j _ q2
          rw [q3] at e1
          refine ⟨w, e1, a, ev, fun z => ?_, ov.less nn⟩
          rcases f2 a z with y | y
          · exact phiIA a y ((ia a).mpr ⟨i, hi, by rw [e1, ev]⟩)
          · exact sr.ownLive (iaOwn a ((ia a).mpr ⟨i, hi, by rw [e1, ev]⟩)) y
        · obtain ⟨w, e1, cv⟩ := sr.cell i c q
          refine ⟨w, e1, ?_⟩
          cases c with
          | imm d => exact DV.keep kpN fwx d w cv
          | own o =>
            obtain ⟨a, ev, n, ov⟩ := cv
            obtain ⟨u, q1, nt, q2⟩ := ov.at
            refine ⟨a, ev, fun z => ?_, q2 _ _ (kpA a _ q1 (notIA i hi ⟨_, q⟩ a (by rw [e1, ev])) nt) kpN fwx⟩
            rcases f2 a z with y | y
            · exact n y
            · rw [q1] at y; cases y
          | bor o =>
            obtain ⟨a, ev, n, ov⟩ := cv
            obtain ⟨u, q1, nt, q2⟩ := ov.at
            exact ⟨a, ev, f1 a n, q2 _ _ (kpA a _ q1 (phiIA a n) nt) kpN fwx⟩
      · have old : ∀ {i : Nat} {o : O}, (backC io os ρ)[i]? = some (some (.own o)) → ∃ o, ρ[i]? = some (some (.own o)) := fun {i o} e => by
          rcases up i _ e with ⟨hi, _⟩ | ⟨_, q⟩
          · exact g1 i hi
          · exact ⟨o, q⟩
        exact inj' i k (old e1) (old e2) a e3 e4
    have bor : ∀ {os : List O}, os.length = io.length → ∀ (i : Nat) (o : O), (backC io os ρ)[i]? = some (some (.bor o)) → ∃ u, ρ[i]? = some (some (Cell.bor u)) := fun {os} hl i o e => by
      by_cases hi : i ∈ io
      · obtain ⟨o', j, q1, _⟩ := ar.back hl i hi
        rw [q1] at e
        cases e
      · rw [backC_out hi] at e
        exact ⟨o, e⟩
    have base : ∀ {os : List O} {H2 : Hp}, Keep (Own (vs.map some) (cs.map some)) H1 H2 → (∀ a, H1 a ≠ none → H2 a ≠ none) → SR K τ H2 C (vs.map some) (ioC ms os) → os.length = io.length →
        ES σ ρ H1 (backC io os ρ) H2 ∧ SR K τ H2 Φ σ (backC io os ρ) ∧ ∀ a, Nn Φ σ (backC io os ρ) a → Nn C (vs.map some) (ioC ms os) a := fun {os H2} kp tr srE hl => by
      obtain ⟨s4, ow, nn⟩ := fin kp tr hl Φ C (fun _ z => z) (fun _ z => .inl z) (fun a z => let ⟨u, e, m⟩ := sr.lv a z; ⟨u, kp a u e (fun y => phiIA a z (ownC a y)) m.1, m⟩) srE (fun _ z => z) (fun a z y => (sr.live a z y).elim) (fun _ z => .inl z)
      exact ⟨⟨fun b o e n t => kp b o e (fun z => n (iaOwn b (ownC b z))) t, tr, ow, bor hl⟩, s4, nn⟩
    cases eF : F cs with
    | bad => rw [eF] at hk; exact hk.elim
    | er x os =>
      rw [eF] at hk
      dsimp only at hk
      intro cls dd H2 kp tr srE xv
      split at hk
      · rename_i hl
        obtain ⟨es, s4, nn⟩ := base kp tr srE hl
        exact hk cls dd H2 es s4 (xv.less nn)
      · exact hk.elim
    | ok r os =>
      rw [eF] at hk
      dsimp only at hk
      intro v H2 kp tr srE rv
      cases r with
      | slot i => exact hk.elim
      | imm d =>
        dsimp only at hk
        split at hk
        · rename_i hl
          obtain ⟨es, s4, nn⟩ := base kp tr srE hl
          exact hk v H2 es s4 (DV.keep (N := Nn C (vs.map some) (ioC ms os)) (fun _ _ e _ _ => e) (fun a z => .inl (nn a z)) d v rv)
        · exact hk.elim
      | new o =>
        dsimp only at hk
        split at hk
        · rename_i hl
          obtain ⟨es, s4, nn⟩ := base kp tr srE hl
          obtain ⟨a, ev, hn, hna, sx, ov⟩ := rv
          have la : Lv H2 a := ov.lv
          obtain ⟨s5, _, _⟩ := fin kp tr hl (fun x => Φ x ∨ x = a) (fun x => C x ∨ x = a) (fun _ z => .inl z) (fun x z => z.imp id fun z => by rw [z]; exact hn) (fun x z => z.elim (fun z => let ⟨u, e, m⟩ := sr.lv x z; ⟨u, kp x u e (fun y => phiIA x z (ownC x y)) m.1, m⟩) fun z => by rw [z]; exact la) sx (fun _ z => .inl z)
            (fun x z y => z.elim (fun z => (sr.live x z y).elim) .inr) (fun x z => z.imp id .inr)
          exact hk v H2 es s4 ⟨a, ev, hn, fun z => hna (nn a z), s5, ov.less fun x z => z.imp (nn x) id⟩
        · exact hk.elim
theorem fn_w {W : WX} {ms : List Md} {F : List Cell → FO} {ga : M (List R)} {Q : VK} (q : tD K τ W (xFn ms F ga) σ H Q) : tA K τ W ga σ H fun vs H1 => spD K τ ms F vs H1 Q fun cls dd H' => W cls dd σ H' :=
  let ⟨Φ, ρ0, sr0, h⟩ := q
  ⟨Φ, ρ0, sr0, fn_g h⟩
end
section
variable {X : Cx} {k : Nat} {f : Addr} {sp : Sp} {x : Str} {p pos : Pos} {e : Expr} {es : List Expr} {W : WX} {ms : List Md} {F : List Cell → FO} {ga : M (List R)}
theorem run_fnG {E : XK} {pins : List (Addr × Obj)} {σ : L2.St} {H : Hp} {s : Shared} {Q : VK} {us : List Value} {vs : List V} (F : FnG X.prog X.w X.K X.mg X.base k f sp) (hr : Room k X.A) (hgd : X.A.guards = some []) (hx : ∀ (e : Value) (s' : Shared), L2.CX X.prog X.w X.stack H s E e s' → X.xe e s')
    (I : Inv X pins σ H s) (r : Vals vs us) (h : sp vs H Q E) : wpAny (model X.prog X.w) X.A (call (.ref f) us) (EP X pins σ Q) X.xe s := by
  refine wpAny_call (codeAny_mono (F X.A X.stack s H us vs Q E hr hgd I.env0 r h) fun r s' hq => ?_)
  rcases r with e | fl
  · exact hx e s' hq
  · rcases fl with _ | _ | _ | u <;> first | exact I.after hq | exact False.elim hq
theorem d_fn (tk : Takes X W) (G : FnG X.prog X.w X.K X.mg X.base k f (spD X.K τ ms F)) (hr : Room k X.A) (hgd : X.A.guards = some []) (hg : Gl X x) (hm : X.mg x = some (.ref f)) (hk : PySem.W.keepIn X.K (.ref f) = true)
    (ha : PA X (e :: es) (tA X.K τ W ga)) (hdb : (x == ("__debug__" : Str)) = false := by decide) (he : starEach (e :: es) X.env = (false, eval e X.env) :: starEach es X.env := by rfl) (hpl : (backTo pos (starEach es X.env)).any (·.1) = false := by rfl) :
    PE X (.Call (.Name x p) (e :: es) [] pos) (tD X.K τ W (xFn ms F ga)) := by
  refine ⟨fun pins s σ H Q I h => ?_⟩
  refine wpAny_Call_Name_kw (ld_glob I hg hm ?_ hdb)
  refine PySem.W.callWith_K (h₀ := X.base) I.ok.mod.kin hk (thn (ha.run pos pins s σ H _ I (fn_w h)) fun us s1 ⟨vs, H1, I1, r, q⟩ => ⟨I1.kIn, ?_⟩) he hpl
  exact run_fnG G hr hgd (fun e' s' c => tk e' s' (XE.of_call I1 (fun cls d H' z => z) c)) I1 r q
theorem d_fn0 (tk : Takes X W) (G : FnG X.prog X.w X.K X.mg X.base k f (spD X.K τ ms F)) (hr : Room k X.A) (hgd : X.A.guards = some []) (hg : Gl X x) (hm : X.mg x = some (.ref f)) (hk : PySem.W.keepIn X.K (.ref f) = true)
    (hdb : (x == ("__debug__" : Str)) = false := by decide) : PE X (.Call (.Name x p) [] [] pos) (tD X.K τ W (xFn ms F (mr []))) := by
  refine ⟨fun pins s σ H Q I h => ?_⟩
  refine wpAny_Call_Name_kw (ld_glob I hg hm ?_ hdb)
  have q := fn_w h
  obtain ⟨Φ, ρ, sr, q⟩ := q
  exact PySem.W.callWith_K0 I.kIn hk (run_fnG (us := []) G hr hgd (fun e' s' c => tk e' s' (XE.of_call I (fun cls d H' z => z) c)) I .nil (q [] H ES.refl sr rfl))
end
end DL

/-! ## DH -/
set_option Elab.async false
set_option linter.all false
set_option maxRecDepth 100000
set_option maxHeartbeats 4000000
/-! DH: writes to owned lists, parallel stores, small statements. -/
namespace DL
open PySem L2 PySem.Spec
section
variable {K : PySem.W.Frag} {H H' H0 H1 : Hp} {Φ : Addr → Prop} {σ : L2.St} {ρ ρ' : Env'}
/-- a heap with one object everywhere -/
theorem nc_sh : ∀ {s : Sh} {a : Addr} {vs : List V}, Nc a (s.ho a vs)
  | .st ks, a, vs => ⟨fun _ z => (nomatch z), fun q z => by
    have e : StAt a ks vs = fun h => ∃ (oc : Obj) (vs : Array Value) (t : Tok), h.get? a = some oc ∧ oc.data = .fields vs ∧ vs[1]? = some (.str q t) := HO.ext.inj z
    let ob : Obj := { cls := .none, data := .fields #[.none, .str q 0] }
    let hh : Heap := { objs := Array.replicate (a + 1) ob }
    have g : hh.get? a = some ob := by simp [hh, ob, Heap.get?]
    have c : StAt a ks vs hh := by rw [e]; exact ⟨ob, #[.none, .str q 0], 0, g, rfl, rfl⟩
    obtain ⟨_, _, _, _, _, _, o, es, ep, g2, _, d, _⟩ := c
    rw [g] at g2
    cases g2
    cases d⟩
theorem OV.nc {K : PySem.W.Frag} {H : Hp} {N : Addr → Prop} {a : Addr} : ∀ {o : O}, OV K H N a o → ∃ u, H a = some u ∧ Nc a u
  | .lst _, h => let ⟨vs, e, q⟩ := h; ⟨_, e, nc_lst⟩
  | .dct _ _, h => let ⟨vs, e, q⟩ := h; ⟨_, e.1, fun _ z => (nomatch z), fun _ z => (nomatch z)⟩
  | .ins _ _ _, h => let ⟨vs, ⟨dx, e⟩, q⟩ := h; ⟨_, e.1, fun _ z => (nomatch z), fun _ z => (nomatch z)⟩
  | .obj _ _, h => let ⟨vs, e, q⟩ := h; ⟨_, e.1, nc_sh⟩
/-- an owned object is written -/
theorem own_updO {i : Nat} {o o' : O} {a : Addr} {u' : HO} (s : SR K τ H Φ σ ρ) (e : ρ[i]? = some (some (.own o))) (ea : σ[i]? = some (some (V.ref a)))
    (ov' : ∀ (H' : Hp) (N' : Addr → Prop), H' a = some u' → Keep (Nn Φ σ ρ) H H' → Fewer H (Nn Φ σ ρ) N' → OV K H' N' a o') :
    ES σ ρ H (ρ.set i (some (.own o'))) (upd H a u') ∧ SR K τ (upd H a u') Φ σ (ρ.set i (some (.own o'))) := by
  have nf : ¬ Φ a ∧ ∃ u, H a = some u ∧ Nc a u := by
    obtain ⟨v, e1, b, ev, n, ov⟩ := s.cell i _ e
    rw [ea] at e1
    cases e1
    cases ev
    exact ⟨n, ov.nc⟩
  obtain ⟨u0, e0, n0⟩ := nf.2
  have hl : i < ρ.length := (List.getElem?_eq_some_iff.mp e).1
  have ow : ∀ x, Own σ (ρ.set i (some (.own o'))) x → Own σ ρ x := fun x ⟨j, u, e1, e2⟩ => by
    rcases get_set e1 with ⟨z, _, _⟩ | ⟨_, q⟩
    · subst z
      exact ⟨i, o, e, e2⟩
    · exact ⟨j, u, q, e2⟩
  have own : Own σ ρ a := ⟨i, o, e, ea⟩
  have kp : ∀ {N : Addr → Prop}, N a → Keep N H (upd H a u') := fun {N} na b u eb n _ => by
    rw [upd_ne fun z => n (by rw [z]; exact na)]
    exact eb
  have fw : Fewer H (Nn Φ σ ρ) (Nn Φ σ (ρ.set i (some (.own o')))) := fun x z => .inl (z.imp id (ow x))
  have kN : Keep (Nn Φ σ ρ) H (upd H a u') := kp (.inr own)
  refine ⟨⟨kp own, fun x z => ?_, ow, fun j u e1 => ?_⟩, by rw [List.length_set]; exact s.len, fun j c e1 => ?_, fun j k u w b e1 e2 e3 e4 => ?_, fun x z => ?_, tabs_updC s.tab e0 n0⟩
  · unfold upd
    split
    · intro z; cases z
    · exact z
  · rcases get_set e1 with ⟨_, _, z⟩ | ⟨_, q⟩
    · cases z
    · exact ⟨u, q⟩
  · rcases get_set e1 with ⟨z, _, ec⟩ | ⟨ne, q⟩
    · subst z
      subst ec
      exact ⟨.ref a, ea, a, rfl, nf.1, ov' _ _ upd_same kN fw⟩
    · obtain ⟨v, e2, cv⟩ := s.cell j c q
      refine ⟨v, e2, ?_⟩
      cases c with
      | imm d => exact DV.keep kN fw d v cv
      | own u =>
        obtain ⟨b, ev, n, ov⟩ := cv
        obtain ⟨u1, q1, nt, q2⟩ := ov.at
        refine ⟨b, ev, n, q2 _ _ ?_ kN fw⟩
        rw [upd_ne fun z => ne (s.inj i j o _ a e q ea (by rw [e2, ev, z]))]
        exact q1
      | bor u =>
        obtain ⟨b, ev, n, ov⟩ := cv
        obtain ⟨u1, q1, nt, q2⟩ := ov.at
        refine ⟨b, ev, n, q2 _ _ ?_ kN fw⟩
        rw [upd_ne fun z => nf.1 (by rw [← z]; exact n)]
        exact q1
  · have up : ∀ {j : Nat} {u : O}, (ρ.set i (some (.own o')))[j]? = some (some (.own u)) → ∃ u, ρ[j]? = some (some (.own u)) := fun {j u} e1 => by
      rcases get_set e1 with ⟨z, _, _⟩ | ⟨_, q⟩
      · subst z
        exact ⟨o, e⟩
      · exact ⟨u, q⟩
    obtain ⟨u', q1⟩ := up e1
    obtain ⟨w', q2⟩ := up e2
    exact s.inj j k u' w' b q1 q2 e3 e4
  · by_cases y : x = a
    · exact absurd (by rw [← y]; exact z) nf.1
    · obtain ⟨u, q, m⟩ := s.lv x z
      exact ⟨u, by rw [upd_ne y]; exact q, m⟩
/-- .. a list -/
theorem own_upd {i : Nat} {o : O} {a : Addr} {ys : List D} {vs : List V} (s : SR K τ H Φ σ ρ) (e : ρ[i]? = some (some (.own o))) (ea : σ[i]? = some (some (V.ref a))) (dv : DVs K H (Nn Φ σ ρ) ys vs) :
    ES σ ρ H (ρ.set i (some (.own (.lst ys)))) (upd H a (.lst vs)) ∧ SR K τ (upd H a (.lst vs)) Φ σ (ρ.set i (some (.own (.lst ys)))) :=
  own_updO s e ea fun _ _ e' k f => ⟨vs, e', DVs.keep k f _ _ dv⟩
end
section
variable {X : Cx} {W : WX} {io : List Nat} {e e2 : Expr} {f g : M R} {ga : M (List R)} {pos : Pos} {st : Stmt}
/-- xs.append(e) -/
def isOwn (i : Nat) (ρ : Env') : Bool := match ρ[i]? with
  | some (some (.own (.lst _))) => true
  | _ => false
theorem isOwn_get {i : Nat} {ρ : Env'} (h : isOwn i ρ = true) : ∃ o, ρ[i]? = some (some (Cell.own (.lst o))) := by
  unfold isOwn at h
  split at h
  · rename_i o e
    exact ⟨o, e⟩
  · cases h
def sApp (i : Nat) (f : M R) : MS := fun ρ => if isOwn i ρ then sb f (fun r => fun ρ => match toI r ρ with
  | .ok d ρ' => match ρ'[i]? with
    | some (some (.own (.lst xs))) => if szB (xs.length + 1) then .next (ρ'.set i (some (.own (.lst (xs ++ [d]))))) else .bad
    | _ => .bad
  | _ => .bad) ρ else .bad
theorem ownAt {K : PySem.W.Frag} {H : Hp} {Φ : Addr → Prop} {σ : L2.St} {ρ : Env'} {i : Nat} {xs : List D} (s : SR K τ H Φ σ ρ) (e : ρ[i]? = some (some (.own (.lst xs)))) : ∃ a vs, σ[i]? = some (some (V.ref a)) ∧ H a = some (.lst vs) ∧ DVs K H (Nn Φ σ ρ) xs vs := by
  obtain ⟨v, e1, a, ev, n, vs, q1, q2⟩ := s.cell i _ e
  exact ⟨a, vs, by rw [e1, ev], q1, q2⟩
theorem s_app (i : Nat) {o : Expr} {apos cpos : Pos} (hv : PE X o (tVar i)) (he : PE X e (tD X.K τ W f)) (hbase : attributeBase o "append" X.env (eval o X.env) = eval o X.env := by rfl)
    (hfew : ((backTo cpos (starEach [e] X.env)).all (fun x => !x.1) && (backToKw cpos (keywordEach [] X.env)).all (fun x => x.1.isSome)
      && decide ([e].length + ([] : List Keyword).length + (if ([] : List Keyword).isEmpty then 0 else 1) < 30)) = true := by rfl)
    (hline : (apos.endLine == cpos.line) = true := by rfl) (hs : starEach [e] X.env = (false, eval e X.env) :: starEach [] X.env := by rfl) (hplain : (backTo cpos (starEach [] X.env)).any (·.1) = false := by rfl)
    (hsw : swapsWith (.Call (.Attribute o "append" apos) [e] [] cpos) none pos.line X.env = pure false := by rfl) :
    PS X (.Expr (.Call (.Attribute o "append" apos) [e] [] cpos) pos) (tS X.K τ W io (sApp i f)) :=
  PS.weak (ps_expr (pe_bm PySem.F.plainAttrs_list PySem.F.slot_list_append PySem.F.type_list_append mt_append hv (pa_cons he pa_nil hs) hbase hfew hline hs hplain) hsw) fun D σ H ⟨Φ, ρ, sr, h⟩ => by
    unfold sApp at h
    split at h
    · rename_i ho
      obtain ⟨xs0, eo⟩ := isOwn_get ho
      obtain ⟨a, vs0, ea, q0, _⟩ := ownAt sr eo
      refine ⟨.ref a, ea, .inl ⟨rfl, vs0, SqL.of q0⟩, Φ, ρ, sr, DL.es h fun r ρ1 v H1 s1 sr1 rv hk => ?_⟩
      cases et : toI r ρ1 with
      | er x ρ2 => rw [et] at hk; exact hk.elim
      | bad => rw [et] at hk; exact hk.elim
      | ok d ρ2 =>
        rw [et] at hk
        dsimp only at hk
        obtain ⟨s2, sr2, dv⟩ := toI_ok rv.w sr1 et
        split at hk
        · rename_i xs e3
          split at hk
          · rename_i hz
            obtain ⟨a', vs, ea', q1, q2⟩ := ownAt sr2 e3
            rw [ea] at ea'
            cases ea'
            have hz := szB_ok hz
            obtain ⟨s3, sr3⟩ := own_upd sr2 e3 ea (q2.append (DVs.cons dv DVs.nil))
            exact ⟨a, vs, v, rfl, rfl, q1, by rw [q2.length]; omega, hk σ _ ((s1.trans (s2.trans s3)).stp) sr3⟩
          · exact hk.elim
        · exact hk.elim
    · exact h.elim
/-- xs[j] = e, xs a slot's list -/
def sSetIx (i : Nat) (fe fi : M R) : MS := sb fe fun r => fun ρ => match toI r ρ with
  | .ok d ρ1 => if isOwn i ρ1 then sb fi (fun j => fun ρ => match j, ρ[i]? with
    | .imm (.int k), some (some (.own (.lst xs))) => match ixN xs.length k with
      | some j => .next (ρ.set i (some (.own (.lst (xs.set j d)))))
      | none => .bad
    | _, _ => .bad) ρ1 else .bad
  | _ => .bad
theorem s_setIx (i : Nat) {o ix : Expr} {spos : Pos} {fi : M R} (hv : PE X o (tVar i)) (hi : PE X ix (tD X.K τ W fi)) (he : PE X e (tD X.K τ W f))
    (ha : ∀ v, assign (.Subscript o ix spos) X.env v = (do
      let ov ← holding [v] (eval o X.env)
      let iv ← holding [v, ov] (eval ix X.env)
      standAt spos
      holding [v, ov, iv] (setItem ov iv v)
      release [v, ov, iv] []) := by intro _; rfl)
    (hs : swapsWithSole [.Subscript o ix spos] e pos.line X.env = pure false := by rfl) (hw : swappedStores [.Subscript o ix spos] e X.env = pure none := by rfl)
    (h1 : (assignEach [.Subscript o ix spos] X.env).map (·.2) = [assign (.Subscript o ix spos) X.env] := by rfl) : PS X (.Assign [.Subscript o ix spos] e pos) (tS X.K τ W io (sSetIx i f fi)) :=
  PS.weak (ps_asg he (pg_sub hv hi set_list ha) hs hw h1) fun D σ H ⟨Φ, ρ, sr, h⟩ => by
    refine ⟨Φ, ρ, sr, DL.es h fun r ρ1 v H1 s1 sr1 rv hk => ?_⟩
    cases et : toI r ρ1 with
    | er x ρ2 => rw [et] at hk; exact hk.elim
    | bad => rw [et] at hk; exact hk.elim
    | ok d ρ2 =>
      rw [et] at hk
      dsimp only at hk
      obtain ⟨s2, sr2, dv⟩ := toI_ok rv.w sr1 et
      split at hk
      · rename_i ho
        obtain ⟨xs0, eo⟩ := isOwn_get ho
        obtain ⟨a, vs0, ea, q0, _⟩ := ownAt sr2 eo
        refine ⟨.ref a, ea, Φ, ρ2, sr2, DL.es (GoodS.shift hk (s1.trans s2).stp) fun j ρ3 w H3 s3 sr3 rw3 hk => ?_⟩
        split at hk
        · rename_i k xs e3
          split at hk
          · rename_i jj ej
            obtain ⟨a', vs, ea', q1, q2⟩ := ownAt sr3 e3
            rw [ea] at ea'
            cases ea'
            have dv3 := (s3.stp (io := [])).dv dv
            have rw3 : DV X.K H3 (Nn Φ σ ρ3) (.int k) w := rw3
            simp only [DV] at rw3
            obtain ⟨s4, sr4⟩ := own_upd sr3 e3 ea (q2.set jj dv3)
            exact ⟨a, vs, k, jj, rfl, rw3, q1, by rw [q2.length]; exact ej, hk σ _ (s3.trans s4).stp sr4⟩
          · exact hk.elim
        · exact hk.elim
      · exact hk.elim
/-- a, b = x, y with plain names -/
theorem xTup_w {K : PySem.W.Frag} {Φ : Addr → Prop} {σ : L2.St} {ρ : Env'} {H : Hp} {D1 : Ends} {a : Asg} {Q1 : List V → Hp → Prop} (h : GoodS K τ W io Φ σ ρ H D1 (sAsg (xTup ga) a ρ))
    (c : ∀ ds ρ1 vs H1 ρ2, ES σ ρ H ρ1 H1 → SR K τ H1 Φ σ ρ1 → DVs K H1 (Nn Φ σ ρ1) ds vs → a (.tup ds) ρ1 = some ρ2 → GoodS K τ W io Φ σ ρ1 H1 D1 (.next ρ2) → Q1 vs H1) : GoodA K τ W Φ σ ρ H Q1 (ga ρ) := by
  unfold sAsg sb xTup mb at h
  cases eg : ga ρ with
  | bad => rw [eg] at h; exact h
  | er x ρ1 => rw [eg] at h; exact fun c d H' s sr xv => h c d σ H' s.stp sr xv
  | ok rs ρ1 =>
    rw [eg] at h
    dsimp only at h
    intro vs H1 s1 sr1 ra
    cases et : toIs rs ρ1 with
    | bad => rw [et] at h; exact h.elim
    | er x ρ2 => exact absurd et toIs_ner
    | ok ds ρ2 =>
      rw [et] at h
      dsimp only at h
      obtain ⟨s2, sr2, dv⟩ := toIs_ok ra sr1 et
      by_cases hz : szB ds.length = true
      · rw [if_pos hz] at h
        dsimp only [toI, mr] at h
        cases ea : a (.tup ds) ρ2 with
        | none => rw [ea] at h; exact h.elim
        | some ρ3 =>
          rw [ea] at h
          exact c ds ρ2 vs H1 ρ3 (s1.trans s2) sr2 dv ea (GoodS.shift h (s1.trans s2).stp)
      · rw [if_neg hz] at h; exact h.elim
theorem s_par2 (i j : Nat) {x y : Str} {a b : Expr} {px py pt : Pos} {kt k2 pt2} (hi : i ∉ io) (hj : j ∉ io) (hc : X.calm = true) (hN : X.N.Nodup) (hxi : X.N[i]? = some x) (hyj : X.N[j]? = some y) (hij : i ≠ j)
    (hx : X.env.scope.names.lookup x = some .local) (hy : X.env.scope.names.lookup y = some .local) (ha : PA X [a, b] (tA X.K τ W ga))
    (hw : swappedStores [.Tuple [.Name x px, .Name y py] kt pt] (.Tuple [a, b] k2 pt2) X.env = pure (some [x, y]))
    (hs : swapsWithSole [.Tuple [.Name x px, .Name y py] kt pt] (.Tuple [a, b] k2 pt2) pos.line X.env = pure false := by rfl) :
    PS X (.Assign [.Tuple [.Name x px, .Name y py] kt pt] (.Tuple [a, b] k2 pt2) pos) (tS X.K τ W io (sAsg (xTup ga) (asgT 2 (asgC (asg1 i) (asgC (asg1 j) asgN))))) :=
  PS.weak (ps_par hc hN hxi hyj hij hx hy ha hw hs) fun D σ H ⟨Φ, ρ, sr, h⟩ => by
    refine ⟨Φ, ρ, sr, xTup_w h fun ds ρ1 vs H1 ρ2 s1 sr1 dv ea hk => ?_⟩
    unfold asgT at ea
    dsimp only at ea
    split at ea
    · rename_i hl
      match ds, hl, dv, ea with
      | [d1, d2], _, dv, ea =>
        simp only [DVs] at dv
        obtain ⟨v, _, e1, h1, w, _, e2, h2, e3⟩ := dv
        subst e3
        subst e2
        subst e1
        have ea : some ((ρ1.set i (some (.imm d1))).set j (some (.imm d2))) = some ρ2 := ea
        cases ea
        obtain ⟨s2, sr2⟩ := put_imm hi sr1 h1
        obtain ⟨s3, sr3⟩ := put_imm hj sr2 (s2.dv h2)
        exact ⟨v, w, rfl, hk _ H1 (s2.trans s3) sr3⟩
    · cases ea
theorem s_par3 (i j l : Nat) {x y z : Str} {a b c : Expr} {px py pz pt : Pos} {kt k2 pt2} (hi : i ∉ io) (hj : j ∉ io) (hl' : l ∉ io) (hc : X.calm = true) (hN : X.N.Nodup) (hxi : X.N[i]? = some x) (hyj : X.N[j]? = some y) (hzl : X.N[l]? = some z) (hij : i ≠ j) (hil : i ≠ l) (hjl : j ≠ l)
    (hx : X.env.scope.names.lookup x = some .local) (hy : X.env.scope.names.lookup y = some .local) (hz : X.env.scope.names.lookup z = some .local) (ha : PA X [a, b, c] (tA X.K τ W ga))
    (hw : swappedStores [.Tuple [.Name x px, .Name y py, .Name z pz] kt pt] (.Tuple [a, b, c] k2 pt2) X.env = pure (some [x, y, z]))
    (hs : swapsWithSole [.Tuple [.Name x px, .Name y py, .Name z pz] kt pt] (.Tuple [a, b, c] k2 pt2) pos.line X.env = pure false := by rfl) :
    PS X (.Assign [.Tuple [.Name x px, .Name y py, .Name z pz] kt pt] (.Tuple [a, b, c] k2 pt2) pos) (tS X.K τ W io (sAsg (xTup ga) (asgT 3 (asgC (asg1 i) (asgC (asg1 j) (asgC (asg1 l) asgN)))))) :=
  PS.weak (ps_par3 hc hN hxi hyj hzl hij hil hjl hx hy hz ha hw hs) fun D σ H ⟨Φ, ρ, sr, h⟩ => by
    refine ⟨Φ, ρ, sr, xTup_w h fun ds ρ1 vs H1 ρ2 s1 sr1 dv ea hk => ?_⟩
    unfold asgT at ea
    dsimp only at ea
    split at ea
    · rename_i hl
      match ds, hl, dv, ea with
      | [d1, d2, d3], _, dv, ea =>
        simp only [DVs] at dv
        obtain ⟨v, _, e1, h1, w, _, e2, h2, u, _, e3, h3, e4⟩ := dv
        subst e4
        subst e3
        subst e2
        subst e1
        have ea : some (((ρ1.set i (some (.imm d1))).set j (some (.imm d2))).set l (some (.imm d3))) = some ρ2 := ea
        cases ea
        obtain ⟨s2, sr2⟩ := put_imm hi sr1 h1
        obtain ⟨s3, sr3⟩ := put_imm hj sr2 (s2.dv h2)
        obtain ⟨s4, sr4⟩ := put_imm hl' sr3 (s3.dv (s2.dv h3))
        exact ⟨v, w, u, rfl, hk _ H1 (s2.trans (s3.trans s4)) sr4⟩
    · cases ea
/-- code that is never come to; break, continue -/
def sBad : MS := fun _ => .bad
theorem s_bad : PS X st (tS X.K τ W io sBad) := PS.weak ps_never fun D σ H ⟨Φ, ρ, sr, h⟩ => h
def sBrk : MS := fun ρ => .brk ρ
def sCnt : MS := fun ρ => .cnt ρ
theorem s_brk : PS X (.Break pos) (tS X.K τ W io sBrk) := PS.weak ps_break fun D σ H ⟨Φ, ρ, sr, h⟩ => h σ H Stp.refl sr
theorem s_cnt : PS X (.Continue pos) (tS X.K τ W io sCnt) := PS.weak ps_continue fun D σ H ⟨Φ, ρ, sr, h⟩ => h σ H Stp.refl sr
end
end DL

/-! ## DM -/
set_option Elab.async false
set_option linter.all false
set_option maxRecDepth 100000
set_option maxHeartbeats 4000000
/-! DM: written tuples by a Bool of the head. -/
namespace DL
open PySem L2 PySem.Spec
def litV : Value → D → Bool
  | .int i _, .int j => decide (i = j)
  | .str x _, .str y => decide (x = y)
  | .bool a, .bl b => a == b
  | .none, .non => true
  | _, _ => false
def litVs : List Value → List D → Bool
  | [], [] => true
  | v :: vs, d :: ds => litV v d && litVs vs ds
  | _, _ => false
def tupB (K : PySem.W.Frag) (x : Str) (ds : List D) : Bool := match PySem.W.nsIn K mainGlobals x with
  | some (some (.ref a)) => match K.lookup a with
    | some ⟨.type "tuple", _, .seq its _, _⟩ => szB its.size && litVs its.toList ds
    | _ => false
  | _ => false
theorem litVs_ok {K : PySem.W.Frag} {H : Hp} {N : Addr → Prop} : ∀ {vs : List Value} {ds : List D}, litVs vs ds = true → ∃ ws, Vals ws vs ∧ DVs K H N ds ws
  | [], [], _ => ⟨[], .nil, DVs.nil⟩
  | [], _ :: _, h => by cases h
  | _ :: _, [], h => by cases h
  | v :: vs, d :: ds, h => by
    have h : (litV v d && litVs vs ds) = true := h
    rw [Bool.and_eq_true] at h
    obtain ⟨ws, h1, h2⟩ := litVs_ok (K := K) (H := H) (N := N) h.2
    obtain ⟨h, _⟩ := h
    unfold litV at h
    split at h
    · have e := of_decide_eq_true h
      subst e
      exact ⟨.int _ :: ws, .cons ⟨_, rfl⟩ h1, DVs.cons (by simp only [DV]) h2⟩
    · have e := of_decide_eq_true h
      subst e
      exact ⟨.str _ :: ws, .cons ⟨_, rfl⟩ h1, DVs.cons (by simp only [DV]) h2⟩
    · have e := eq_of_beq h
      subst e
      exact ⟨.bl _ :: ws, .cons rfl h1, DVs.cons (by simp only [DV]) h2⟩
    · exact ⟨.non :: ws, .cons rfl h1, DVs.cons (by simp only [DV]) h2⟩
    · cases h
/-- what is known of a written tuple -/
def TupK (K : PySem.W.Frag) (mg : Str → Option Value) (x : Str) (ds : List D) : Prop := ∃ a : Addr, mg x = some (.ref a) ∧ ∀ H N, DV K H N (.tup ds) (.ref a)
theorem tupB_ok {K : PySem.W.Frag} {h : Heap} {mg : Str → Option Value} {x : Str} {ds : List D} (X : K.In h) (G : h.Ns mainGlobals mg) (c : tupB K x ds = true) : TupK K mg x ds := by
  unfold tupB at c
  split at c
  · rename_i a e
    split at c
    · rename_i od its n sl lk
      rw [Bool.and_eq_true] at c
      refine ⟨a, PySem.W.mg_of X G e, fun H N => ?_⟩
      obtain ⟨ws, h1, h2⟩ := litVs_ok (K := K) (H := H) (N := N) c.2
      simp only [DV]
      exact ⟨a, ws, rfl, .inr ⟨_, its, n, lk, rfl, rfl, szB_ok c.1, h1⟩, h2⟩
    · cases c
  · cases c
theorem d_gtl {X : Cx} {W : WX} {x : Str} {ds : List D} {pos : Pos} (t : TupK X.K X.mg x ds) (hg : Gl X x) (hd : (x == ("__debug__" : Str)) = false := by decide) : PE X (.Name x pos) (tD X.K τ W (xC (.tup ds))) := by
  obtain ⟨a, hm, dv⟩ := t
  exact d_c (pe_glob (v := .ref a) hg hm rfl hd) dv
theorem d_gi {X : Cx} {W : WX} {x : Str} {i : Int} {pos : Pos} (hm : ∃ t, X.mg x = some (.int i t)) (hg : Gl X x) (hd : (x == ("__debug__" : Str)) = false := by decide) : PE X (.Name x pos) (tD X.K τ W (xC (.int i))) := by
  obtain ⟨t, hm⟩ := hm
  exact d_gint hg hm hd
end DL

/-! ## DN -/
set_option Elab.async false
set_option linter.all false
set_option maxRecDepth 100000
set_option maxHeartbeats 4000000
/-! DN: more statements and iterables: name op= e, enumerate. -/
namespace DL
open PySem L2
section
variable {X : Cx} {W : WX} {io : List Nat} {e : Expr} {f : M R} {ga : M (List R)} {pos p : Pos}
/-- name op= e, the name data -/
def sAug (i : Nat) (op : D → D → Option P) (f : M R) : MS := fun ρ => match ρ[i]? with
  | some (some (.imm d)) => sb f (fun r => fun ρ => match rdI r ρ with
    | some e => match op d e with
      | some (.d z) => .next (ρ.set i (some (.imm z)))
      | _ => .bad
    | none => .bad) ρ
  | _ => .bad
theorem s_aug (i : Nat) {x : Str} {pos' : Pos} {o : Operator} {r : R2} {op : D → D → Option P} (p : PB X.K r op) (ho : PIp X o r) (hi : i ∉ io) (hN : X.N.Nodup) (hx : X.N[i]? = some x) (hl : Loc X.env.scope x) (he : PE X e (tD X.K τ W f))
    (hf : X.fn x = true ∨ X.env.scope.names.lookup x = some .local := by first | exact .inl rfl | exact .inr rfl | assumption) : PS X (.AugAssign (.Name x pos') o e pos) (tS X.K τ W io (sAug i op f)) :=
  PS.weak (ps_aug hN hx hl he ho hf) fun D σ H ⟨Φ, ρ, sr, h⟩ => by
    unfold sAug at h
    cases ec : ρ[i]? with
    | none => rw [ec] at h; exact h.elim
    | some oc =>
      cases oc with
      | none => rw [ec] at h; exact h.elim
      | some c =>
        cases c with
        | own u => rw [ec] at h; exact h.elim
        | bor u => rw [ec] at h; exact h.elim
        | imm d =>
          rw [ec] at h
          dsimp only at h
          obtain ⟨v, e1, dv⟩ := sr.cell i _ ec
          refine ⟨v, e1, Φ, ρ, sr, DL.es h fun r' ρ1 y H1 s1 sr1 rv hk => ?_⟩
          cases e2 : rdI r' ρ1 with
          | none => rw [e2] at hk; exact hk.elim
          | some d2 =>
            rw [e2] at hk
            dsimp only at hk
            have dv1 : DV X.K H1 (Nn Φ σ ρ1) d v := (s1.stp (io := [])).dv dv
            refine p _ _ _ _ d d2 _ (fun a z => sr1.nnLv z) dv1.rd (rv.w.rd sr1 e2) ?_
            cases eo : op d d2 with
            | none => rw [eo] at hk; exact hk.elim
            | some z =>
              cases z with
              | l xs => rw [eo] at hk; exact hk.elim
              | d z =>
                rw [eo] at hk
                intro w H2 g dw
                have sr2 := g.sr sr1
                obtain ⟨s3, sr3⟩ := put_imm hi sr2 dw
                exact hk _ H2 ((s1.trans g.es).stp.trans s3) sr3
theorem pi_i {f : Value → Value → Sem Value} {o : Operator} {r : R2} (h : OpR X (inplaceOp o) r) : PIp X o r := h
end
/-! ### in, not in -/
def seqOf : D → Option (List D)
  | .tup xs => some xs
  | .lst xs => some xs
  | .scr xs => some xs
  | _ => none
def inD : D → D → Option Bool
  | .int i, e => match seqOf e with
    | some xs => (intsOf xs).map fun ns => ns.any fun n => n == i
    | none => none
  | d, .lst xs => match toPy d, toPys xs with
    | some p, some ps => if SeqAt.shaped p && SeqAt.shaped (.list ps) then some (ps.any fun z => PyData.eqv z p) else none
    | _, _ => none
  | _, _ => none
def opIn (d e : D) : Option P := (inD d e).map fun k => .d (.bl k)
def opNin (d e : D) : Option P := (inD d e).map fun k => .d (.bl (!k))
theorem inV_ints (i : Int) : ∀ ns : List Int, inV (.int i) (ns.map V.int) = ns.any fun n => n == i
  | [] => rfl
  | n :: ns => by
    have ih := inV_ints i ns
    unfold inV at ih ⊢
    rw [List.map_cons, List.any_cons, List.any_cons, ih]
    rfl
theorem flat_ints : ∀ ns : List Int, (ns.map V.int).all flatV = true
  | [] => rfl
  | n :: ns => by
    rw [List.map_cons, List.all_cons, flat_ints ns]
    rfl
theorem inD_w {K : PySem.W.Frag} {N : Addr → Prop} {H : Hp} {x y : V} {d e : D} {k : Bool} (hx : RD K H N d x) (hy : RD K H N e y) (h : inD d e = some k) (neg : Bool) {Q : VK} (q : Q (.bl (if neg then !k else k)) H) :
    rIn K neg x y H Q ∨ ((∃ p ps, Dp K H x p ∧ Dp K H y (.list ps) ∧ SeqAt.shaped p = true ∧ SeqAt.shaped (.list ps) = true ∧ k = ps.any fun z => PyData.eqv z p)) := by
  have dat : ∀ xs, e = .lst xs → (match toPy d, toPys xs with
    | some p, some ps => if SeqAt.shaped p && SeqAt.shaped (.list ps) then some (ps.any fun z => PyData.eqv z p) else none
    | _, _ => none) = some k → ∃ p ps, Dp K H x p ∧ Dp K H y (.list ps) ∧ SeqAt.shaped p = true ∧ SeqAt.shaped (.list ps) = true ∧ k = ps.any fun z => PyData.eqv z p := fun xs ee h0 => by
    subst ee
    cases e1 : toPy d with
    | none => rw [e1] at h0; cases h0
    | some p =>
      cases e2 : toPys xs with
      | none => rw [e1, e2] at h0; cases h0
      | some ps =>
        rw [e1, e2] at h0
        dsimp only at h0
        split at h0
        · rename_i hz
          rw [Bool.and_eq_true] at hz
          cases h0
          exact ⟨p, ps, hx.dp e1, hy.dp (by simp [toPy, e2]), hz.1, hz.2, rfl⟩
        · cases h0
  have iis : ∀ i xs, d = .int i → seqOf e = some xs → (intsOf xs).map (fun ns => ns.any fun n => n == i) = some k → rIn K neg x y H Q := fun i xs ed es h0 => by
    subst ed
    obtain ⟨ns, e1, e2⟩ := Option.map_eq_some_iff.mp h0
    have at' : ∃ a vs, y = .ref a ∧ (SqL K H a vs ∨ SqT K H a vs) ∧ DVs K H N xs vs := by
      cases e with
      | tup ys => cases es; obtain ⟨a, vs, ea, t, dv⟩ := rd_tup hy; exact ⟨a, vs, ea, .inr t.sq, dv⟩
      | lst ys => cases es; obtain ⟨a, vs, ea, t, dv⟩ := rd_lst hy; exact ⟨a, vs, ea, .inl (SqL.of t), dv⟩
      | scr ys => cases es; obtain ⟨a, vs, ea, t, dv⟩ := rd_scr hy; exact ⟨a, vs, ea, .inl t.sq, dv⟩
      | _ => cases es
    obtain ⟨a, vs, ea, sq, dv⟩ := at'
    have ev := intsOf_dv dv e1
    subst ev
    refine ⟨a, _, ea, sq, by rw [rd_int hx]; rfl, flat_ints ns, ?_⟩
    rw [rd_int hx, inV_ints, e2]
    exact q
  unfold inD at h
  split at h
  · rename_i i
    split at h
    · rename_i xs es
      exact .inl (iis _ xs rfl es h)
    · cases h
  · exact .inr (dat _ rfl h)
  · cases h
abbrev rInA (K : PySem.W.Frag) : R2 := fun x y H Q => rIn K false x y H Q ∨ rInD K x y H Q
abbrev rNinA (K : PySem.W.Frag) : R2 := fun x y H Q => rIn K true x y H Q ∨ rNotInD K x y H Q
theorem pb_in {K : PySem.W.Frag} : PB K (rInA K) opIn := by
  intro N H x y d e Q lv hx hy q
  unfold opIn at q
  cases ek : inD d e with
  | none => rw [ek] at q; exact q.elim
  | some k =>
    rw [ek] at q
    have q : Q (.bl k) H := q _ _ .refl dv_bl
    rcases inD_w hx hy ek false (Q := Q) q with z | ⟨p, ps, h1, h2, h3, h4, h5⟩
    · exact .inl z
    · exact .inr ⟨p, ps, h1, h2, h3, h4, by rw [← h5]; exact q⟩
theorem pb_nin {K : PySem.W.Frag} : PB K (rNinA K) opNin := by
  intro N H x y d e Q lv hx hy q
  unfold opNin at q
  cases ek : inD d e with
  | none => rw [ek] at q; exact q.elim
  | some k =>
    rw [ek] at q
    have q : Q (.bl (!k)) H := q _ _ .refl dv_bl
    rcases inD_w hx hy ek true (Q := Q) q with z | ⟨p, ps, h1, h2, h3, h4, h5⟩
    · exact .inl z
    · exact .inr ⟨p, ps, h1, h2, h3, h4, by rw [← h5]; exact q⟩
section
variable {X : Cx} {W : WX} {a b : Expr} {f g : M R} {pos : Pos}
theorem d_in (hu : X.A.units + 65 < cLine) (ha : PE X a (tD X.K τ W f)) (hb : PE X b (tD X.K τ W g)) (hm : behindInMarks .In b = false := by rfl) : PE X (.Compare a [.In] [b] pos) (tD X.K τ W (xBin opIn f g)) := d_bin pb_in (pe_cmpR (OpR.or op_in_seq (op_inD hu)) ha hb hm)
theorem d_nin (hu : X.A.units + 65 < cLine) (ha : PE X a (tD X.K τ W f)) (hb : PE X b (tD X.K τ W g)) (hm : behindInMarks .NotIn b = false := by rfl) : PE X (.Compare a [.NotIn] [b] pos) (tD X.K τ W (xBin opNin f g)) := d_bin pb_nin (pe_cmpR (OpR.or op_notIn_seq (op_notInD hu)) ha hb hm)
theorem t_in (hu : X.A.units + 65 < cLine) (ha : PE X a (tD X.K τ W f)) (hb : PE X b (tD X.K τ W g)) (hm : behindInMarks .In b = false := by rfl) : PT X (.Compare a [.In] [b] pos) (tT X.K τ W (xAsB (xBin opIn f g))) := d_tcmp pb_in (pt_cmpR (OpR.or op_in_seq (op_inD hu)) ha hb hm)
theorem t_nin (hu : X.A.units + 65 < cLine) (ha : PE X a (tD X.K τ W f)) (hb : PE X b (tD X.K τ W g)) (hm : behindInMarks .NotIn b = false := by rfl) : PT X (.Compare a [.NotIn] [b] pos) (tT X.K τ W (xAsB (xBin opNin f g))) := d_tcmp pb_nin (pt_cmpR (OpR.or op_notIn_seq (op_notInD hu)) ha hb hm)
end
/-! ### enumerate of a list -/
def enumD : Nat → List D → List D
  | _, [] => []
  | i, x :: xs => .tup [.int (i : Int), x] :: enumD (i + 1) xs
theorem enumD_length : ∀ (i : Nat) (xs : List D), (enumD i xs).length = xs.length
  | _, [] => rfl
  | i, _ :: xs => congrArg (· + 1) (enumD_length (i + 1) xs)
theorem enumD_get : ∀ {xs : List D} {i k : Nat} {x : D}, xs[k]? = some x → (enumD i xs)[k]? = some (.tup [.int ((i + k : Nat) : Int), x])
  | [], _, _, _, h => by simp at h
  | y :: xs, i, 0, x, h => by
    have h : some y = some x := by simpa using h
    cases h
    rfl
  | y :: xs, i, k + 1, x, h => by
    have := enumD_get (xs := xs) (i := i + 1) (k := k) (x := x) (by simpa using h)
    rw [show i + (k + 1) = i + 1 + k by omega]
    exact this
theorem walkd_enum {K : PySem.W.Frag} {N : Addr → Prop} {H : Hp} {a : Addr} {xs : List D} (ha : SeqD K H N false a xs) : WalkD K N H (Ite K a) (enumD 0 xs) := fun H' N' k f lv => by
  obtain ⟨vs, dv, q⟩ := (ha.keep k f).sq
  have l := dv.length
  have le := enumD_length 0 xs
  refine ⟨fun i hi => ⟨vs, vs[i]'(by omega), q, by simp [show i < vs.length by omega]⟩, ⟨vs, q, by omega⟩, fun i v H'' hi y => ?_⟩
  obtain ⟨T, x, e1, e2, e3, e4⟩ := y
  obtain ⟨d, g1, h1⟩ := dv.get (e4 vs q)
  rw [e1, e3]
  have g := enumD_get (i := 0) g1
  rw [Nat.zero_add] at g
  exact ⟨.new e2, _, g, dv_tupG (DVs.cons dv_int (DVs.cons h1 DVs.nil)) e2 lv⟩
def enum1 : List D → Option (List D)
  | [d] => match seqD d with
    | some (false, xs) => some (enumD 0 xs)
    | _ => none
  | _ => none
def xEnum (ga : M (List R)) : M (List D) := mb ga fun rs => mb (toIs rs) fun ds => mo (enum1 ds)
theorem i_enum {X : Cx} {W : WX} {e : Expr} {ga : M (List R)} {p pos tpos : Pos} {elts : List Expr} {kk : Nat} (hg : Gl X "enumerate") (hm : X.mg "enumerate" = none) (ha : PA X [e] (tA X.K τ W ga)) (hs : starEach [e] X.env = [(false, eval e X.env)] := by rfl) :
    PI X (.Tuple elts kk tpos) (.Call (.Name "enumerate" p) [e] [] pos) (tI X.K τ W (xEnum ga)) := PI.weak (pi_enum hg hm ha hs) fun σ H Rr q => by
  obtain ⟨Φ, ρ, sr, h⟩ := q
  refine ⟨Φ, ρ, sr, ma_i h fun rs ρ1 xs H1 s1 sr1 ra hk => ?_⟩
  obtain ⟨ds, ρ2, s2, sr2, dv, hk⟩ := toIs_i ra sr1 (hk.shift s1)
  have hk : GoodI X.K τ W Φ σ ρ2 H1 Rr (mo (enum1 ds) ρ2) := hk.shift s2
  cases ez : enum1 ds with
  | none => rw [ez] at hk; exact hk.elim
  | some zs =>
    rw [ez] at hk
    unfold enum1 at ez
    split at ez
    · rename_i d
      split at ez
      · rename_i xs1 q1
        cases ez
        simp only [DVs] at dv
        obtain ⟨v, _, e1, dv1, e2⟩ := dv
        obtain ⟨a, ea, sa⟩ := seqD_at dv1 q1
        obtain ⟨vs, _, qa⟩ := sa.sq
        exact ⟨a, vs, by rw [e1, e2, ea], qa, hk _ H1 ES.refl sr2 (walkd_enum sa)⟩
      · cases ez
    · cases ez
/-! ### xs[::-1] of a list -/
def opRev : D → Option P
  | .lst xs => some (.l xs.reverse)
  | .scr xs => some (.l xs.reverse)
  | _ => none
theorem DVs.rev {K : PySem.W.Frag} {H : Hp} {N : Addr → Prop} : ∀ {xs : List D} {vs : List V}, DVs K H N xs vs → DVs K H N xs.reverse vs.reverse
  | [], vs, h => by simp only [DVs] at h; rw [h]; exact DVs.nil
  | x :: xs, vs, h => by
    simp only [DVs] at h
    obtain ⟨v, r, e, h1, h2⟩ := h
    rw [e, List.reverse_cons, List.reverse_cons]
    exact DVs.append (DVs.rev h2) (DVs.cons h1 DVs.nil)
theorem pu_rev {K : PySem.W.Frag} : PU K (fun x H Q => ∃ a xs, x = .ref a ∧ SqL K H a xs ∧ ∀ p, H p = none → Q (.ref p) (upd H p (.lst xs.reverse))) opRev := by
  intro N H x d Q lv hx q
  rcases d with _|_|i|i|xs|xs|_|_|xs <;> first | exact False.elim q | skip
  · obtain ⟨a, vs, e1, t, dv⟩ := rd_lst hx
    exact ⟨a, vs, e1, SqL.of t, fun p hp => q p _ hp (DVs.rev dv)⟩
  · obtain ⟨a, vs, e1, t, dv⟩ := rd_scr hx
    exact ⟨a, vs, e1, t.sq, fun p hp => q p _ hp (DVs.rev dv)⟩
theorem d_rev {X : Cx} {W : WX} {e : Expr} {f : M R} {k : Nat} {p1 p2 p3 pos : Pos} (he : PE X e (tD X.K τ W f)) : PE X (.Subscript e (.Slice none none (some (.UnaryOp .USub (.Constant (.int 1) k p1) p2)) p3) pos) (tD X.K τ W (xUn opRev f)) := d_un pu_rev (pe_revL he)
/-! ### += of ints -/
def opAddI : D → D → Option P
  | .int i, .int j => some (.d (.int (i + j)))
  | _, _ => none
theorem pb_addI {K : PySem.W.Frag} : PB K (rI0 fun i j => .int (i + j)) opAddI := by
  intro N H x y d e Q lv hx hy q
  rcases d with _|_|i|i|xs|xs|_|_|_ <;> rcases e with _|_|j|j|ys|ys|_|_|_ <;> first | exact False.elim q | skip
  exact ⟨i, j, rd_int hx, rd_int hy, q _ _ .refl dv_int⟩
end DL

/-! ## DX -/
set_option Elab.async false
set_option linter.all false
set_option maxRecDepth 100000
set_option maxHeartbeats 4000000
/-! DX: try with several except clauses, each with or without a name. -/
namespace DL
open PySem L2 PySem.Spec PyProof.Rows
/-- an except clause: the class it names, the slot of its name, its suite's reading -/
structure Clz where
  c : Value
  i : Option Nat
  ts : Addr → Value → Option Addr → TS
/-- behind a suite its name is gone -/
def gone : Option Nat → Ends → Ends
  | none, D => D
  | some j, D => { nx := fun σ H => D.nx (σ.set j none) H, rt := D.rt, bk := fun σ H => D.bk (σ.set j none) H, ct := fun σ H => D.ct (σ.set j none) H }
/-- within it the name holds the error -/
def held (a : Addr) : Option Nat → L2.St → L2.St
  | none, σ => σ
  | some j, σ => σ.set j (some (.ref a))
def wHd (K : PySem.W.Frag) (Wo : WX) (D : Ends) : List Clz → WX
  | [] => Wo
  | q :: r => fun cls d σ H => ∃ b, PySem.W.exmOne K cls q.c = some b ∧ (b = true → ∀ a, H a = none → q.ts a cls d (gone q.i D) (held a q.i σ) H) ∧ (b = false → wHd K Wo D r cls d σ H)
/-- what is shown of a suite -/
abbrev SuiteOk (X : Cx) (suite : List Stmt) (ts : Addr → Value → Option Addr → TS) : Prop :=
  ∀ (a : Addr) (oe : Obj) (cls : Value) (d : Option Addr) (pn : List (Addr × Obj)), Zc cls d oe → (∃ vs, oe.data = .fields vs) → PSs (X.suite a ((a, oe) :: pn)) suite (ts a cls d)
inductive Hds (X : Cx) : List ExceptHandler → List Clz → Prop
  | nil : Hds X [] []
  | bare {x : Str} {c : Value} {ts : Addr → Value → Option Addr → TS} {b₀ : Stmt} {suite : List Stmt} {np pp : Pos} {hds : List ExceptHandler} {l : List Clz}
      (hc : Names X x c) (hsu : SuiteOk X (b₀ :: suite) ts) (r : Hds X hds l) : Hds X (.ExceptHandler (some (.Name x np)) none (b₀ :: suite) pp :: hds) (⟨c, none, ts⟩ :: l)
  | named {x n : Str} {c : Value} {i : Nat} {ts : Addr → Value → Option Addr → TS} {b₀ : Stmt} {suite : List Stmt} {np pp : Pos} {hds : List ExceptHandler} {l : List Clz}
      (hN : X.N.Nodup) (hi : X.N[i]? = some n) (hl : X.env.kindOf n = some .local) (hc : Names X x c) (hsu : SuiteOk X (b₀ :: suite) ts) (r : Hds X hds l) :
      Hds X (.ExceptHandler (some (.Name x np)) (some n) (b₀ :: suite) pp :: hds) (⟨c, some i, ts⟩ :: l)
/-- an error that was met, noted and set down: the state around it -/
structure Met (X : Cx) (pins : List (Addr × Obj)) (σ : L2.St) (H : Hp) (cls : Value) (d : Option Addr) (a : Addr) (B : Heap) (sI : Shared) (s : Shared) : Prop where
  inv : Inv X pins σ H sI
  nb : ∀ b o, sI.heap.get? b = some o → b ∉ frs X.stack → B.get? b = some o
  up : sI.heap.UpToSlots s.heap
  fl : HandSPX.FlyingZ B (X.env :: X.outer) a (Zc cls d) s.heap
  na : H a = none
  os : s.os = sI.os
  ag : AllBare s.gens
section
variable {X : Cx} {pins : List (Addr × Obj)} {σ : L2.St} {H : Hp} {cls : Value} {d : Option Addr} {a : Addr} {B : Heap} {sI s : Shared}
theorem Met.here (m : Met X pins σ H cls d a B sI s) : Inv X pins σ H s := m.inv.landed m.nb m.fl.1 m.up m.os m.ag
theorem Met.move (m : Met X pins σ H cls d a B sI s) {h' : Heap} (f : HandSPX.FlyingZ B (X.env :: X.outer) a (Zc cls d) h') (u : s.heap.UpToSlots h') : Met X pins σ H cls d a B sI { s with heap := h' } :=
  ⟨m.inv, m.nb, m.up.trans u, f, m.na, m.os, m.ag⟩
theorem Met.obj (m : Met X pins σ H cls d a B sI s) (hf : X.env.frame = some X.env.locals) : ∃ (oe : Obj) (vs : Array Value), s.heap.get? a = some oe ∧ Zc cls d oe ∧ oe.data = .fields vs ∧ a ≠ X.env.locals ∧ a ∉ X.fs := by
  obtain ⟨oe, vs, e, z, dd⟩ := m.fl.there
  have out : a ∉ frs (X.env :: X.outer) := fun hm => by
    obtain ⟨_, o', e', hnf⟩ := m.fl.2.2.1.mem hm
    rw [e] at e'
    cases e'
    exact hnf _ dd
  refine ⟨oe, vs, e, z, dd, fun y => out (List.mem_filterMap.mpr ⟨X.env, .head _, by rw [hf, y]⟩), fun y => ?_⟩
  obtain ⟨v, hv, q⟩ := List.mem_filterMap.mp y
  exact out (List.mem_filterMap.mpr ⟨v, .tail _ hv, q⟩)
/-- an error that no clause takes flies on -/
theorem Met.on {Wo : WX} {Q : Flow → Shared → Prop} (m : Met X pins σ H cls d a B sI s) (hs : X.stack = X.env :: X.outer) (hf : X.env.frame = some X.env.locals) (tk : Takes X Wo) (w : Wo cls d σ H) :
    wpAny (model X.prog X.w) X.A (handleBy (.ref a) X.env []) Q X.xe s := by
  refine wpAny_handleBy_nil ?_
  obtain ⟨_, _, _, oe, vs, T, oT, ts', he, hz, hd, h1, _⟩ := id m.fl
  unfold PySem.passOn
  refine wpAny_bind (wpAny_field he hd h1 ?_)
  rw [if_neg (show ¬ ((Value.ref T == Value.none) = true) from by simp)]
  have last : wpAny (model X.prog X.w) X.A (setFlight (.ref a) X.env.frame) (fun _ s4 => wpAny (model X.prog X.w) X.A (throw (.ref a) : Sem Flow) Q X.xe s4) X.xe s := by
    rw [hf]
    refine HandSPX.setFlight_upZ m.fl fun h4 hh4 up4 => wpAny_throw (tk _ _ ⟨a, B, sI, pins, σ, H, cls, d, rfl, m.inv, m.nb, m.up.trans up4, .inr (.inr ?_), m.na, m.os, m.ag, w⟩)
    rw [hs]
    exact hh4
  first
    | exact wpAny_bind (wpAny_pure (wpAny_bind last))
    | exact wpAny_bind last
/-- the class that a clause names is looked at -/
theorem Met.test {x : Str} {c : Value} {np : Pos} {b : Bool} {Q : Bool → Shared → Prop} {E : Value → Shared → Prop} (m : Met X pins σ H cls d a B sI s) (hf : X.env.frame = some X.env.locals) (hc : Names X x c) (hb : PySem.W.exmOne X.K cls c = some b) (q : Q b s) :
    wpAny (model X.prog X.w) (X.A.mark (some (.ref a))) (eval (.Name x np) X.env) (fun v s' => wpAny (model X.prog X.w) (X.A.mark (some (.ref a))) (excMatches (.ref a) v) Q E s') E s := by
  obtain ⟨oe, vs, e, z, dd, nL, nF⟩ := m.obj hf
  have S := m.here.suite e dd m.na nL nF
  have LT : PySem.W.Looks (model X.prog X.w) s.heap (typeOf (.ref a)) cls := fun A Q E s' k r => wpAny_typeOf_ref (k _ _ e) (by rw [z.1]; exact r)
  have LM := PySem.W.exm_one (M := model X.prog X.w) m.here.kIn LT hb
  obtain ⟨hg, hdbg, hm | ⟨hm, hv, hnn⟩⟩ := hc
  · exact ld_glob S hg hm (LM.here q) hdbg
  · exact ld_blt S hg hm hv (LM.here q) hnn hdbg
/-- a suite's end -/
theorem SP.back {oe : Obj} {D : Ends} {f : Flow} (ok : X.Ok) (h : SP (X.suite a ((a, oe) :: (X.pn ++ pins))) [] D f s) : SP X pins D f s := by
  rcases f with _ | _ | _ | u
  · obtain ⟨σ6, H6, S6, q⟩ := h; exact ⟨σ6, H6, S6.unsuite ok, q⟩
  · obtain ⟨σ6, H6, S6, q⟩ := h; exact ⟨σ6, H6, S6.unsuite ok, q⟩
  · obtain ⟨σ6, H6, S6, q⟩ := h; exact ⟨σ6, H6, S6.unsuite ok, q⟩
  · obtain ⟨v, σ6, H6, S6, r, q⟩ := h; exact ⟨v, σ6, H6, S6.unsuite ok, r, q⟩
/-- the clauses, one after the other -/
theorem Met.clauses {Wo : WX} {D : Ends} (hs : X.stack = X.env :: X.outer) (hf : X.env.frame = some X.env.locals) (tk : Takes X Wo) : ∀ {hds : List ExceptHandler} {l : List Clz}, Hds X hds l → ∀ {s : Shared}, Met X pins σ H cls d a B sI s → wHd X.K Wo D l cls d σ H →
    wpAny (model X.prog X.w) X.A (handleBy (.ref a) X.env hds) (SP X pins D) X.xe s := by
  intro hds l hh
  have take : ∀ {s : Shared} {i : Option Nat} {ts : Addr → Value → Option Addr → TS} {su : List Stmt} {oe : Obj} {vs : Array Value} {σ0 : L2.St}, Met X pins σ H cls d a B sI s → SuiteOk X su ts → Zc cls d oe → oe.data = .fields vs →
      ∀ {s5 : Shared}, Inv (X.suite a ((a, oe) :: (X.pn ++ pins))) [] σ0 H s5 → ts a cls d (gone i D) σ0 H → wpAny (model X.prog X.w) (X.A.mark (some (.ref a))) (execs su X.env) (SP X pins (gone i D)) (fun _ _ => False) s5 := fun {s i ts su oe vs σ0} m hsu z dd {s5} I t =>
    thn ((hsu a oe cls d (X.pn ++ pins) z ⟨_, dd⟩).run [] s5 σ0 H _ I t) fun _ _ q => DL.SP.back m.inv.ok q
  induction hh with
  | nil => intro s m w; exact m.on hs hf tk w
  | bare hc hsu _ ih =>
    intro s m w
    obtain ⟨b, hb, yes, no⟩ := w
    refine wpAny_handleBy_cons (codeAny_handlers_test (m.test hf hc hb ?_)) (by intro q; cases q)
    cases b with
    | false => exact ih m (no rfl)
    | true =>
      refine codeAny_handlers_suite (HandSPX.lands_againZ m.fl fun h4 f4 u4 => ?_)
      have m4 := m.move f4 u4
      obtain ⟨oe, vs, e, z, dd, nL, nF⟩ := m4.obj hf
      exact wpAny_mono (take (i := none) m4 hsu z dd (m4.here.suite e dd m.na nL nF) (yes rfl a m.na)) (fun _ _ q => q) fun _ _ q => False.elim q
  | @named _ n _ i _ _ _ _ pp _ _ hN hi hl hc hsu _ ih =>
    intro s m w
    obtain ⟨b, hb, yes, no⟩ := w
    refine wpAny_handleBy_cons (codeAny_handlers_test (m.test hf hc hb ?_)) (by intro q; cases q)
    cases b with
    | false => exact ih m (no rfl)
    | true =>
      refine codeAny_handlers_suite_as (HandSPX.lands_againZ m.fl fun h4 f4 u4 => ?_)
      have m4 := m.move f4 u4
      obtain ⟨oe, vs, e, z, dd, nL, nF⟩ := m4.obj hf
      refine store_ok (X := X.suite a ((a, oe) :: (X.pn ++ pins))) (v := .ref a) (m4.here.suite e dd m.na nL nF) hN hi (.inl hl) rfl (fun s5 S5 => ?_) (.inr hl)
      have out : ∀ {σ6 : L2.St} {H6 : Hp} {s6 : Shared} {Q : Shared → Prop}, Inv X pins σ6 H6 s6 → (∀ s7, Inv X pins (σ6.set i none) H6 s7 → Q s7) →
          wpAny (model X.prog X.w) X.A (do bindName X.env n .none; unbindBehindTheSuite X.env n pp) (fun _ s7 => Q s7) X.xe s6 := fun I q => gone_ok I hN hi hl q
      refine wpAny_mono (take (i := some i) m4 hsu z dd S5 (yes rfl a m.na)) (fun f s6 q => ?_) fun _ _ q => False.elim q
      rcases f with _ | _ | _ | u
      · obtain ⟨σ6, H6, I6, q6⟩ := q; exact out I6 fun s7 J => ⟨_, _, J, q6⟩
      · obtain ⟨σ6, H6, I6, q6⟩ := q; exact out I6 fun s7 J => ⟨_, _, J, q6⟩
      · obtain ⟨σ6, H6, I6, q6⟩ := q; exact out I6 fun s7 J => ⟨_, _, J, q6⟩
      · obtain ⟨v6, σ6, H6, I6, r6, q6⟩ := q; exact out I6 fun s7 J => ⟨_, _, _, J, r6, q6⟩
end
section
variable {X : Cx} {body : List Stmt} {h₀ : ExceptHandler} {hds : List ExceptHandler} {l : List Clz} {pos : Pos} {tb : WX → TS} {Wo : WX}
/-- THE RULE of try: the body's wish is what the clauses ask -/
theorem ps_tryC (hs : X.stack = X.env :: X.outer) (hf : X.env.frame = some X.env.locals) (tk : Takes X Wo)
    (hb : ∀ (W : WX) (pn : List (Addr × Obj)) (xe : Value → Shared → Prop), Takes (X.tr pn xe) W → PassesOwn (model X.prog X.w) X.A X.env xe → PSs (X.tr pn xe) body (tb W))
    (hh : Hds X (h₀ :: hds) l) : PS X (.Try body (h₀ :: hds) [] [] pos) (fun D σ H => tb (wHd X.K Wo D l) D σ H) := by
  refine ⟨fun pins s σ H D I h => wpAny_Try_except (wpAny_mono
    ((hb (wHd X.K Wo D l) (X.pn ++ pins) (fun e s₁ => wpAny (model X.prog X.w) X.A (noteFrame e X.env) (fun _ s₂ => wpAny (model X.prog X.w) X.A (setFlight e none) (fun _ s₃ =>
      wpAny (model X.prog X.w) X.A (handleBy e X.env (h₀ :: hds)) (SP X pins D) X.xe s₃) X.xe s₂) X.xe s₁) (fun u s' xx => ?_) PassesOwn.looking).run [] s σ H D (I.toTry _) h) (fun f s1 q => ?_) fun _ _ q => q)⟩
  · obtain ⟨a, B, sI, _, σ', H', cls, d, rfl, J, nb, up, sky, na, os, ag, w⟩ := xx
    have J' : Inv X pins σ' H' sI := J.ofTry I.ok
    refine Sky.land Zc.steady (by rw [I.ok.frames, hs]) hf (hs ▸ sky) fun h3 f3 u3 => ?_
    exact Met.clauses hs hf tk hh (s := { s' with heap := h3 }) ⟨J', nb, up.trans u3, f3, na, os, ag⟩ w
  · rcases f with _ | _ | _ | u
    · obtain ⟨σ', H', J', q⟩ := q; exact wpAny_execs_nil ⟨σ', H', J'.ofTry I.ok, q⟩
    · obtain ⟨σ', H', J', q⟩ := q; exact ⟨σ', H', J'.ofTry I.ok, q⟩
    · obtain ⟨σ', H', J', q⟩ := q; exact ⟨σ', H', J'.ofTry I.ok, q⟩
    · obtain ⟨v, σ', H', J', r, q⟩ := q; exact ⟨v, σ', H', J'.ofTry I.ok, r, q⟩
end
end DL

/-! ## DVk -/
set_option Elab.async false
set_option linter.all false
set_option maxRecDepth 100000
set_option maxHeartbeats 4000000
/-! DVk: KeyError as a base of error classes: it is made by the __new__ of LookupError. -/
namespace DL
open PySem PySem.Spec PySem.HandSPX
def kBase : List Value := [.type "KeyError", .type "LookupError", .type "Exception", .type "BaseException", .type "object"]
theorem store_KeyError : StoreFacts "KeyError" kBase "object.__setattr__" "object" where
  mro := by kernel_rfl
  slot := .of (owner := "object") (n := "__setattr__") (by rw [typeLookup_type, builtinLookup_eq_fast]; kernel_rfl) (by decide +kernel) (by decide +kernel) (by decide +kernel)
    (by first | exact .inl (by decide +kernel) | exact .inr (by decide +kernel)) (by rw [isSubtype_type]; kernel_rfl)
  entry := PySem.F.store_IndexError.entry
  kind := by decide +kernel
  split := by decide +kernel
  hasOwner := by decide +kernel
  args := fun a b c => by unfold argsOk; kernel_rfl
  passes := fun self => by kernel_rfl
/-- what making looks up in the classes above: the base whose __new__ it is, and two that hold more -/
structure Abv (B : String) (bm : List Value) : Prop where
  base : bm.contains (.type B) = true
  attr : bm.contains (.type "AttributeError") = false
  name : bm.contains (.type "NameError") = false
theorem Abv.of {B : String} {bm bmS : List Value} (h : Abv B bmS) (e : ∀ X : String, bm.contains (.type X) = bmS.contains (.type X)) : Abv B bm := ⟨(e B).trans h.base, (e _).trans h.attr, (e _).trans h.name⟩
theorem above {C : Addr} {T : String} {bm : List Value} {b : Bool} (h : bm.contains (.type T) = b) : (Value.ref C :: bm).contains (.type T) = b := by
  rw [List.contains_cons, h]
  cases b <;> rfl
theorem Abv.k : Abv "LookupError" kBase := ⟨by decide +kernel, by decide +kernel, by decide +kernel⟩
theorem Abv.f {B newId initId : String} {bmB : List Value} (F : ExcBaseFacts B newId initId bmB) : Abv B bmB := ⟨F.hasB, F.noAttr, F.noName⟩
section
variable {prog : Program} {w : World} {A : Around} {E : Value → Shared → Prop} {R : Result → Shared → Prop} {h : Heap} {g : Array GenState} {d : Drawn} {t : Nat} {os : OsState}
variable {nm q : Str} {C N fI : Addr} {bs bm bmB us : List Value} {hdct : Bool} {sn : List Str} {sub : List Value} {ab : Bool} {col : Option Bool} {dd : Option Addr} {k0 k1 k2 k3 k5 : Option Value} {B newId initId : String}
/-- type.__call__(C, ..): the base's __new__ lays the error, C's own __init__ goes on -/
theorem make_exc (F : ExcBaseFacts B newId initId bmB) (V : Abv B bm) {Q : Fin → Shared → Prop} (hC : h.get? C = some (excClassObj nm q C N bs bm hdct sn sub ab col dd k0 k1 k2 k3 k5 newId))
    (hi : W.Looks (model prog w) h (typeLookup (.ref C) "__init__") (some (.ref fI))) (hb : ∀ self, W.Looks (model prog w) h (bindSpecial (.ref fI) self) (.ref fI, [self])) (hl : us.length ≤ sizeLine)
    (hq : codeAny (model prog w) A (.call (.ref fI) ⟨.ref (h.objs.size + 1) :: us, []⟩)
      (fun r s' => match r with | .ok (.ret v) => v = .none ∧ Q (.done (.ret (.ref (h.objs.size + 1)))) s' | .ok _ => False | .error e => E e s') ⟨(h.push (W.kdv_tup us)).push (excO C h.objs.size), g, d, t, os⟩) :
    wpAny (model prog w) A (Builtin.«type.__call__» ⟨.ref C :: us, []⟩) Q E ⟨h, g, d, t, os⟩ := by
  have z1 := above (C := C) V.base
  have z2 := above (C := C) V.attr
  have z3 := above (C := C) V.name
  have z4 : (Value.ref C :: bm).contains (.ref C) = true := by simp
  have k : ∀ b o, h.get? b = some o → ((h.push (W.kdv_tup us)).push (excO C h.objs.size)).get? b = some o := fun b o e => Heap.get?_push_of_some _ (Heap.get?_push_of_some _ e)
  have fresh : ((h.push (W.kdv_tup us)).push (excO C h.objs.size)).get? (h.objs.size + 1) = some (excO C h.objs.size) := by heap_get
  have i1 := hi.keeps k
  have b1 := (hb (.ref (h.objs.size + 1))).keeps k
  have star := F.noStar
  have ends := F.ends
  -- who makes it
  repeat (first | with_reducible refine wpAny_loadPart_at hC ?_ | with_reducible refine wpAny_madeBy_exc hC ?_ | wp_step)
  refine codeAny_call_builtin_code (Code.quiet_builtin _ F.quiet) ?_
  · -- may it be called so
    simp only [checkBuiltinCall, F.newKind, F.newSplit, F.newRow]
    repeat (first | refine wpAny_loadPart_at hC ?_ | (refine wpAny_isSubtype_exc hC ?_; rw [z1]) | refine wpAny_staticBase_exc hC ?_ | refine wpAny_madeBy_exc hC ?_ | simp only [bne_self_eq_false, Bool.false_eq_true, if_false] | wp_step)
    -- it lays the error
    refine codeAny_builtinAt F.entry (PySem.wpAt_bind ?_)
    show wpAt _ _ _ (stack >>= _) _ _ _
    refine PySem.wpAt_bind (wpAt_stack fun p below => wpAt_of_wpAny ?_)
    wp_walk
    refine wpAt_of_wpAny ?_
    rw [F.owner]
    repeat (first | with_reducible refine wpAny_madeHere_exc F.canon hC ?_ | with_reducible refine wpAny_loadPart_at hC ?_ | (with_reducible refine wpAny_isSubtype_exc hC ?_; first | rw [z1] | rw [z2] | rw [z3]) | wp_step)
    rw [Heap.size_push]
    show wpAny _ _ _ _ _ _
    refine wpAny_isSubtype_exc (h := (h.push (W.kdv_tup us)).push (excO C h.objs.size)) (k _ _ hC) ?_
    rw [z4]
    repeat wp_step
    -- its own __init__
    show wpAny _ _ (typeLookup (.ref C) _) _ _ _
    refine i1.at (wpAny_holding (wpAny_bind (b1.at (wpAny_bind (wpAny_call (codeAny_mono hq fun r s' z => ?_))))))
    rcases r with e | (_ | _ | _ | v)
    · exact z
    · exact z.elim
    · exact z.elim
    · exact z.elim
    · obtain ⟨rfl, z⟩ := z
      first
        | exact wpAny_pure (wpAny_pure z)
        | (wp_walk; exact z)
/-- C(..) -/
theorem call_ownG (F : ExcBaseFacts B newId initId bmB) (V : Abv B bm) (hC : h.get? C = some (excClassObj nm q C N bs bm hdct sn sub ab col dd k0 k1 k2 k3 k5 newId))
    (hi : W.Looks (model prog w) h (typeLookup (.ref C) "__init__") (some (.ref fI))) (hb : ∀ self, W.Looks (model prog w) h (bindSpecial (.ref fI) self) (.ref fI, [self])) (hl : us.length ≤ sizeLine)
    (hq : codeAny (model prog w) (A.under (.builtin "type.__call__" ⟨.ref C :: us, []⟩)) (.call (.ref fI) ⟨.ref (h.objs.size + 1) :: us, []⟩) (W.InitBack (h.objs.size + 1) R) ⟨(h.push (W.kdv_tup us)).push (excO C h.objs.size), g, d, t, os⟩) :
    codeAny (model prog w) A (.call (.ref C) ⟨us, []⟩) R ⟨h, g, d, t, os⟩ := by
  have f1 := tc_lookup
  have f2 := tc_bind (.ref C)
  have ty : (⟨h, g, d, t, os⟩ : Shared).TypeIs (.ref C) "type" := ⟨_, hC, rfl⟩
  refine codeAny_of_tree ?_
  show wpAny _ _ (callAny (.ref C) _) _ _ _
  repeat (any_goals (first | assumption | with_reducible refine wpAny_loadPart_at hC ?_ | wp_step))
  refine ⟨rfl, codeAny_call_builtin_at (Code.quiet_builtin _ (by decide +kernel)) entry_typeCall (wpAny_check_type_call_sub hC (make_exc F V hC hi hb hl (codeAny_mono hq fun r s' z => ?_)))⟩
  rcases r with e | (v | _ | _ | _) <;> exact z
end
end DL

/-! ## DE -/
set_option Elab.async false
set_option linter.all false
set_option maxRecDepth 100000
set_option maxHeartbeats 4000000
/-! DE: error classes of the program: raised with a text, raised with a field. -/
namespace DL
open PySem L2 PySem.Spec PyProof.Rows
/-- what is asked of a class whose own __init__ stores one field, over any built-in class B -/
structure Fld1 (K : PySem.W.Frag) (C : Addr) (f : Str) : Prop where
  base : ∃ (B S newId initId : String) (bmB bmS : List Value), ExcBaseFacts B newId initId bmB ∧ StoreFacts S bmS "object.__setattr__" "object" ∧ PySem.W.excInitIn K C bmS newId = true ∧ PySem.W.excOver K C bmS = true ∧ Abv B bmS
  sa : PySem.W.findIn K (.ref C) "__setattr__" = some (some (.builtin "object.__setattr__"))
  tk : PySem.W.takerIn K C f = some none
  hd : PySem.W.hasDictIn K C = true
  exc : PySem.W.subIn K (.ref C) (.type "BaseException") = some true
  ty : PySem.W.typeIn K (.ref C) = some (.type "type")
  kp : PySem.W.keepIn K (.ref C) = true
section
variable {X : Cx} {pins : List (Addr × Obj)} {σ : L2.St} {H : Hp} {s : Shared} {a C : Addr} {f : Str} {y : V} {u : Value}
/-- the heap in which the error a got its dict at d, one field in it -/
abbrev gotF (H : Hp) (a C d : Addr) (f : Str) (y : V) : Hp := upd (upd H d (exd d [(f, y)])) a (exo a C (some d))
theorem gotF_other {d b : Addr} (h1 : b ≠ a) (h2 : b ≠ d) : gotF H a C d f y b = H b := (upd_ne h1).trans (upd_ne h2)
/-- .. is the state's again -/
theorem inv_gotF {h' : Heap} {t' : Nat} {d t1 : Addr} {mA : Str → Option Value} (I : Inv X pins σ H s) (e : H a = some (exo a C none)) (dn : s.heap.objs.size ≤ d) (k : ∀ b o, b ≠ a → s.heap.get? b = some o → h'.get? b = some o)
    (hx : h'.get? a = some { cls := .ref C, dict := some d, data := .fields #[.ref t1, .none, .none, .none, .bool false, .none] }) (hn : h'.Ns1 d mA) (r : ∀ g, RelO ([(f, y)].lookup g) (mA g)) :
    Inv X pins σ (gotF H a C d f y) { s with heap := h', toks := t' } := by
  have nd : H d = none := I.hok.fresh dn
  have low : ∀ {b : Addr} {o : Obj}, s.heap.get? b = some o → b ≠ d := fun {b o} q z => Nat.lt_irrefl _ (Nat.lt_of_lt_of_le (z ▸ Heap.lt_size q) dn)
  have notA : ∀ {b : Addr} {w : HO}, H b = some w → (exo a C none ≠ w) → b ≠ a := fun {b w} q n z => n (by rw [z, e] at q; exact Option.some.inj q)
  have same : ∀ {b : Addr} {w : HO}, H b = some w → (exo a C none ≠ w) → gotF H a C d f y b = some w := fun {b w} q n => (gotF_other (notA q n) (ne_of_none q nd)).trans q
  have freeA : ∀ {b : Addr}, H b = none → b ≠ a := fun {b} n z => by rw [z, e] at n; cases n
  refine I.un (t' := t') ⟨fun b o q n _ _ => k b o (freeA n) q, fun b o q n _ _ => ⟨o.slots, k b o (freeA n) q⟩, fun b o q n _ => (gotF_other (freeA n) (low q)).trans n, fun b o q _ => ?_, fun b xs q => same q exo_tup, fun b o v q => same q exo_frz, fun b ps q => ⟨#[], ?_⟩⟩ fun b o q => ?_
  · by_cases z : b = a
    · exact ⟨_, z ▸ hx⟩
    · exact ⟨o, k b o z q⟩
  · rw [same q exo_tbl]; simp
  · by_cases za : b = a
    · subst za
      rw [show gotF H b C d f y b = some (exo b C (some d)) from upd_same] at q
      cases q
      exact exo_ok hx
    · by_cases zd : b = d
      · subst zd
        rw [show gotF H a C b f y b = some (exd b [(f, y)]) from (upd_ne za).trans upd_same] at q
        cases q
        exact exd_ok hn r
      · rw [gotF_other za zd] at q
        refine (I.hok b o q).stay (fun c v hc z => k c v ?_ z) (fun c hc => same hc exo_own) fun c xs hc => same hc exo_tup
        rcases hc with hc | hc
        · rw [hc]; exact za
        · exact notA hc exo_own
/-- self.f = y in __init__ -/
theorem set_fld {A : Around} {Q : Unit → Shared → Prop} {E : Value → Shared → Prop} (T : Fld1 X.K C f) (I : Inv X pins σ H s) (e : H a = some (exo a C none)) (ry : RelV y u)
    (h : ∀ d s', H d = none → d ≠ a → Inv X pins σ (gotF H a C d f y) s' → Q () s') : wpAny (model X.prog X.w) A (setAttr (.ref a) f u) Q E s := by
  obtain ⟨B, S, nI, iI, bmB, bmS, _, SF, _, ov, _⟩ := T.base
  obtain ⟨t1, ho⟩ := exo_at I.hok e
  obtain ⟨cd, hc, hdct⟩ := PySem.W.any_some T.hd
  obtain ⟨hp, g, dr, t, os⟩ := s
  have at_ : PySem.W.InstAt hp a { cls := .ref C, dict := none, data := .fields #[.ref t1, .none, .none, .none, .bool false, .none] } C none := ⟨ho, rfl, rfl, trivial⟩
  have na : a ≠ hp.objs.size := Nat.ne_of_lt (Heap.lt_size ho)
  refine PySem.W.set_plain I.kIn at_ T.sa (PySem.W.osa_openX SF (I.kIn) at_ ov T.tk fun b => wpAny_bind (wpAny_pure (wpAny_bind (PySem.W.instanceDict_exc ho (PySem.W.looks_clsIn I.kIn hc) hdct ?_))))
  show wpAny _ _ (Builtin.ObjectAttr.storeInDict hp.objs.size _ f u) _ _ _
  refine HandSPX.store_in_new ⟨_, #[], _, (Heap.get?_update_ne _ _ _ _ na.symm).trans (Heap.get?_push_at rfl rfl), rfl, fun e he => absurd he (by simp), fun _ => rfl⟩ fun h' tk' hn' hs => ?_
  have old : (hp.push { cls := .type "dict", data := .dict #[] }).get? a = some { cls := .ref C, dict := none, data := .fields #[.ref t1, .none, .none, .none, .bool false, .none] } := Heap.get?_push_of_some _ ho
  refine h hp.objs.size ⟨h', g, dr, tk', os⟩ (I.hok.fresh (Nat.le_refl _)) na.symm (inv_gotF (t1 := t1) (t' := tk') I e (Nat.le_refl _) (fun b o hb q => ?_) ?_ hn' ?_)
  · exact (hs.2 b (Nat.ne_of_lt (Heap.lt_size q))).trans ((Heap.get?_update_ne _ _ _ _ hb).trans (Heap.get?_push_of_some _ q))
  · exact (hs.2 a na).trans (Heap.get?_update_self _ old rfl)
  · exact relO_put (fs := []) ry fun _ => True.intro
end
section
variable {X : Cx} {C : Addr} {f : Str} {o e : Expr} {te : TE} {i : Nat} {p pos p' : Pos}
theorem ps_fld (T : Fld1 X.K C f) (ho : PE X o (tVar i)) (he : PE X e te) (hs : swapsWith e (some (.Attribute o f p')) pos.line X.env = pure false := by rfl) :
    PS X (.Assign [.Attribute o f p'] e pos) (fun D σ H => te σ H fun y H1 => ∃ a, σ[i]? = some (some (.ref a)) ∧ H1 a = some (exo a C none) ∧ ∀ d, H1 d = none → d ≠ a → D.nx σ (gotF H1 a C d f y)) :=
  ⟨fun pins s σ H D I h => plainObj_wpAny_Assign_Attribute (thn (he.run pins s σ H _ I h) fun v s1 ⟨y, H1, I1, r1, a, e1, e2, q⟩ =>
    thn (ho.run pins s1 σ H1 (fun x H2 => x = .ref a ∧ H2 = H1) I1 ⟨_, e1, rfl, rfl⟩) fun u s2 ⟨x, H2, I2, r2, ex, eH⟩ => by
      subst ex eH
      cases (show u = Value.ref a from r2)
      exact set_fld T I2 e2 r1 fun d s' n ne J => ⟨σ, _, J, q d n ne⟩) hs⟩
end
section
variable {P : Program} {w : World} {K : PySem.W.Frag} {mg : Str → Option Value} {base : Heap}
/-- what such an __init__ does -/
def spFld (C : Addr) (f : Str) : Sp := fun vs H Q _ => ∃ (a : Addr) (y : V), vs = [.ref a, y] ∧ H a = some (exo a C none) ∧ ∀ d, H d = none → d ≠ a → Q .non (gotF H a C d f y)
theorem init_fld {C fI : Addr} {f sN vN qual : Str} {fd : FuncData} {params : Arguments} {scope : Scope} {p1 p2 p3 pos : Pos} (T : Fld1 K C f)
    (F : FunD K "__init__" qual params [.Assign [.Attribute (.Name sN p1) f p2] (.Name vN p3) pos] scope [] [] fI fd) (S : FnScope [sN, vN] [sN, vN] scope) (h1 : Vis scope sN) (h2 : Vis scope vN)
    (d1 : (sN == ("__debug__" : Str)) = false := by decide) (d2 : (sN == ("__classdict__" : Str)) = false := by decide) (d3 : (vN == ("__debug__" : Str)) = false := by decide) (d4 : (vN == ("__classdict__" : Str)) = false := by decide) :
    FnOk P w K mg base (L2.CX P w) 1 fI fd [sN, vN] (spFld C f) := by
  refine F.ok (k := 0) S (fun vs H Q E ⟨a, y, ev, _⟩ => by rw [ev]; rfl) fun cdv A outer s H vs Q E hr ⟨a, y, ev, e, q⟩ => ?_
  subst ev
  exact ⟨_, pss_one (ps_fld (i := 0) (X := cxOf (L2.CX P w) P w K mg base [sN, vN] qual scope fI cdv A outer s H E) T (pe_var (i := 0) rfl h1 d1 d2) (pe_var (i := 1) rfl h2 d3 d4)), y, rfl, a, rfl, e, q⟩
end
section
variable {X : Cx} {C fI : Addr} {f x sN vN : Str} {fd : FuncData} {e : Expr} {te : TE} {p pos : Pos}
/-- C(e) in a raise: an error with one field -/
theorem pmk_fld (T : Fld1 X.K C f) (iC : PySem.W.findIn X.K (.ref C) "__init__" = some (some (.ref fI))) (tI : PySem.W.typeIn X.K (.ref fI) = some (.type "function")) (F1 : FnOk X.prog X.w X.K X.mg X.base (L2.CX X.prog X.w) 1 fI fd [sN, vN] (spFld C f))
    (hb : Binds X.K fd [sN, vN] []) (hr : Room 2 X.A) (tk : Takes X fun _ _ _ _ => False) (hg : Gl X x) (hm : X.mg x = some (.ref C)) (he : PE X e te) (hdb : (x == ("__debug__" : Str)) = false := by decide)
    (hs : starEach [e] X.env = (false, eval e X.env) :: starEach [] X.env := by rfl) (hpl : (backTo pos (starEach [] X.env)).any (·.1) = false := by rfl) :
    PMk X (.Call (.Name x p) [e] [] pos) (fun σ H Q => te σ H fun y H1 => ∀ d, H1 d = none → Q (.ref C) (some d) (upd H1 d (.xd [(f, y)]))) := by
  intro pins s σ H Q I h
  obtain ⟨B, S, nI, iI, bmB, bmS, FB, _, q0, _, V⟩ := T.base
  refine wpAny_Call_Name_kw (ld_glob I hg hm (PySem.W.callWith_K (h₀ := X.base) I.ok.mod.kin T.kp (thn ((pa_cons he pa_nil hs).run pos pins s σ H (fun vs H1 => match vs with
    | [y] => ∀ d, H1 d = none → Q (.ref C) (some d) (upd H1 d (.xd [(f, y)]))
    | _ => False) I h) fun us s1 ⟨vs, H1, I1, r1, q1⟩ => ⟨I1.kIn, ?_⟩) hs hpl) hdb)
  rcases vs with _ | ⟨y, _ | ⟨z, zs⟩⟩
  · exact q1.elim
  · obtain ⟨u, rfl, ru⟩ : ∃ u, us = [u] ∧ RelV y u := by
      cases r1 with
      | cons a t => cases t; exact ⟨_, rfl, a⟩
    obtain ⟨nm, N, qn, bs, bm, hdct, sn, sub, ab, col, dd, k0, k1, k2, k3, k5, hC, hT⟩ := PySem.W.excInit_of I1.kIn q0
    obtain ⟨hp, g, dr, tk1, os⟩ := s1
    -- the error's own address
    generalize ea : hp.objs.size + 1 = a
    have big : hp.objs.size ≤ a := by omega
    have nH : H1 a = none := I1.hok.fresh big
    have kk : ∀ b o, hp.get? b = some o → ((hp.push (PySem.W.kdv_tup [u])).push (HandSPX.excO C hp.objs.size)).get? b = some o := fun b o z => Heap.get?_push_of_some _ (Heap.get?_push_of_some _ z)
    have ha : ((hp.push (PySem.W.kdv_tup [u])).push (HandSPX.excO C hp.objs.size)).get? a = some (HandSPX.excO C hp.objs.size) := by rw [← ea]; heap_get
    have I2 : Inv X pins σ (upd H1 a (exo a C none)) ⟨(hp.push (PySem.W.kdv_tup [u])).push (HandSPX.excO C hp.objs.size), g, dr, tk1, os⟩ := I1.laid (t' := tk1) kk big (exo_ok ha)
    refine wpAny_call (call_ownG FB (V.of hT) hC (PySem.W.looks_findIn I1.kIn iC) (fun self => PySem.W.bind_fn I1.kIn self tI) (by rw [sizeLine_eq]; exact Nat.le_of_ble_eq_true rfl) ?_)
    rw [ea]
    refine codeAny_mono (F1.run _ X.stack _ _ ⟨[.ref a, u], []⟩ [.ref a, u] [.ref a, y] (fun v H2 => v = .non ∧ ∃ d, H1 d = none ∧ d ≠ a ∧ H2 = gotF (upd H1 a (exo a C none)) a C d f y) (fun _ _ _ => False) (hr.make C [u] []) (I2.env0.make C [u] []) (hb _ [.ref a, u] I2.kIn rfl) (.cons rfl (.cons ru .nil))
      ⟨a, y, rfl, upd_same, fun d n ne => ⟨rfl, d, by rw [upd_ne ne] at n; exact n, ne, rfl⟩⟩) fun r s' hq => ?_
    rcases r with er | fl
    · exact tk er s' (XE.of_call I2 (fun _ _ _ z => z) hq)
    · rcases fl with _ | _ | _ | ur
      · exact False.elim hq
      · exact False.elim hq
      · exact False.elim hq
      · obtain ⟨v, H2, os2, bare2, un2, hok2, rv, ev, d, nd, nda, eH⟩ := hq
        subst ev eH
        obtain ⟨h2, g2, d2, t2, os'⟩ := s'
        refine ⟨rv, mk_end (raises_own T.exc T.ty) I1 big kk un2 hok2 os2 bare2 (d := d) (fs := [(f, y)]) upd_same ((upd_ne nda).trans upd_same) nd ?_⟩
        have eq : upd (del (gotF (upd H1 a (exo a C none)) a C d f y) a) d (.xd [(f, y)]) = upd H1 d (.xd [(f, y)]) := by
          funext b
          by_cases z : b = d
          · rw [z, upd_same, upd_same]
          · rw [upd_ne z, upd_ne z]
            by_cases za : b = a
            · rw [za, del_same, nH]
            · rw [del_ne za, gotF_other za z, upd_ne za]
        rw [eq]
        exact q1 d nd
  · exact q1.elim
end
end DL

/-! ## DR -/
set_option Elab.async false
set_option linter.all false
set_option maxRecDepth 100000
set_option maxHeartbeats 4000000
/-! DR: raise, try and what except suites ask, on cells. -/
namespace DL
open PySem L2 PySem.Spec PyProof.Rows
/-! ### what is known of the error classes -/
/-- the table of a text: its error classes, who is under whom, fields that no class of them has -/
structure XT where
  cls : List Str
  sub : List (Str × Str × Bool)
  bsub : List (Str × String × Bool)
  noat : List (Str × Str)
structure ExcF (K : PySem.W.Frag) (C : Addr) : Prop where
  cl : (PySem.W.clsIn K C).isSome = true
  ga : PySem.W.findIn K (.ref C) "__getattribute__" = some (some (.builtin "BaseException.__getattribute__"))
  gt : PySem.W.findIn K (.ref C) "__getattr__" = some none
  su : PySem.W.subIn K (.ref C) (.type "BaseException") = some true
  ca : PySem.W.findIn K (.ref C) "__class__" = some (some (.builtin "object.__class__"))
  sp : PySem.W.specialIn K (.builtin "object.__class__") "__get__" = some (some (.builtin "getset_descriptor.__get__"))
  tk : PySem.W.takesIn K (.builtin "object.__class__") = some true
  mo : PySem.W.mroIn K C (.type "object") = some true
  hd : PySem.W.hasDictIn K C = true
def excB (K : PySem.W.Frag) (C : Addr) : Bool :=
  [(PySem.W.clsIn K C).isSome, He.eqO (PySem.W.findIn K (.ref C) "__getattribute__") (some (some (.builtin "BaseException.__getattribute__"))), He.eqO (PySem.W.findIn K (.ref C) "__getattr__") (some none),
   decide (PySem.W.subIn K (.ref C) (.type "BaseException") = some true), He.eqO (PySem.W.findIn K (.ref C) "__class__") (some (some (.builtin "object.__class__"))),
   He.eqO (PySem.W.specialIn K (.builtin "object.__class__") "__get__") (some (some (.builtin "getset_descriptor.__get__"))), decide (PySem.W.takesIn K (.builtin "object.__class__") = some true), decide (PySem.W.mroIn K C (.type "object") = some true), PySem.W.hasDictIn K C].all id
theorem excB_ok {K : PySem.W.Frag} {C : Addr} (h : excB K C = true) : ExcF K C := by
  simp only [excB, List.all_cons, List.all_nil, id, Bool.and_eq_true, Bool.and_true, decide_eq_true_eq] at h
  obtain ⟨a1, a2, a3, a4, a5, a6, a7, a8, a9⟩ := h
  exact ⟨a1, He.eqO_ok a2, He.eqO_ok a3, a4, He.eqO_ok a5, He.eqO_ok a6, a7, a8, a9⟩
def XT.okB (T : XT) (K : PySem.W.Frag) : Bool :=
  (T.cls.all fun c => excB K (He.ga K c)) && ((T.sub.all fun q => decide (PySem.W.exmOne K (.ref (He.ga K q.1)) (.ref (He.ga K q.2.1)) = some q.2.2) && decide (PySem.W.kitOne K (.ref (He.ga K q.1)) (.ref (He.ga K q.2.1)) = some q.2.2)) &&
  ((T.bsub.all fun q => decide (PySem.W.kitOne K (.ref (He.ga K q.1)) (.type q.2.1) = some q.2.2)) && T.noat.all fun q => He.eqO (PySem.W.findIn K (.ref (He.ga K q.1)) q.2) (some none)))
structure XT.Ok (T : XT) (K : PySem.W.Frag) : Prop where
  cls : ∀ c ∈ T.cls, ExcF K (He.ga K c)
  sub : ∀ q ∈ T.sub, PySem.W.exmOne K (.ref (He.ga K q.1)) (.ref (He.ga K q.2.1)) = some q.2.2 ∧ PySem.W.kitOne K (.ref (He.ga K q.1)) (.ref (He.ga K q.2.1)) = some q.2.2
  bsub : ∀ q ∈ T.bsub, PySem.W.kitOne K (.ref (He.ga K q.1)) (.type q.2.1) = some q.2.2
  noat : ∀ q ∈ T.noat, PySem.W.findIn K (.ref (He.ga K q.1)) q.2 = some none
theorem XT.okB_ok {T : XT} {K : PySem.W.Frag} (h : T.okB K = true) : T.Ok K := by
  simp only [XT.okB, Bool.and_eq_true, List.all_eq_true, decide_eq_true_eq] at h
  obtain ⟨a, b, c, d⟩ := h
  exact ⟨fun x hx => excB_ok (a x hx), b, c, fun q hq => He.eqO_ok (d q hq)⟩
def XT.isSub (T : XT) (c d : Str) : Option Bool := (T.sub.find? fun q => decide (q.1 = c) && decide (q.2.1 = d)).map (·.2.2)
def XT.isBsub (T : XT) (c : Str) (t : String) : Option Bool := (T.bsub.find? fun q => decide (q.1 = c) && decide (q.2.1 = t)).map (·.2.2)
def XT.isNo (T : XT) (c f : Str) : Bool := T.noat.any fun q => decide (q.1 = c) && decide (q.2 = f)
section
variable {T : XT} {K : PySem.W.Frag} {c d : Str} {b : Bool}
theorem XT.Ok.isSub (o : T.Ok K) (h : T.isSub c d = some b) : PySem.W.exmOne K (.ref (He.ga K c)) (.ref (He.ga K d)) = some b ∧ PySem.W.kitOne K (.ref (He.ga K c)) (.ref (He.ga K d)) = some b := by
  obtain ⟨q, e, rfl⟩ := Option.map_eq_some_iff.mp h
  have m := o.sub q (List.mem_of_find?_eq_some e)
  have y := List.find?_some e
  simp only [Bool.and_eq_true, decide_eq_true_eq] at y
  rw [y.1, y.2] at m
  exact m
theorem XT.Ok.isBsub {t : String} (o : T.Ok K) (h : T.isBsub c t = some b) : PySem.W.kitOne K (.ref (He.ga K c)) (.type t) = some b := by
  obtain ⟨q, e, rfl⟩ := Option.map_eq_some_iff.mp h
  have m := o.bsub q (List.mem_of_find?_eq_some e)
  have y := List.find?_some e
  simp only [Bool.and_eq_true, decide_eq_true_eq] at y
  rw [y.1, y.2] at m
  exact m
theorem XT.Ok.isNo {f : Str} (o : T.Ok K) (h : T.isNo c f = true) : PySem.W.findIn K (.ref (He.ga K c)) f = some none := by
  obtain ⟨q, m, e⟩ := List.any_eq_true.mp h
  simp only [Bool.and_eq_true, decide_eq_true_eq] at e
  have z := o.noat q m
  rw [e.1, e.2] at z
  exact z
end
/-! ### raise -/
/-- a class without own __init__, over ValueError -/
structure MsgF (K : PySem.W.Frag) (mg : Str → Option Value) (c : Str) : Prop where
  q : PySem.W.excIn K (He.ga K c) He.veBase "ValueError.__new__" = true
  kp : PySem.W.keepIn K (.ref (He.ga K c)) = true
  su : PySem.W.subIn K (.ref (He.ga K c)) (.type "BaseException") = some true
  ty : PySem.W.typeIn K (.ref (He.ga K c)) = some (.type "type")
  g : mg c = some (.ref (He.ga K c))
def msgB (K : PySem.W.Frag) (c : Str) : Bool := PySem.W.excIn K (He.ga K c) He.veBase "ValueError.__new__" && (PySem.W.keepIn K (.ref (He.ga K c)) && (decide (PySem.W.subIn K (.ref (He.ga K c)) (.type "BaseException") = some true) && decide (PySem.W.typeIn K (.ref (He.ga K c)) = some (.type "type"))))
theorem msgB_ok {K : PySem.W.Frag} {mg : Str → Option Value} {c : Str} (h : msgB K c = true) (g : mg c = some (.ref (He.ga K c))) : MsgF K mg c := by
  simp only [msgB, Bool.and_eq_true, decide_eq_true_eq] at h
  exact ⟨h.1, h.2.1, h.2.2.1, h.2.2.2, g⟩
/-- a class whose __init__ stores one field -/
structure FldF (K : PySem.W.Frag) (mg : Str → Option Value) (c f : Str) : Prop where
  t : Fld1 K (He.ga K c) f
  i : PySem.W.findIn K (.ref (He.ga K c)) "__init__" = some (some (.ref (He.ma K (He.ga K c) "__init__")))
  ti : PySem.W.typeIn K (.ref (He.ma K (He.ga K c) "__init__")) = some (.type "function")
  g : mg c = some (.ref (He.ga K c))
def fldB (K : PySem.W.Frag) (c f : Str) (bm : List Value) (n : String) : Bool :=
  [PySem.W.excInitIn K (He.ga K c) bm n, PySem.W.excOver K (He.ga K c) bm, He.eqO (PySem.W.findIn K (.ref (He.ga K c)) "__setattr__") (some (some (.builtin "object.__setattr__"))), decide (PySem.W.takerIn K (He.ga K c) f = some none),
   PySem.W.hasDictIn K (He.ga K c), decide (PySem.W.subIn K (.ref (He.ga K c)) (.type "BaseException") = some true), decide (PySem.W.typeIn K (.ref (He.ga K c)) = some (.type "type")), PySem.W.keepIn K (.ref (He.ga K c)),
   He.eqO (PySem.W.findIn K (.ref (He.ga K c)) "__init__") (some (some (.ref (He.ma K (He.ga K c) "__init__")))), decide (PySem.W.typeIn K (.ref (He.ma K (He.ga K c) "__init__")) = some (.type "function"))].all id
theorem fldB_ok {K : PySem.W.Frag} {mg : Str → Option Value} {c f : Str} {bm : List Value} {B nI iI : String} (FB : ExcBaseFacts B nI iI bm) (SF : StoreFacts B bm "object.__setattr__" "object") (h : fldB K c f bm nI = true) (g : mg c = some (.ref (He.ga K c))) : FldF K mg c f := by
  simp only [fldB, List.all_cons, List.all_nil, id, Bool.and_eq_true, Bool.and_true, decide_eq_true_eq] at h
  obtain ⟨a1, a2, a3, a4, a5, a6, a7, a8, a9, a10⟩ := h
  exact ⟨⟨⟨B, B, nI, iI, bm, bm, FB, SF, a1, a2, .f FB⟩, He.eqO_ok a3, a4, a5, a6, a7, a8⟩, He.eqO_ok a9, a10, g⟩
theorem fldB_okK {K : PySem.W.Frag} {mg : Str → Option Value} {c f : Str} (h : fldB K c f kBase "LookupError.__new__" = true) (g : mg c = some (.ref (He.ga K c))) : FldF K mg c f := by
  simp only [fldB, List.all_cons, List.all_nil, id, Bool.and_eq_true, Bool.and_true, decide_eq_true_eq] at h
  obtain ⟨a1, a2, a3, a4, a5, a6, a7, a8, a9, a10⟩ := h
  exact ⟨⟨⟨_, _, _, _, _, _, PySem.F.excBase_LookupError, store_KeyError, a1, a2, .k⟩, He.eqO_ok a3, a4, a5, a6, a7, a8⟩, He.eqO_ok a9, a10, g⟩
def sRaise (x : Ex) : MS := fun ρ => .er x ρ
def sRaiseF (c f : Str) (g : M R) : MS := sb g fun r => fun ρ => match toI r ρ with
  | .ok d ρ' => .er ⟨c, [f], [d]⟩ ρ'
  | _ => .bad
section
variable {X : Cx} {W : WX} {io : List Nat} {e : Expr} {g : M R} {c f : Str} {p p2 p3 pos : Pos}
theorem s_raiseM {m : Str} {j : Nat} (hc : X.calm = true) (tk : Takes X W) (F : MsgF X.K X.mg c) (hg : Gl X c) (hdb : (c == ("__debug__" : Str)) = false := by decide) :
    PS X (.Raise (some (.Call (.Name c p) [.Constant (.str m) j p2] [] p3)) none pos) (tS X.K τ W io (sRaise ⟨c, [], []⟩)) :=
  PS.weak (ps_raise hc tk (pmk_own PySem.F.excBase_ValueError F.q F.g F.kp (raises_own F.su F.ty) hg hdb)) fun D σ H ⟨Φ, ρ, sr, h⟩ => h _ none σ H Stp.refl sr ⟨rfl, [], rfl, rfl, DVs.nil⟩
theorem s_raiseF {fd : FuncData} {sN vN : Str} (hc : X.calm = true) (tk : Takes X W) (F : FldF X.K X.mg c f) (F1 : FnOk X.prog X.w X.K X.mg X.base (L2.CX X.prog X.w) 1 (He.ma X.K (He.ga X.K c) "__init__") fd [sN, vN] (spFld (He.ga X.K c) f)) (hb : Binds X.K fd [sN, vN] [])
    (hr : Room 2 X.A) (hg : Gl X c) (he : PE X e (tD X.K τ W g)) (hdb : (c == ("__debug__" : Str)) = false := by decide) (hs : starEach [e] X.env = (false, eval e X.env) :: starEach [] X.env := by rfl) (hpl : (backTo p3 (starEach [] X.env)).any (·.1) = false := by rfl) :
    PS X (.Raise (some (.Call (.Name c p) [e] [] p3)) none pos) (tS X.K τ W io (sRaiseF c f g)) :=
  PS.weak (ps_raise hc tk (pmk_fld F.t F.i F.ti F1 hb hr takes_none5 hg F.g he hdb hs hpl)) fun D σ H ⟨Φ, ρ, sr, h⟩ => ⟨Φ, ρ, sr, es h fun r ρ1 v H1 s1 sr1 rv hk d nd => by
    cases e1 : toI r ρ1 with
    | er x ρ2 => exact absurd e1 toI_ner
    | bad => rw [e1] at hk; exact hk.elim
    | ok dd ρ2 =>
      rw [e1] at hk
      obtain ⟨s2, sr2, dv⟩ := toI_ok rv.w sr1 e1
      have s3 := (s1.trans s2).trans (ES.grow (σ := σ) (ρ := ρ2) (o := .xd [(f, v)]) nd)
      exact hk _ (some d) σ _ s3.stp (sr2.grow nd) ⟨rfl, [v], ⟨upd_same, fun z => sr2.nnLive z nd⟩, rfl, DVs.cons (((ES.grow nd).stp (io := [])).dv dv) DVs.nil⟩⟩
end
/-! ### try -/
/-- what does not depend on where the error stands -/
noncomputable def fixA (f : Addr → Option Addr → SO) : SO := open Classical in if ∀ a d, f a d = f 0 none then f 0 none else .bad
theorem fixA_eq {f : Addr → Option Addr → SO} {o : SO} (h : ∀ a d, f a d = o) : fixA f = o := by
  unfold fixA
  rw [if_pos fun a d => (h a d).trans (h 0 none).symm, h]
theorem fixA_at {f : Addr → Option Addr → SO} {o : SO} (h : fixA f = o) (nb : o ≠ .bad) (a : Addr) (d : Option Addr) : f a d = o := by
  unfold fixA at h
  split at h
  · rename_i q; rw [q, h]
  · exact absurd h.symm nb
def enter (i : Option Nat) (a : Addr) (d : Option Addr) (x : Ex) (ρ : Env') : Env' := match i with
  | none => ρ
  | some j => ρ.set j (some (.imm (.exh a d x.cls x.fs x.ds)))
def unset (i : Option Nat) (ρ : Env') : Env' := match i with
  | none => ρ
  | some j => ρ.set j none
def leave (i : Option Nat) : SO → SO
  | .next ρ => .next (unset i ρ)
  | .brk ρ => .brk (unset i ρ)
  | .cnt ρ => .cnt (unset i ρ)
  | .ret (.imm d) ρ => .ret (.imm d) (unset i ρ)
  | _ => .bad
def unsetS (i : Option Nat) (σ : L2.St) : L2.St := match i with
  | none => σ
  | some j => σ.set j none
abbrev Suite := Addr → Option Addr → Str → MS
noncomputable def tryGo (T : XT) : List (Str × Option Nat × Suite) → Ex → MS
  | [], x => fun ρ => .er x ρ
  | (c, i, h) :: r, x => fun ρ => if x.cls ∈ T.cls then match T.isSub x.cls c with
    | some true => fixA fun a d => leave i (h a d x.cls (enter i a d x ρ))
    | some false => tryGo T r x ρ
    | none => .bad
    else .bad
noncomputable def sTry (T : XT) (s : MS) (l : List (Str × Option Nat × Suite)) : MS := fun ρ => match s ρ with
  | .er x ρ' => tryGo T l x ρ'
  | o => o
section
variable {K : PySem.W.Frag} {H : Hp} {Φ : Addr → Prop} {σ : L2.St} {ρ : Env'} {io : List Nat} {N : Addr → Prop}
theorem unset_ok {j : Nat} (hj : j ∉ io) (s : SR K τ H Φ σ ρ) : Stp io σ ρ H (σ.set j none) (ρ.set j none) H ∧ SR K τ H Φ (σ.set j none) (ρ.set j none) := by
  have f : ∀ (k : Nat) (c : Cell), (ρ.set j none)[k]? = some (some c) → ρ[k]? = some (some c) ∧ (σ.set j none)[k]? = σ[k]? := fun k c e => by
    by_cases z : j = k
    · subst z
      by_cases hl : j < ρ.length
      · rw [List.getElem?_set_self hl] at e; cases e
      · rw [List.getElem?_eq_none (by simpa using hl)] at e; cases e
    · rw [List.getElem?_set_ne z] at e
      exact ⟨e, List.getElem?_set_ne z⟩
  obtain ⟨sr, ow⟩ := s.sub (by rw [List.length_set, List.length_set]; exact s.len) f
  exact ⟨⟨fun _ _ e _ _ => e, fun _ h => h, fun a h => .inl (ow a h), fun k hk => List.getElem?_set_ne fun z => hj (by rw [z]; exact hk)⟩, sr⟩
theorem XV.exh {x : Ex} {cls : Value} {d : Option Addr} (h : XV K H N x cls d) (a : Addr) : DV K H N (.exh a d x.cls x.fs x.ds) (.ref a) := by
  obtain ⟨_, vs, q, l, dv⟩ := h
  unfold DV
  exact ⟨vs, rfl, ⟨q, l⟩, dv⟩
end
def clz (K : PySem.W.Frag) (τ : Tb) (io : List Nat) (T : XT) (q : Str × Option Nat × Suite) : Clz := ⟨.ref (He.ga K q.1), q.2.1, fun a cls d D σ H => ∃ c ∈ T.cls, cls = .ref (He.ga K c) ∧ tS K τ W0 io (q.2.2 a d c) D σ H⟩
/-- a suite, for each class that its error may have -/
abbrev SuiteD (X : Cx) (τ : Tb) (io : List Nat) (T : XT) (suite : List Stmt) (h : Suite) : Prop :=
  ∀ (c : Str) (a : Addr) (oe : Obj) (d : Option Addr) (pn : List (Addr × Obj)), c ∈ T.cls → Zc (.ref (He.ga X.K c)) d oe → (∃ vs, oe.data = .fields vs) → PSs (X.suite a ((a, oe) :: pn)) suite (tS X.K τ W0 io (h a d c))
inductive HdsD (X : Cx) (τ : Tb) (io : List Nat) (T : XT) : List ExceptHandler → List (Str × Option Nat × Suite) → Prop
  | nil : HdsD X τ io T [] []
  | bare {x : Str} {h : Suite} {b₀ : Stmt} {suite : List Stmt} {np pp : Pos} {hds : List ExceptHandler} {l : List (Str × Option Nat × Suite)}
      (hg : Gl X x) (hm : X.mg x = some (.ref (He.ga X.K x))) (hsu : SuiteD X τ io T (b₀ :: suite) h) (r : HdsD X τ io T hds l) (hdb : (x == ("__debug__" : Str)) = false := by decide) : HdsD X τ io T (.ExceptHandler (some (.Name x np)) none (b₀ :: suite) pp :: hds) ((x, none, h) :: l)
  | named (i : Nat) {x n : Str} {h : Suite} {b₀ : Stmt} {suite : List Stmt} {np pp : Pos} {hds : List ExceptHandler} {l : List (Str × Option Nat × Suite)}
      (hN : X.N.Nodup) (hi : X.N[i]? = some n) (hl : X.env.kindOf n = some .local) (hio : i ∉ io) (hg : Gl X x) (hm : X.mg x = some (.ref (He.ga X.K x))) (hsu : SuiteD X τ io T (b₀ :: suite) h) (r : HdsD X τ io T hds l) (hdb : (x == ("__debug__" : Str)) = false := by decide) :
      HdsD X τ io T (.ExceptHandler (some (.Name x np)) (some n) (b₀ :: suite) pp :: hds) ((x, some i, h) :: l)
section
variable {X : Cx} {io : List Nat} {T : XT}
theorem SuiteD.ok {suite : List Stmt} {h : Suite} (s : SuiteD X τ io T suite h) : SuiteOk X suite fun a cls d D σ H => ∃ c ∈ T.cls, cls = .ref (He.ga X.K c) ∧ tS X.K τ W0 io (h a d c) D σ H := by
  refine fun a oe cls d pn z f => ⟨fun pins s0 σ H D I t => ?_⟩
  obtain ⟨c, hc, e, t⟩ := t
  subst e
  exact (s c a oe d pn hc z f).run pins s0 σ H D I t
theorem HdsD.hds {hs : List ExceptHandler} {l : List (Str × Option Nat × Suite)} (h : HdsD X τ io T hs l) : Hds X hs (l.map (clz X.K τ io T)) ∧ ∀ q ∈ l, ∀ j, q.2.1 = some j → j ∉ io := by
  induction h with
  | nil => exact ⟨.nil, fun q hq => absurd hq (by simp)⟩
  | bare hg hm hsu _ hdb ih =>
    refine ⟨.bare ⟨hg, hdb, .inl hm⟩ hsu.ok ih.1, fun q hq j e => ?_⟩
    rcases List.mem_cons.mp hq with z | z
    · subst z; cases e
    · exact ih.2 q z j e
  | named i hN hi hl hio hg hm hsu _ hdb ih =>
    refine ⟨.named hN hi hl ⟨hg, hdb, .inl hm⟩ hsu.ok ih.1, fun q hq j e => ?_⟩
    rcases List.mem_cons.mp hq with z | z
    · subst z; cases e; exact hio
    · exact ih.2 q z j e
/-- what the clauses ask, from what they do to cells -/
theorem try_w {W : WX} {D : Ends} (o : T.Ok X.K) {Φ : Addr → Prop} {x : Ex} {cls : Value} {d : Option Addr} : ∀ {l : List (Str × Option Nat × Suite)} {σ : L2.St} {ρ : Env'} {H : Hp}, (∀ q ∈ l, ∀ j, q.2.1 = some j → j ∉ io) → SR X.K τ H Φ σ ρ → XV X.K H (Nn Φ σ ρ) x cls d →
    GoodS X.K τ W io Φ σ ρ H D (tryGo T l x ρ) → wHd X.K W D (l.map (clz X.K τ io T)) cls d σ H
  | [], σ, ρ, H, _, sr, xv, h => by unfold tryGo at h; exact h cls d σ H Stp.refl sr xv
  | (c, i, hd) :: r, σ, ρ, H, hio, sr, xv, h => by
    have h : GoodS X.K τ W io Φ σ ρ H D (if x.cls ∈ T.cls then match T.isSub x.cls c with
      | some true => fixA fun a d => leave i (hd a d x.cls (enter i a d x ρ))
      | some false => tryGo T r x ρ
      | none => .bad
      else .bad) := by unfold tryGo at h; exact h
    split at h
    · rename_i hm
      cases eb : T.isSub x.cls c with
      | none => rw [eb] at h; exact h.elim
      | some b =>
        rw [eb] at h
        have ec := xv.1
        refine ⟨b, by rw [ec]; exact (o.isSub eb).1, fun hb a na => ?_, fun hb => ?_⟩
        · subst hb
          dsimp only at h
          -- the suite, where the error stands
          have into : Stp io σ ρ H (held a i σ) (enter i a d x ρ) H ∧ SR X.K τ H Φ (held a i σ) (enter i a d x ρ) := by
            cases i with
            | none => exact ⟨Stp.refl, sr⟩
            | some j => exact put_imm (hio _ List.mem_cons_self j rfl) sr (xv.exh a)
          obtain ⟨st, srE⟩ := into
          refine ⟨x.cls, hm, ec, Φ, _, srE, ?_⟩
          generalize eo : fixA (fun a d => leave i (hd a d x.cls (enter i a d x ρ))) = oo at h
          have nb : oo ≠ .bad := fun z => by rw [z] at h; exact h
          have at_ : leave i (hd a d x.cls (enter i a d x ρ)) = oo := fixA_at (f := fun a d => leave i (hd a d x.cls (enter i a d x ρ))) eo nb a d
          have out : ∀ {σ6 : L2.St} {ρ6 : Env'} {H6 : Hp}, Stp io (held a i σ) (enter i a d x ρ) H σ6 ρ6 H6 → SR X.K τ H6 Φ σ6 ρ6 → ∀ (Q : L2.St → Prop), (∀ σ7, Stp io σ6 ρ6 H6 σ7 (unset i ρ6) H6 → SR X.K τ H6 Φ σ7 (unset i ρ6) → Q σ7) → Q (unsetS i σ6) := fun {σ6 ρ6 H6} s6 sr6 Q hq => by
            cases i with
            | none => exact hq σ6 Stp.refl sr6
            | some j => exact let u := unset_ok (hio _ List.mem_cons_self j rfl) sr6; hq _ u.1 u.2
          have nx : ∀ (Dx Dg : L2.St → Hp → Prop), (∀ σ6 H6, Dx (unsetS i σ6) H6 → Dg σ6 H6) → ∀ {ρ6 : Env'}, (∀ σ' H', Stp io σ ρ H σ' (unset i ρ6) H' → SR X.K τ H' Φ σ' (unset i ρ6) → Dx σ' H') → ∀ σ6 H6, Stp io (held a i σ) (enter i a d x ρ) H σ6 ρ6 H6 → SR X.K τ H6 Φ σ6 ρ6 → Dg σ6 H6 := fun Dx Dg hg ρ6 hk σ6 H6 s6 sr6 =>
            hg σ6 H6 (out s6 sr6 (fun z => Dx z H6) fun σ7 s7 sr7 => hk σ7 H6 ((st.trans s6).trans s7) sr7)
          show GoodS X.K τ W0 io Φ (held a i σ) (enter i a d x ρ) H (gone i D) (hd a d x.cls (enter i a d x ρ))
          cases ef : hd a d x.cls (enter i a d x ρ) with
          | bad => rw [ef] at at_; exact absurd at_.symm nb
          | er y ρ6 => rw [ef] at at_; exact absurd at_.symm nb
          | next ρ6 =>
            rw [ef] at at_
            have at_ : SO.next (unset i ρ6) = oo := at_
            subst at_
            exact nx D.nx (gone i D).nx (fun σ6 H6 q => by cases i <;> exact q) h
          | brk ρ6 =>
            rw [ef] at at_
            have at_ : SO.brk (unset i ρ6) = oo := at_
            subst at_
            exact nx D.bk (gone i D).bk (fun σ6 H6 q => by cases i <;> exact q) h
          | cnt ρ6 =>
            rw [ef] at at_
            have at_ : SO.cnt (unset i ρ6) = oo := at_
            subst at_
            exact nx D.ct (gone i D).ct (fun σ6 H6 q => by cases i <;> exact q) h
          | ret rr ρ6 =>
            rw [ef] at at_
            cases rr with
            | slot k => exact absurd at_.symm nb
            | new u => exact absurd at_.symm nb
            | imm dd =>
              have at_ : SO.ret (.imm dd) (unset i ρ6) = oo := at_
              subst at_
              intro v σ6 H6 s6 sr6 rv
              have h : ∀ v σ' H', Stp io σ ρ H σ' (unset i ρ6) H' → SR X.K τ H' Φ σ' (unset i ρ6) → RVp X.K τ H H' Φ σ' (unset i ρ6) (.imm dd) v → D.rt v H' := h
              have q := out s6 sr6 (fun _ => D.rt v H6) fun σ7 s7 sr7 => h v σ7 H6 ((st.trans s6).trans s7) sr7 (s7.dv rv)
              show (gone i D).rt v H6
              cases i <;> exact q
        · subst hb
          exact try_w o (fun q hq => hio q (List.mem_cons_of_mem _ hq)) sr xv h
    · exact h.elim
/-- THE RULE of try on cells -/
theorem s_try {W : WX} {body : List Stmt} {h₀ : ExceptHandler} {hds : List ExceptHandler} {s : MS} {l : List (Str × Option Nat × Suite)} {pos : Pos} (o : T.Ok X.K) (hs : X.stack = X.env :: X.outer) (hf : X.env.frame = some X.env.locals) (tk : Takes X W)
    (hb : ∀ (W : WX) (pn : List (Addr × Obj)) (xe : Value → Shared → Prop), Takes (X.tr pn xe) W → PassesOwn (model X.prog X.w) X.A X.env xe → PSs (X.tr pn xe) body (tS X.K τ W io s))
    (hh : HdsD X τ io T (h₀ :: hds) l) : PS X (.Try body (h₀ :: hds) [] [] pos) (tS X.K τ W io (sTry T s l)) :=
  PS.weak (ps_tryC hs hf tk hb hh.hds.1) fun D σ H ⟨Φ, ρ, sr, h⟩ => by
    refine ⟨Φ, ρ, sr, ?_⟩
    unfold sTry at h
    cases e : s ρ with
    | er x ρ' =>
      rw [e] at h
      exact fun cls d σ' H' st sr' xv => try_w o hh.hds.2 sr' xv (GoodS.shift h st)
    | next ρ' => rw [e] at h; exact h
    | ret r ρ' => rw [e] at h; exact h
    | brk ρ' => rw [e] at h; exact h
    | cnt ρ' => rw [e] at h; exact h
    | bad => rw [e] at h; exact h
end
end DL

/-! ## DS -/
set_option Elab.async false
set_option linter.all false
set_option maxRecDepth 100000
set_option maxHeartbeats 4000000
/-! DS: what except suites read off their error; methods of lists; written dicts; is of bools. -/
namespace DL
open PySem L2 PySem.Spec PyProof.Rows
/-! ### is True, is not False -/
def opIsB : D → D → Option P
  | .bl a, .bl b => some (.d (.bl (decide (a = b))))
  | _, _ => none
def opNotB : D → D → Option P
  | .bl a, .bl b => some (.d (.bl (!decide (a = b))))
  | _, _ => none
theorem pb_isB {K : PySem.W.Frag} : PB K rIsB opIsB := by
  intro N H x y d e Q lv hx hy q
  rcases d with _|a <;> rcases e with _|b <;> first | exact False.elim q | skip
  exact ⟨a, b, rd_bl hx, rd_bl hy, q _ _ .refl dv_bl⟩
theorem pb_notB {K : PySem.W.Frag} : PB K rNotB opNotB := by
  intro N H x y d e Q lv hx hy q
  rcases d with _|a <;> rcases e with _|b <;> first | exact False.elim q | skip
  exact ⟨a, b, rd_bl hx, rd_bl hy, q _ _ .refl dv_bl⟩
section
variable {X : Cx} {W : WX} {a b : Expr} {f g : M R} {pos : Pos}
theorem d_isB (ha : PE X a (tD X.K τ W f)) (hb : PE X b (tD X.K τ W g)) : PE X (.Compare a [.Is] [b] pos) (tD X.K τ W (xBin opIsB f g)) := d_bin pb_isB (pe_cmpR op_isBl ha hb (nomark _))
theorem d_notB (ha : PE X a (tD X.K τ W f)) (hb : PE X b (tD X.K τ W g)) : PE X (.Compare a [.IsNot] [b] pos) (tD X.K τ W (xBin opNotB f g)) := d_bin pb_notB (pe_cmpR op_notBl ha hb (nomark _))
theorem t_isB (ha : PE X a (tD X.K τ W f)) (hb : PE X b (tD X.K τ W g)) : PT X (.Compare a [.Is] [b] pos) (tT X.K τ W (xAsB (xBin opIsB f g))) := d_tcmp pb_isB (pt_cmpR op_isBl ha hb (nomark _))
theorem t_notB (ha : PE X a (tD X.K τ W f)) (hb : PE X b (tD X.K τ W g)) : PT X (.Compare a [.IsNot] [b] pos) (tT X.K τ W (xAsB (xBin opNotB f g))) := d_tcmp pb_notB (pt_cmpR op_notBl ha hb (nomark _))
end
/-! ### methods of what is built in -/
def tyD (T : String) : D → Bool
  | .lst _ => T == "list"
  | .str _ => T == "str"
  | .dct _ _ => T == "dict"
  | _ => false
def xMt (T : String) (op : D → List D → Option P) (f : M R) (ga : M (List R)) : M R := mb f fun a => fun ρ1 => match rdI a ρ1 with
  | some d0 => if tyD T d0 then mb ga (fun rs => fun ρ => match rdI a ρ, rdIs rs ρ with
    | some d, some ds => mP (op d ds) ρ
    | _, _ => .bad) ρ1 else .bad
  | none => .bad
def PM (K : PySem.W.Frag) (r : V → List V → Hp → VK → Prop) (op : D → List D → Option P) : Prop := ∀ (N : Addr → Prop) (H : Hp) (x : V) (xs : List V) (d : D) (ds : List D) (Q : VK), (∀ a, N a → Lv H a) → RD K H N d x → RDs K H N ds xs → PR K N H Q (op d ds) → r x xs H Q
theorem tyD_v {K : PySem.W.Frag} {H : Hp} {N : Addr → Prop} {T : String} {d : D} {x : V} (h : tyD T d = true) (r : RD K H N d x) : tyV K T x H := by
  cases d with
  | lst xs => obtain ⟨a, vs, e, t, _⟩ := r; rw [e]; exact .inl ⟨by simpa [tyD] using h, vs, SqL.of t⟩
  | str z => rw [rd_str r]; show T = "str"; simpa [tyD] using h
  | dct ks xs => obtain ⟨a, vs, e, t, _⟩ := r; rw [e]; exact .inr (.inr (.inl ⟨by simpa [tyD] using h, .inl ⟨_, t.1⟩⟩))
  | _ => simp [tyD] at h
section
variable {X : Cx} {W : WX} {T id : String} {r : V → List V → Hp → VK → Prop} {op : D → List D → Option P} {o e : Expr} {es : List Expr} {f : M R} {ga : M (List R)} {name : Str} {apos cpos : Pos}
theorem d_mt (p : PM X.K r op) (pa : PlainAttrs T) (slot : Slot T name id) (hty : typeOf (.builtin id) = pure (.type "method_descriptor")) (hm : MtR X id r) (ho : PE X o (tD X.K τ W f)) (ha : PA X (e :: es) (tA X.K τ W ga))
    (hbase : attributeBase o name X.env (eval o X.env) = eval o X.env := by rfl)
    (hfew : ((backTo cpos (starEach (e :: es) X.env)).all (fun x => !x.1) && (backToKw cpos (keywordEach [] X.env)).all (fun x => x.1.isSome)
      && decide ((e :: es).length + ([] : List Keyword).length + (if ([] : List Keyword).isEmpty then 0 else 1) < 30)) = true := by rfl)
    (hline : (apos.endLine == cpos.line) = true := by rfl) (hs : starEach (e :: es) X.env = (false, eval e X.env) :: starEach es X.env := by rfl) (hplain : (backTo cpos (starEach es X.env)).any (·.1) = false := by rfl) :
    PE X (.Call (.Attribute o name apos) (e :: es) [] cpos) (tD X.K τ W (xMt T op f ga)) := PE.weak (pe_bm pa slot hty hm ho ha hbase hfew hline hs hplain) fun σ H Q q => by
  obtain ⟨Φ, ρ, sr, h⟩ := q
  refine ⟨Φ, ρ, sr, ee h fun a ρ1 x H1 s1 sr1 ra hk => ?_⟩
  cases e0 : rdI a ρ1 with
  | none => rw [e0] at hk; exact hk.elim
  | some d0 =>
    rw [e0] at hk
    dsimp only at hk
    split at hk
    · rename_i ht
      refine ⟨tyD_v ht (ra.rd sr1 e0), Φ, ρ1, sr1, ae hk fun rs ρ2 xs H2 s2 sr2 rb hb => ?_⟩
      cases e1 : rdI a ρ2 with
      | none => simp only [e1] at hb; exact hb.elim
      | some d =>
        cases e2 : rdIs rs ρ2 with
        | none => simp only [e1, e2] at hb; exact hb.elim
        | some ds =>
          simp only [e1, e2] at hb
          exact p _ _ _ _ d ds Q (fun a z => sr2.nnLv z) ((ra.step s2).rd sr2 e1) (RVs.rd sr2 rb e2) (PR.of sr2 hb)
    · exact hk.elim
end
/-! ### list.count, list.index of bools -/
def rCnt (K : PySem.W.Frag) : V → List V → Hp → VK → Prop := fun x xs H Q => ∃ (a : Addr) (bs : List Bool) (b : Bool), x = .ref a ∧ xs = [.bl b] ∧ SqL K H a (bs.map V.bl) ∧ Q (.int (bs.count b : Nat)) H
theorem vals_bl : ∀ {bs : List Bool} {us : List Value}, Vals (bs.map V.bl) us → us = bs.map Value.bool
  | [], us, r => by cases r; rfl
  | b :: bs, us, r => by
    rw [List.map_cons] at r
    cases r with
    | cons h t => cases h; rw [vals_bl t]; rfl
theorem reads_bl (h : Heap) : ∀ bs : List Bool, ReadsAll h (bs.map Value.bool) (bs.map PyData.bool) []
  | [] => .nil
  | b :: bs => ReadsAll.cons (as := []) (bs := []) (.bool b) (reads_bl h bs)
theorem mt_cntB {X : Cx} (hu : X.A.units + 8 < cLine) : MtR X "list.count" (rCnt X.K) := by
  intro pins s σ H x xs v us Q I rx rxs h
  obtain ⟨a, bs, b, rfl, rfl, hs, q⟩ := h
  cases rx
  cases rxs with
  | cons ry rt =>
    cases rt
    cases ry
    obtain ⟨its, rv, pl, _⟩ := I.list hs
    have e := vals_bl rv
    subst e
    have p1 : ∀ bs : List Bool, PyData.plainAll (bs.map PyData.bool) = true ∧ PyData.depthAll (bs.map PyData.bool) = 0 ∧ (bs.map PyData.bool).countP (fun y => PyData.eqv y (.bool b)) = bs.count b := fun bs => by
      induction bs with
      | nil => exact ⟨rfl, rfl, rfl⟩
      | cons c bs ih =>
        obtain ⟨i1, i2, i3⟩ := ih
        refine ⟨by simpa [PyData.plainAll, PyData.plain] using i1, by simp [PyData.depthAll, PyData.depth, i2], ?_⟩
        rw [List.map_cons, List.countP_cons, i3, List.count_cons]
        have z : PyData.eqv (.bool c) (.bool b) = (c == b) := by cases c <;> cases b <;> rfl
        rw [z]
    obtain ⟨i1, i2, i3⟩ := p1 bs
    refine SeqAt.count_list_data (xs := bs.map PyData.bool) (d := .bool b) pl.isList (by simpa using reads_bl s.heap bs) (.bool b) i1 rfl (by rw [i2]; simp [PyData.depth]; omega) ?_
    rw [i3]
    exact ⟨.int _, H, I.tok _, ⟨_, rfl⟩, q⟩
def opCnt : D → List D → Option P
  | .lst xs, [.bl b] => (boolsOf xs).map fun bs => .d (.int (bs.count b : Nat))
  | _, _ => none
theorem rds1' {K : PySem.W.Frag} {H : Hp} {N : Addr → Prop} {d : D} {xs : List V} (h : RDs K H N [d] xs) : ∃ x, xs = [x] ∧ RD K H N d x := by
  obtain ⟨v, ws, e, h1, h2⟩ := h
  cases (show ws = [] from h2)
  exact ⟨v, e, h1⟩
theorem pm_cnt {K : PySem.W.Frag} : PM K (rCnt K) opCnt := by
  intro N H x xs d ds Q lv hx hxs q
  unfold opCnt at q
  split at q
  · rename_i ys b
    obtain ⟨y, e, hy⟩ := rds1' hxs
    obtain ⟨a, vs, e1, t, dv⟩ := rd_lst hx
    cases eb : boolsOf ys with
    | none => rw [eb] at q; exact q.elim
    | some bs =>
      rw [eb] at q
      exact ⟨a, bs, b, e1, by rw [e, rd_bl hy], by rw [← boolsOf_dv dv eb]; exact SqL.of t, q _ _ .refl dv_int⟩
  · exact q.elim
def opIndex : D → List D → Option P
  | .lst xs, [.bl b] => (boolsOf xs).bind fun bs => (bs.findIdx? (· == b)).map fun j => .d (.int (j : Nat))
  | _, _ => none
theorem pm_index {K : PySem.W.Frag} : PM K (rIndex K) opIndex := by
  intro N H x xs d ds Q lv hx hxs q
  unfold opIndex at q
  split at q
  · rename_i ys b
    obtain ⟨y, e, hy⟩ := rds1' hxs
    obtain ⟨a, vs, e1, t, dv⟩ := rd_lst hx
    cases eb : boolsOf ys with
    | none => rw [eb] at q; exact q.elim
    | some bs =>
      rw [eb] at q
      cases ej : bs.findIdx? (· == b) with
      | none => simp only [Option.bind_some, ej] at q; exact q.elim
      | some j =>
        simp only [Option.bind_some, ej] at q
        obtain ⟨hj, z1, z2⟩ := List.findIdx?_eq_some_iff_getElem.mp ej
        have ev := boolsOf_dv dv eb
        refine ⟨a, vs, .bl b, j, .bl bs[j], e1, by rw [e, rd_bl hy], SqL.of t, rfl, by rw [ev]; simp [flatV], by rw [ev]; simp [hj], by simpa [eqV] using z1, fun m z hm em => ?_, q _ _ .refl dv_int⟩
        rw [ev, List.getElem?_map] at em
        have hm' : m < bs.length := by omega
        rw [List.getElem?_eq_getElem hm'] at em
        cases em
        simpa [eqV] using z2 m hm
  · exact q.elim
section
variable {X : Cx} {W : WX} {o e : Expr} {es : List Expr} {f : M R} {ga : M (List R)} {apos cpos : Pos}
theorem m_count (hu : X.A.units + 8 < cLine) (ho : PE X o (tD X.K τ W f)) (ha : PA X (e :: es) (tA X.K τ W ga)) (hbase : attributeBase o "count" X.env (eval o X.env) = eval o X.env := by rfl)
    (hfew : ((backTo cpos (starEach (e :: es) X.env)).all (fun x => !x.1) && (backToKw cpos (keywordEach [] X.env)).all (fun x => x.1.isSome)
      && decide ((e :: es).length + ([] : List Keyword).length + (if ([] : List Keyword).isEmpty then 0 else 1) < 30)) = true := by rfl)
    (hline : (apos.endLine == cpos.line) = true := by rfl) (hs : starEach (e :: es) X.env = (false, eval e X.env) :: starEach es X.env := by rfl) (hplain : (backTo cpos (starEach es X.env)).any (·.1) = false := by rfl) :
    PE X (.Call (.Attribute o "count" apos) (e :: es) [] cpos) (tD X.K τ W (xMt "list" opCnt f ga)) := d_mt pm_cnt PySem.F.plainAttrs_list PySem.F.slot_list_count PySem.F.type_list_count (mt_cntB hu) ho ha hbase hfew hline hs hplain
theorem m_index (ho : PE X o (tD X.K τ W f)) (ha : PA X (e :: es) (tA X.K τ W ga)) (hbase : attributeBase o "index" X.env (eval o X.env) = eval o X.env := by rfl)
    (hfew : ((backTo cpos (starEach (e :: es) X.env)).all (fun x => !x.1) && (backToKw cpos (keywordEach [] X.env)).all (fun x => x.1.isSome)
      && decide ((e :: es).length + ([] : List Keyword).length + (if ([] : List Keyword).isEmpty then 0 else 1) < 30)) = true := by rfl)
    (hline : (apos.endLine == cpos.line) = true := by rfl) (hs : starEach (e :: es) X.env = (false, eval e X.env) :: starEach es X.env := by rfl) (hplain : (backTo cpos (starEach es X.env)).any (·.1) = false := by rfl) :
    PE X (.Call (.Attribute o "index" apos) (e :: es) [] cpos) (tD X.K τ W (xMt "list" opIndex f ga)) := d_mt pm_index PySem.F.plainAttrs_list PySem.F.slot_list_index PySem.F.type_list_index mt_index ho ha hbase hfew hline hs hplain
end
/-! ### what a suite reads off its error -/
def opExF (a : Addr) (d : Option Addr) (c n : Str) : D → Option P
  | .exh a' d' c' fs ds => if a' = a ∧ d' = d ∧ c' = c then ((fs.zip ds).lookup n).map P.d else none
  | _ => none
theorem zip_look {K : PySem.W.Frag} {H : Hp} {N : Addr → Prop} {n : Str} : ∀ {fs : List Str} {ds : List D} {vs : List V} {d : D}, DVs K H N ds vs → (fs.zip ds).lookup n = some d → ∃ v, (fs.zip vs).lookup n = some v ∧ DV K H N d v
  | [], ds, vs, d, _, h => by simp at h
  | f :: fs, [], vs, d, _, h => by simp at h
  | f :: fs, x :: ds, vs, d, dv, h => by
    simp only [DVs] at dv
    obtain ⟨v, r, e, h1, h2⟩ := dv
    subst e
    rw [List.zip_cons_cons, List.lookup_cons] at h ⊢
    split at h
    · cases h; exact ⟨v, rfl, h1⟩
    · exact zip_look h2 h
section
variable {X : Cx} {T : XT} {a : Addr} {oe : Obj} {c : Str} {d : Option Addr} {pn : List (Addr × Obj)} {e : Expr} {f : M R} {W : WX} {n : Str} {pos : Pos}
/-- e.n -/
theorem d_exf (o : T.Ok X.K) (hc : c ∈ T.cls) (hno : T.isNo c n = true) (hz : Zc (.ref (He.ga X.K c)) d oe) (hf : ∃ vs, oe.data = .fields vs) (he : PE (X.suite a ((a, oe) :: pn)) e (tD X.K τ W f)) (hb : attributeBase e n X.env (eval e X.env) = eval e X.env := by rfl) :
    PE (X.suite a ((a, oe) :: pn)) (.Attribute e n pos) (tD X.K τ W (xUn (opExF a d c n) f)) := by
  have F := o.cls c hc
  refine PE.weak (pe_xf ⟨F.ga, F.gt, F.su, F.hd⟩ (o.isNo hno) hz hf he hb) fun σ H Q q => ?_
  obtain ⟨Φ, ρ, sr, h⟩ := q
  refine ⟨Φ, ρ, sr, ee h fun r ρ1 x H1 s1 sr1 ra ha => ?_⟩
  cases e1 : rdI r ρ1 with
  | none => simp only [e1] at ha; exact ha.elim
  | some dd =>
    simp only [e1] at ha
    have rd := ra.rd sr1 e1
    unfold opExF at ha
    split at ha
    · rename_i a' d' c' fs ds
      split at ha
      · rename_i hq
        obtain ⟨rfl, rfl, rfl⟩ := hq
        cases d' with
        | none =>
          simp only [RD, DV] at rd
          obtain ⟨vs, ev, ⟨t, l⟩, dv⟩ := rd
          have t : fs = [] := t
          subst t
          simp at ha
          exact ha.elim
        | some dx =>
          cases el : (fs.zip ds).lookup n with
          | none => rw [el] at ha; exact ha.elim
          | some z =>
            rw [el] at ha
            simp only [RD, DV] at rd
            obtain ⟨vs, ev, ⟨⟨t, _⟩, _⟩, dv⟩ := rd
            obtain ⟨v, e2, dz⟩ := zip_look dv el
            exact ⟨ev, rfl, dx, _, v, rfl, t, e2, ha v H1 ES.refl sr1 dz⟩
      · exact ha.elim
    · exact ha.elim
/-- isinstance(e, C), C a class of the program; isinstance(e, T) -/
def opIsE (T : XT) (a : Addr) (d : Option Addr) (c x : Str) : D → Option P
  | .exh a' d' c' _ _ => if a' = a ∧ d' = d ∧ c' = c then (T.isSub c x).map fun b => .d (.bl b) else none
  | _ => none
def opIsEt (T : XT) (a : Addr) (d : Option Addr) (c : Str) (t : String) : D → Option P
  | .exh a' d' c' _ _ => if a' = a ∧ d' = d ∧ c' = c then (T.isBsub c t).map fun b => .d (.bl b) else none
  | _ => none
def rIsX (K : PySem.W.Frag) (C a : Addr) (d : Option Addr) (cv : Value) : List V → Hp → VK → Prop := fun xs H Q => ∃ (u : V) (b : Bool), xs = [.ref a, u] ∧ (∀ w, RelV u w → w = cv) ∧ (∀ dx, d = some dx → ∃ fs, H dx = some (.xd fs)) ∧ PySem.W.kitOne K (.ref C) cv = some b ∧ Q (.bl b) H
theorem call_isX {cv : Value} (F : ExcF X.K (He.ga X.K c)) (hz : Zc (.ref (He.ga X.K c)) d oe) (hf : ∃ vs, oe.data = .fields vs) : CallR (X.suite a ((a, oe) :: pn)) (.builtin "isinstance") (rIsX X.K (He.ga X.K c) a d cv) := by
  intro pins s σ H xs us Q I r h
  obtain ⟨u, b, rfl, hcv, hx, e, q⟩ := h
  cases r with
  | cons r1 r2 =>
    cases r2 with
    | cons r3 r4 =>
      cases r4
      cases r1
      have ec := hcv _ r3
      subst ec
      obtain ⟨hget, _⟩ := I.pin (a, oe) (List.mem_append.mpr (.inl List.mem_cons_self))
      obtain ⟨vs, hv⟩ := hf
      have J : ∃ od, PySem.W.InstAt s.heap a oe (He.ga X.K c) od := by
        obtain ⟨oc, odd, oda, osl⟩ := oe
        obtain ⟨h1, h2⟩ := hz
        dsimp only at h1 h2 hv
        subst h1 h2 hv
        cases odd with
        | none => exact ⟨none, hget, rfl, rfl, trivial⟩
        | some dx =>
          obtain ⟨fs, ef⟩ := hx dx rfl
          obtain ⟨mA, ⟨o, _, _, ho, _⟩, _⟩ := I.hok dx _ ef
          exact ⟨some o, hget, rfl, rfl, ho⟩
      obtain ⟨od, J⟩ := J
      exact PySem.W.kia_one (PySem.W.kitx_exc F.cl F.ga F.gt F.su F.ca F.sp F.tk F.mo) I.kIn J e (fun z => nomatch z) fun tk => ⟨.bl b, H, I.tok _, rfl, q⟩
variable {p p2 cpos : Pos} {x : Str}
theorem isX_w {op : D → Option P} {K : PySem.W.Frag} {u : V} {cv : Value} (hop : ∀ dd z, op dd = some z → ∃ fs ds b, dd = .exh a d c fs ds ∧ z = .d (.bl b) ∧ PySem.W.kitOne K (.ref (He.ga K c)) cv = some b) (hu : ∀ w, RelV u w → w = cv) {σ : L2.St} {H : Hp} {Q : VK}
    (q : tD K τ W (xUn op f) σ H Q) : tD K τ W f σ H fun x H1 => rIsX K (He.ga K c) a d cv [x, u] H1 Q := by
  obtain ⟨Φ, ρ, sr, h⟩ := q
  refine ⟨Φ, ρ, sr, ee h fun r ρ1 x H1 s1 sr1 ra ha => ?_⟩
  cases e1 : rdI r ρ1 with
  | none => simp only [e1] at ha; exact ha.elim
  | some dd =>
    simp only [e1] at ha
    cases eo : op dd with
    | none => rw [eo] at ha; exact ha.elim
    | some z =>
      rw [eo] at ha
      obtain ⟨fs, ds, b, rfl, rfl, hk⟩ := hop _ _ eo
      have rd := ra.rd sr1 e1
      simp only [RD, DV] at rd
      obtain ⟨vs, ev, ⟨t, _⟩, dv⟩ := rd
      refine ⟨u, b, by rw [ev], hu, fun dx e => ?_, hk, ha _ H1 ES.refl sr1 (by show DV _ _ _ _ _; simp only [DV])⟩
      subst e
      exact ⟨_, t.1⟩
theorem d_isE (o : T.Ok X.K) (hc : c ∈ T.cls) (hz : Zc (.ref (He.ga X.K c)) d oe) (hf : ∃ vs, oe.data = .fields vs) (hgi : Gl X "isinstance") (hmi : X.mg "isinstance" = none) (hg : Gl X x) (hm : X.mg x = some (.ref (He.ga X.K x)))
    (he : PE (X.suite a ((a, oe) :: pn)) e (tD X.K τ W f)) (hdb : (x == ("__debug__" : Str)) = false := by decide)
    (h1 : starEach [e, .Name x p2] X.env = (false, eval e X.env) :: starEach [.Name x p2] X.env := by rfl) (h2 : (backTo cpos (starEach [.Name x p2] X.env)).any (·.1) = false := by rfl) :
    PE (X.suite a ((a, oe) :: pn)) (.Call (.Name "isinstance" p) [e, .Name x p2] [] cpos) (tD X.K τ W (xUn (opIsE T a d c x) f)) :=
  PE.weak (pe_callB (call_isX (cv := .ref (He.ga X.K x)) (o.cls c hc) hz hf) hgi hmi (by decide +kernel) (pa_cons he (pa_cons (pe_glob (X := X.suite a ((a, oe) :: pn)) (v := .ref (He.ga X.K x)) hg hm rfl hdb) pa_nil) h1) (by decide) (by decide) h1 h2) fun σ H Q q => by
    refine isX_w (u := .ref (He.ga X.K x)) (cv := .ref (He.ga X.K x)) (fun dd z ez => ?_) (fun w r => r) q
    unfold opIsE at ez
    split at ez
    · split at ez
      · rename_i hq
        obtain ⟨rfl, rfl, rfl⟩ := hq
        obtain ⟨b, eb, rfl⟩ := Option.map_eq_some_iff.mp ez
        exact ⟨_, _, b, rfl, rfl, (o.isSub eb).2⟩
      · cases ez
    · cases ez
theorem d_isEt {t : String} (o : T.Ok X.K) (hc : c ∈ T.cls) (hz : Zc (.ref (He.ga X.K c)) d oe) (hf : ∃ vs, oe.data = .fields vs) (hgi : Gl X "isinstance") (hmi : X.mg "isinstance" = none) (hg : Gl X x) (hm : X.mg x = none) (hv : bootBuiltins x = some (.type t))
    (he : PE (X.suite a ((a, oe) :: pn)) e (tD X.K τ W f)) (hn : x ≠ "__name__" := by decide) (hdb : (x == ("__debug__" : Str)) = false := by decide)
    (h1 : starEach [e, .Name x p2] X.env = (false, eval e X.env) :: starEach [.Name x p2] X.env := by rfl) (h2 : (backTo cpos (starEach [.Name x p2] X.env)).any (·.1) = false := by rfl) :
    PE (X.suite a ((a, oe) :: pn)) (.Call (.Name "isinstance" p) [e, .Name x p2] [] cpos) (tD X.K τ W (xUn (opIsEt T a d c t) f)) :=
  PE.weak (pe_callB (call_isX (cv := .type t) (o.cls c hc) hz hf) hgi hmi (by decide +kernel) (pa_cons he (pa_cons (pe_bltn (X := X.suite a ((a, oe) :: pn)) (v := .ty t) hg hm hv rfl hn hdb) pa_nil) h1) (by decide) (by decide) h1 h2) fun σ H Q q => by
    refine isX_w (u := .ty t) (cv := .type t) (fun dd z ez => ?_) (fun w r => r) q
    unfold opIsEt at ez
    split at ez
    · split at ez
      · rename_i hq
        obtain ⟨rfl, rfl, rfl⟩ := hq
        obtain ⟨b, eb, rfl⟩ := Option.map_eq_some_iff.mp ez
        exact ⟨_, _, b, rfl, rfl, o.isBsub eb⟩
      · cases ez
    · cases ez
end
/-! ### written dicts -/
def xNew (o : O) : M R := mr (.new o)
theorem dct0_at {K : PySem.W.Frag} {H : Hp} {N : Addr → Prop} {p : Addr} : OV K (upd H p (.dK [])) N p (.dct [] []) := ⟨[], ⟨upd_same, rfl⟩, DVs.nil⟩
/-- {} -/
theorem d_dct0 {X : Cx} {W : WX} {pos : Pos} : PE X (.Dict [] [] pos) (tD X.K τ W (xNew (.dct [] []))) := PE.weak pe_dnewK fun σ H Q ⟨Φ, ρ, sr, q⟩ p hp =>
  q (.ref p) _ (ES.grow hp) (sr.grow hp) ⟨p, rfl, hp, fun z => sr.nnLive z hp, sr.growX hp, dct0_at⟩
/-- a dict of written keys and values -/
inductive Lit where
  | int (i : Int) | str (x : Str) | bl (b : Bool) | non
def Lit.v : Lit → V
  | .int i => .int i
  | .str x => .str x
  | .bl b => .bl b
  | .non => .non
def Lit.d : Lit → D
  | .int i => .int i
  | .str x => .str x
  | .bl b => .bl b
  | .non => .non
theorem Lit.dv {K : PySem.W.Frag} {H : Hp} {N : Addr → Prop} : ∀ l : Lit, DV K H N l.d l.v
  | .int _ => dv_int
  | .str _ => dv_str
  | .bl _ => dv_bl
  | .non => dv_non
theorem tPairs_lit {σ : L2.St} {H : Hp} : ∀ {l : List (Key × Lit)} {Q : List (V × V) → Hp → Prop}, Q (l.map fun q => (kV q.1, q.2.v)) H → tPairs (l.map fun q => (tC (kV q.1), tC q.2.v)) σ H Q
  | [], _, h => h
  | q :: l, Q, h => tPairs_lit (l := l) (σ := σ) (Q := fun ps H3 => Q ((kV q.1, q.2.v) :: ps) H3) h
theorem dvs_lit {K : PySem.W.Frag} {H : Hp} {N : Addr → Prop} : ∀ l : List (Key × Lit), DVs K H N (l.map fun q => q.2.d) (l.map fun q => q.2.v)
  | [] => DVs.nil
  | q :: l => DVs.cons q.2.dv (dvs_lit l)
theorem zip_lit : ∀ l : List (Key × Lit), (l.map (·.1)).zip (l.map fun q => q.2.v) = l.map fun q => (q.1, q.2.v)
  | [] => rfl
  | q :: l => by simp only [List.map_cons, List.zip_cons_cons, zip_lit l]
theorem d_dctL {X : Cx} {W : WX} {pos : Pos} {keys : List (Option Expr)} {values : List Expr} (l : List (Key × Lit)) (h : PPs X pos keys values (l.map fun q => (tC (kV q.1), tC q.2.v))) (hall : keys.all (·.isSome) = true) (hl : keys.length = values.length) (h0 : keys ≠ []) (h15 : keys.length ≤ 15) (hl15 : l.length ≤ 15)
    (hm : mergeK [] (l.map fun q => (q.1, q.2.v)) = l.map fun q => (q.1, q.2.v)) : PE X (.Dict keys values pos) (tD X.K τ W (xNew (.dct (l.map (·.1)) (l.map fun q => q.2.d)))) :=
  PE.weak (pe_disp h hall hl h0 h15) fun σ H Q ⟨Φ, ρ, sr, q⟩ p hp => tPairs_lit ⟨upd_same, l.map fun q => (q.1, q.2.v), by rw [List.map_map]; rfl, by rw [List.length_map]; exact hl15, by
    rw [hm, upd_upd]
    refine q (.ref p) _ (ES.grow hp) (sr.grow hp) ⟨p, rfl, hp, fun z => sr.nnLive z hp, sr.growX hp, l.map fun q => q.2.v, ⟨?_, by simp⟩, dvs_lit l⟩
    rw [zip_lit, upd_same]⟩
end DL

/-! ## DK -/
set_option Elab.async false
set_option linter.all false
set_option maxRecDepth 100000
set_option maxHeartbeats 4000000
/-! DK: defs with a star parameter. -/
namespace DL
open PySem L2 PySem.Spec
open PyProof.Rows (envOfC AllBare)
def datas : List Cell → Option (List D)
  | [] => some []
  | .imm d :: cs => (datas cs).map (d :: ·)
  | _ :: _ => none
theorem datas_eq : ∀ {cs : List Cell} {ds : List D}, datas cs = some ds → cs = ds.map Cell.imm
  | [], ds, h => by cases h; rfl
  | .imm d :: cs, ds, h => by
    obtain ⟨ds', h1, h2⟩ := Option.map_eq_some_iff.mp h
    rw [← h2, datas_eq h1]
    rfl
  | .own o :: cs, ds, h => by cases h
  | .bor o :: cs, ds, h => by cases h
/-- p plain parameters, then the star's -/
def starF (p n : Nat) (m : MS) (cs : List Cell) : FO := match datas cs with
  | some ds => if p ≤ ds.length && szB ds.length then outF [] (m ((ds.take p ++ [D.tup (ds.drop p)]).map (fun d => some (.imm d)) ++ List.replicate n none)) else .bad
  | none => .bad
section
variable {K : PySem.W.Frag} {H : Hp} {Φ : Addr → Prop} {σ : L2.St} {ρ : Env'}
/-- cells that are none or data own nothing -/
theorem noOwn {a : Addr} (h : ∀ (j : Nat) (c : Cell), ρ[j]? = some (some c) → ∃ d, c = .imm d) : ¬ Own σ ρ a := fun ⟨j, o, e, _⟩ => by
  obtain ⟨d, z⟩ := h j _ e
  cases z
theorem ioC_d (l : Nat) (os : List O) (j : Nat) (c : Cell) : (ioC (List.replicate l Md.d) os)[j]? ≠ some (some c) := by
  induction l generalizing j with
  | zero => simp [ioC]
  | succ l ih =>
    rw [List.replicate_succ]
    cases j with
    | zero => simp [ioC]
    | succ j => simpa [ioC] using ih j
theorem SR.none (hl : ρ.length = σ.length) (h : ∀ (j : Nat) (c : Cell), ρ[j]? ≠ some (some c)) (lv : ∀ a, Φ a → Lv H a) (tb : LamX.Tabs τ H) : SR K τ H Φ σ ρ :=
  ⟨hl, fun i c e => (h i c e).elim, fun i j o u a e => (h i _ e).elim, lv, tb⟩
/-- slots that hold data -/
theorem SR.imms {ds : List D} {vs : List V} (dv : DVs K H Φ ds vs) (lv : ∀ a, Φ a → Lv H a) (tb : LamX.Tabs τ H) : SR K τ H Φ (vs.map some) (ds.map fun d => some (.imm d)) := by
  have im : ∀ (j : Nat) (c : Cell), (ds.map fun d => some (Cell.imm d))[j]? = some (some c) → ∃ d, ds[j]? = some d ∧ c = .imm d := fun j c e => by
    rw [List.getElem?_map] at e
    obtain ⟨d, q, z⟩ := Option.map_eq_some_iff.mp e
    exact ⟨d, q, (Option.some.inj z).symm⟩
  have no : ∀ a, ¬ Own (vs.map some) (ds.map fun d => some (Cell.imm d)) a := fun a => noOwn fun j c e => let ⟨d, _, z⟩ := im j c e; ⟨d, z⟩
  refine ⟨by simp [dv.length], fun j c e => ?_, fun i j o u a e => (let ⟨d, _, z⟩ := im i _ e; by cases z), lv, tb⟩
  obtain ⟨d, q, rfl⟩ := im j c e
  obtain ⟨v, e1, dv1⟩ := dv.getD' q
  exact ⟨v, by rw [List.getElem?_map, e1]; rfl, DV.keep (N := Φ) (fun _ _ e _ _ => e) (fun a z => .inl (z.elim id fun z => (no a z).elim)) d v dv1⟩
/-- data in all slots: what the slots hold -/
theorem SR.datas {ds : List D} {vs : List V} (sr : SR K τ H Φ (vs.map some) ((ds.map Cell.imm).map some)) : DVs K H Φ ds vs := by
  have hl : ds.length = vs.length := by have := sr.len; simpa using this
  have at_ : ∀ (j : Nat) (d : D), ds[j]? = some d → ∃ v, vs[j]? = some v ∧ DV K H Φ d v := fun j d e => by
    obtain ⟨v, e1, cv⟩ := sr.cell j (.imm d) (by rw [List.map_map, List.getElem?_map, e]; rfl)
    rw [List.getElem?_map] at e1
    obtain ⟨v', q, z⟩ := Option.map_eq_some_iff.mp e1
    cases z
    exact ⟨v, q, DV.keep (N := Nn Φ (vs.map some) ((ds.map Cell.imm).map some)) (fun _ _ e _ _ => e) (fun a z => .inl (.inl z)) d v cv⟩
  clear sr
  induction ds generalizing vs with
  | nil => cases vs with
    | nil => exact DVs.nil
    | cons v vs => simp at hl
  | cons d ds ih => cases vs with
    | nil => simp at hl
    | cons v vs =>
      obtain ⟨w, e, q⟩ := at_ 0 d rfl
      cases (show some v = some w from e)
      exact DVs.cons q (ih (by simpa using hl) fun j d' e => at_ (j + 1) d' e)
/-- the body of a def that was given data alone: vs2, at a heap H2 that the binding made of H -/
theorem body_d {m : MS} {l n : Nat} {vs vs2 : List V} {cs : List Cell} {ds2 : List D} {H2 : Hp} {Q : VK} {E : XK} (hl : vs.length = l) (dv : DVs K H2 Φ ds2 vs2) (lv : ∀ a, Φ a → Lv H2 a) (tb : LamX.Tabs τ H2) (kp : Keep (fun _ => False) H H2) (tr : ∀ a, H a ≠ Option.none → H2 a ≠ Option.none)
    (h : GoodF K τ (List.replicate l Md.d) Φ vs cs H Q E (outF [] (m ((ds2.map fun d => some (.imm d)) ++ List.replicate n none)))) :
    tS K τ (wE E) [] m { nx := fun _ H' => Q .non H', rt := Q } (vs2.map some ++ List.replicate n none) H2 := by
  obtain ⟨sr, ow⟩ := (SR.imms dv lv tb).pad n
  have no : ∀ a, ¬ Own (vs2.map some ++ List.replicate n none) ((ds2.map fun d => some (Cell.imm d)) ++ List.replicate n none) a := fun a z => noOwn (fun j c e => by
    rw [List.getElem?_map] at e
    obtain ⟨d, _, z⟩ := Option.map_eq_some_iff.mp e
    exact ⟨d, (Option.some.inj z).symm⟩) ((ow a).mp z)
  have nio : ∀ os (a : Addr), ¬ Own (vs.map some) (ioC (List.replicate l Md.d) os) a := fun os a ⟨j, o, e, _⟩ => ioC_d l os j _ e
  have ln : ∀ os, (ioC (List.replicate l Md.d) os).length = (vs.map some).length := fun os => by rw [ioC_length, List.length_map, List.length_replicate, hl]
  have end_ : ∀ {Ψ Ψ' : Addr → Prop} {σ' : L2.St} {ρ' : Env'} {H' : Hp}, SR K τ H' Ψ σ' ρ' → SR K τ H' Ψ (vs.map some) (ioC (List.replicate l Md.d) []) := fun s' => SR.none (ln _) (ioC_d l _) s'.lv s'.tab
  have keep : ∀ {H'}, Keep (Own (vs2.map some ++ List.replicate n none) ((ds2.map fun d => some (Cell.imm d)) ++ List.replicate n none)) H2 H' → Keep (Own (vs.map some) (cs.map some)) H H' := fun {H'} k b o e _ t => k b o (kp b o e (fun z => z) t) (no b) t
  have low : ∀ {Ψ : Addr → Prop} {σ' : L2.St} {ρ' : Env'} (a : Addr), Nn Ψ (vs.map some) (ioC (List.replicate l Md.d) []) a → Nn Ψ σ' ρ' a := fun a z => .inl (z.elim id fun z => (nio _ a z).elim)
  refine ⟨Φ, _, sr, ?_⟩
  generalize m ((ds2.map fun d => some (Cell.imm d)) ++ List.replicate n none) = o at h
  cases o with
  | next ρ' => exact fun σ' H' st s' => h .non H' (keep st.keep) (fun a z => st.trk a (tr a z)) (end_ (Ψ' := Φ) s') (by show DV _ _ _ _ _; simp only [DV])
  | er x ρ' => exact fun cls d σ' H' st s' xv => h cls d H' (keep st.keep) (fun a z => st.trk a (tr a z)) (end_ (Ψ' := Φ) s') (xv.less fun a z => low a z)
  | ret r ρ' =>
    intro v σ' H' st s' rv
    cases r with
    | slot i => exact h.elim
    | imm d => exact h v H' (keep st.keep) (fun a z => st.trk a (tr a z)) (end_ (Ψ' := Φ) s') (DV.keep (N := Nn Φ σ' ρ') (fun _ _ e _ _ => e) (fun a z => .inl (low a z)) d v rv)
    | new o =>
      obtain ⟨a, ev, hna, hnn, sx, ov⟩ := rv
      refine h v H' (keep st.keep) (fun a z => st.trk a (tr a z)) (end_ (Ψ' := Φ) s') ⟨a, ev, ?_, fun z => hnn (low a z), end_ (Ψ' := Φ) sx, ov.less fun b z => z.imp (low b) id⟩
      cases y : H a with
      | none => rfl
      | some o => exact absurd hna (tr a (by rw [y]; intro z; cases z))
  | brk ρ' => exact h.elim
  | cnt ρ' => exact h.elim
  | bad => exact h.elim
end
section
variable {P : Program} {w : World} {K : PySem.W.Frag} {mg : Str → Option Value} {base : Heap} {k : Nat} {f : Addr} {fd : FuncData} {x qual : Str} {params : Arguments} {body : List Stmt} {scope : Scope} {dv : List V} {kws : List (Str × V)} {N ps : List Str}
theorem fnG_star (l p n : Nat) {pv : Str} {m : MS} (F : FunD K x qual params body scope [] kws f fd) (S : FnScope N (ps ++ [pv]) scope) (hp : ps.length = p) (hn : N.length - (p + 1) = n)
    (hb : ∀ (kV doc pm : Value) (an : Option Addr) (cdv ct : Value) (us rest : List Value), us.length = ps.length → bindArgs (PySem.W.fnOf x qual params body scope .none kV doc pm an cdv ct) ⟨us ++ rest, []⟩ = (newTuple rest >>= fun t => pure (ps.zip us ++ [(pv, t)])))
    (hbody : ∀ (cdv : Value) (A : Around) (outer : List Env) (s : Shared) (H : Hp) (E : XK), Room k (A.deeper (envOfC qual scope s.heap.objs.size f cdv)) → A.guards = some [] → CodeOf K f cdv qual →
      Takes (cxOf (L2.CX P w) P w K mg base N qual scope f cdv A outer s H E) (wE E) → PassesOwn (model P w) (A.deeper (envOfC qual scope s.heap.objs.size f cdv)) (envOfC qual scope s.heap.objs.size f cdv) (cxOf (L2.CX P w) P w K mg base N qual scope f cdv A outer s H E).xe →
      PSs (cxOf (L2.CX P w) P w K mg base N qual scope f cdv A outer s H E) body (tS K τ (wE E) [] m)) :
    FnG P w K mg base (k + 1) f (spD K τ (List.replicate l Md.d) (starF p n m)) := by
  intro A outer s H us vs Q E hr hgd e0 r ⟨hl1, Φ, cs, hl2, sr, h⟩
  obtain ⟨oc, od, dV, kV, doc, pm, an, cdv, ct, osl, rfl, lk, hcd, hD, _⟩ := F.ex
  unfold starF at h
  cases ed : datas cs with
  | none => rw [ed] at h; exact h.elim
  | some ds =>
    rw [ed] at h
    dsimp only at h
    split at h
    · rename_i hc
      rw [Bool.and_eq_true] at hc
      have hpd := of_decide_eq_true hc.1
      have hzd := szB_ok hc.2
      cases datas_eq ed
      have dvs := sr.datas
      have lvd := dvs.length
      have hl1' : vs.length = l := by simpa using hl1
      -- the arguments in two
      obtain ⟨u1, u2, rfl, r1, r2⟩ := StX.vals_split (ws := vs.take p) (rest := vs.drop p) (by rw [List.take_append_drop]; exact r)
      have hw : (vs.take p).length = ps.length := by rw [List.length_take, hp]; omega
      have hz : (vs.drop p).length ≤ sizeLine := by rw [List.length_drop]; omega
      have fr : H s.heap.objs.size = none := e0.hok.fresh (Nat.le_refl _)
      refine StX.run_bnd (k := k) lk hcd S hr e0 (G := fun xs H2 => ∃ q, H q = none ∧ xs = vs.take p ++ [V.ref q] ∧ H2 = upd H q (.tup (vs.drop p))) (fun A' Ex Q' hq => ?_) fun s2 H2 xs ⟨q, hq, ex, eH⟩ hr' => ?_
      · rcases hD with ⟨_, rfl⟩ | ⟨e1, _⟩
        · rw [hb _ _ _ _ _ _ u1 u2 (by rw [← r1.length]; exact hw)]
          have new : ObjOk P w (upd H s.heap.objs.size (.tup (vs.drop p))) (s.heap.push ({ cls := .type "tuple", data := .seq u2.toArray } : Obj)) s.heap.objs.size (.tup (vs.drop p)) := ⟨hz, u2, r2, ⟨_, Heap.get?_push_size _ rfl, rfl, _, rfl⟩⟩
          have un := StX.un_laid (fs := frs outer) (s := s) (o := ({ cls := .type "tuple", data := .seq u2.toArray } : Obj)) (u := .tup (vs.drop p)) fr
          refine wpAny_bind (wpAny_newTuple (wpAny_pure ?_) (by rw [← r2.length]; exact hz))
          have z := hq _ _ (vs.take p ++ [V.ref s.heap.objs.size]) (u1 ++ [Value.ref s.heap.objs.size]) (StX.env0_laid e0 new) un rfl (fun e s' => StX.cxUp outer s H _ _ E e s' un (fun b o e => Heap.get?_push_of_some _ e) rfl) (r1.append (.cons rfl .nil)) (by rw [List.length_append, List.length_append, hw] <;> rfl) ⟨_, fr, rfl, rfl⟩
          rw [List.zip_append (by rw [← r1.length]; exact hw.symm)] at z
          exact z
        · exact absurd rfl e1
      · subst ex eH
        refine ⟨_, hbody cdv A outer s2 _ E hr' hgd ⟨_, _, _, _, lk, rfl, hcd⟩ (takes_of rfl rfl rfl rfl) (passes_of rfl), ?_⟩
        have kq : Keep (fun _ => False) H (upd H q (.tup (vs.drop p))) := fun b o e _ _ => by rw [upd_ne (ne_of_none e hq)]; exact e
        have kp : Keep Φ H (upd H q (.tup (vs.drop p))) := fun b o e _ t => kq b o e (fun z => z) t
        have tr : ∀ a, H a ≠ none → (upd H q (.tup (vs.drop p))) a ≠ none := fun a z => (ES.grow (σ := []) (ρ := []) hq).trk a z
        rw [start_eq (n := n) (by rw [List.length_append, hw, hp]; exact hn)]
        refine body_d (ds2 := ds.take p ++ [D.tup (ds.drop p)]) hl1' ((DVs.keep kp (fun a z => .inl z) _ _ (dvs.take p)).append (DVs.cons ?_ DVs.nil)) (fun a z => (sr.lv a z).upd hq) (tabs_upd sr.tab hq) kq tr h
        simp only [DV]
        exact ⟨q, _, rfl, .inl ⟨.inl upd_same, fun z => sr.live q z hq⟩, DVs.keep kp (fun a z => .inl z) _ _ (dvs.drop p)⟩
    · exact h.elim
end
theorem fnG_same {P : Program} {w : World} {K : PySem.W.Frag} {mg : Str → Option Value} {base : Heap} {k : Nat} {f : Addr} {ms : List Md} {F F' : List Cell → FO} (h : ∀ cs, F cs = F' cs) (z : FnG P w K mg base k f (spD K τ ms F)) : FnG P w K mg base k f (spD K τ ms F') := by
  rw [← (funext h : F = F')]
  exact z
end DL

/-! ## DO -/
set_option Elab.async false
set_option linter.all false
set_option maxRecDepth 100000
set_option maxHeartbeats 4000000
/-! DO: calls with keywords. -/
namespace DL
open PySem L2 PySem.Spec PyProof.Rows
/-- a def's promise to calls with n positional values and the keywords ks -/
def FnGk (P : Program) (w : World) (K : PySem.W.Frag) (mg : Str → Option Value) (base : Heap) (k : Nat) (f : Addr) (n : Nat) (ks : List Str) (sp : Sp) : Prop :=
  ∀ (A : Around) (outer : List Env) (s : Shared) (H : Hp) (us ws : List Value) (vs : List V) (Q : VK) (E : XK), Room k A → A.guards = some [] → Env0 P w K mg base A outer s H → us.length = n → ws.length = ks.length → Vals vs (us ++ ws) → sp vs H Q E →
    codeAny (model P w) A (.call (.ref f) ⟨us, ks.zip ws⟩) (CR (L2.CX P w) outer P w H s Q E) s
section
variable {P : Program} {w : World} {K : PySem.W.Frag} {mg : Str → Option Value} {base : Heap} {k : Nat} {f : Addr} {fd : FuncData} {x qual : Str} {params : Arguments} {body : List Stmt} {scope : Scope} {dv : List V} {kws : List (Str × V)} {N ps : List Str}
theorem fnGk_same {ms : List Md} {F F' : List Cell → FO} {n : Nat} {ks : List Str} (h : ∀ cs, F cs = F' cs) (z : FnGk P w K mg base k f n ks (spD K τ ms F)) : FnGk P w K mg base k f n ks (spD K τ ms F') := by
  rw [← (funext h : F = F')]
  exact z
/-- each parameter written, the last ones by keywords -/
theorem fnG_kw (ms : List Md) (n0 : Nat) (ks : List Str) {m : MS} {n : Nat} (F : FunD K x qual params body scope [] kws f fd) (S : FnScope N ps scope)
    (hb : ∀ (kV doc pm : Value) (an : Option Addr) (cdv ct : Value) (us ws : List Value), us.length = n0 → ws.length = ks.length → bindArgs (PySem.W.fnOf x qual params body scope .none kV doc pm an cdv ct) ⟨us, ks.zip ws⟩ = pure (ps.zip (us ++ ws)))
    (hl : ms.length = ps.length) (hnk : n0 + ks.length = ps.length) (hn : N.length - ps.length = n)
    (hbody : ∀ (cdv : Value) (A : Around) (outer : List Env) (s : Shared) (H : Hp) (E : XK), Room k (A.deeper (envOfC qual scope s.heap.objs.size f cdv)) → A.guards = some [] → CodeOf K f cdv qual →
      Takes (cxOf (L2.CX P w) P w K mg base N qual scope f cdv A outer s H E) (wE E) → PassesOwn (model P w) (A.deeper (envOfC qual scope s.heap.objs.size f cdv)) (envOfC qual scope s.heap.objs.size f cdv) (cxOf (L2.CX P w) P w K mg base N qual scope f cdv A outer s H E).xe →
      PSs (cxOf (L2.CX P w) P w K mg base N qual scope f cdv A outer s H E) body (tS K τ (wE E) (ioOf ms) m)) :
    FnGk P w K mg base (k + 1) f n0 ks (spD K τ ms fun cs => outF ms (m ((cs ++ ([] : List D).map Cell.imm).map some ++ List.replicate n none))) := by
  intro A outer s H us ws vs Q E hr hgd e0 hu hw r ⟨hl1, Φ, cs, hl2, sr, h⟩
  obtain ⟨oc, od, dV, kV, doc, pm, an, cdv, ct, osl, rfl, lk, hcd, hD, hK⟩ := F.ex
  rcases hD with ⟨_, rfl⟩ | ⟨e, _⟩
  · have hlen : (us ++ ws).length = ps.length := by rw [List.length_append, hu, hw, hnk]
    refine StX.run_bnd (k := k) lk hcd S hr e0 (G := fun xs H2 => xs = vs ∧ H2 = H) (fun A' Ex Q' hq => ?_) fun s2 H2 xs ⟨ex, eH⟩ hr' => ?_
    · exact BindsTo.of_eq (hb kV doc pm an cdv ct us ws hu hw) _ _ _ _ (hq s H vs (us ++ ws) e0 (Un.kept fun _ _ e => e) rfl (fun _ _ z => z) r (by rw [r.length]; exact hlen) ⟨rfl, rfl⟩)
    · subst ex eH
      refine ⟨_, hbody cdv A outer s2 H2 E hr' hgd ⟨_, _, _, _, lk, rfl, hcd⟩ (takes_of rfl rfl rfl rfl) (passes_of rfl), ?_⟩
      rw [start_eq (n := n) (by rw [hl1, hl]; exact hn)]
      have b := body_w (dds := []) (dvs := []) hl1 hl2 sr (fun _ _ => DVs.nil) h
      rw [List.append_nil] at b
      exact b
  · exact absurd rfl e
end
/-! ### the call -/
def catA (fs : List (M R)) (gk : M (List R)) : M (List R) := fs.foldr aCons gk
theorem acons_w {K : PySem.W.Frag} {W : WX} {f : M R} {ga : M (List R)} {σ : L2.St} {H : Hp} {Q : List V → Hp → Prop} (h : tA K τ W (aCons f ga) σ H Q) : tCons (tD K τ W f) (tA K τ W ga) σ H Q := by
  obtain ⟨Φ, ρ, sr, q⟩ := h
  refine ⟨Φ, ρ, sr, ?_⟩
  unfold aCons mb at q
  cases ef : f ρ with
  | er x ρ1 => simp only [ef] at q; exact q
  | bad => simp only [ef] at q; exact q
  | ok r ρ1 =>
    simp only [ef] at q
    intro x H1 s1 sr1 ra'
    have ra := ra'.w
    refine ⟨Φ, ρ1, sr1, ?_⟩
    cases eg : ga ρ1 with
    | er x ρ2 => simp only [eg] at q; exact fun c d H' s' sr' xv => q c d H' (s1.trans s') sr' xv
    | bad => simp only [eg] at q; exact q
    | ok rs ρ2 =>
      simp only [eg] at q
      intro ys H2 s2 sr2 rb
      exact q (x :: ys) H2 (s1.trans s2) sr2 ⟨x, ys, rfl, ra.step s2, rb.back fun z ez => s1.free ez⟩
section
variable {X : Cx} {W : WX}
inductive PEs (X : Cx) (τ : Tb) (W : WX) : List Expr → List (M R) → Prop
  | nil : PEs X τ W [] []
  | cons {e : Expr} {es : List Expr} {f : M R} {fs : List (M R)} (ha : PE X e (tD X.K τ W f)) (r : PEs X τ W es fs) (hs : starEach (e :: es) X.env = (false, eval e X.env) :: starEach es X.env := by rfl) : PEs X τ W (e :: es) (f :: fs)
/-- the first values, those of gk to come -/
theorem pa_split {gk : M (List R)} {es : List Expr} {fs : List (M R)} (h : PEs X τ W es fs) (R : List V → Hp → Prop) : ∀ (pre : List V), PA X es fun σ H Q => tA X.K τ W (catA fs gk) σ H (fun xs H' => R (pre ++ xs) H') ∧ ∀ vs H1, vs.length = fs.length → tA X.K τ W gk σ H1 (fun zs H2 => R (pre ++ (vs ++ zs)) H2) → Q vs H1 := by
  induction h with
  | nil => exact fun pre => PA.weak pa_nil fun σ H Q ⟨a, b⟩ => b [] H rfl a
  | @cons e es f fs ha r hs ih =>
    intro pre
    refine ⟨fun pos pins s σ H Q I ⟨a, b⟩ => ?_⟩
    rw [hs]
    show wpAny _ _ (spliced ((false, eval e X.env) :: backTo pos (starEach es X.env))) _ _ s
    refine Calls.spliced_cons (thn (ha.run pins s σ H _ I (acons_w a)) fun u s1 ⟨x, H1, I1, r1, q1⟩ => ?_)
    refine thn ((ih (pre ++ [x])).run pos pins s1 σ H1 (fun xs H2 => Q (x :: xs) H2) I1 ⟨?_, fun vs H2 hl t => b (x :: vs) H2 (congrArg (· + 1) hl) ?_⟩) fun us s2 ⟨xs, H2, I2, r2, q2⟩ => ⟨x :: xs, H2, I2, .cons r1 r2, q2⟩
    · have e : (fun xs H' => R (pre ++ (x :: xs)) H') = fun xs H' => R (pre ++ [x] ++ xs) H' := by funext xs H'; rw [List.append_assoc]; rfl
      rw [← e]
      exact q1
    · have e : (fun zs H2 => R (pre ++ (x :: vs ++ zs)) H2) = fun zs H2 => R (pre ++ [x] ++ (vs ++ zs)) H2 := by funext xs H'; rw [List.append_assoc]; rfl
      rw [e]
      exact t
inductive PKs (X : Cx) (τ : Tb) (W : WX) : List Keyword → List (M R) → Prop
  | nil : PKs X τ W [] []
  | cons {nm : Option Str} {e : Expr} {kpos : Pos} {kws : List Keyword} {f : M R} {fs : List (M R)} (ha : PE X e (tD X.K τ W f)) (r : PKs X τ W kws fs) : PKs X τ W (⟨nm, e, kpos⟩ :: kws) (f :: fs)
theorem pk_all {kws : List Keyword} {fs : List (M R)} (h : PKs X τ W kws fs) : PK X kws (tA X.K τ W (catA fs aNil)) := by
  induction h with
  | nil => exact ⟨fun pos pins s σ H Q I ⟨Φ, ρ, sr, q⟩ => pk_nil.run pos pins s σ H Q I (q [] H ES.refl sr rfl)⟩
  | cons ha r ih => exact ⟨fun pos pins s σ H Q I q => (pk_cons ha ih).run pos pins s σ H Q I (acons_w q)⟩
theorem catA_app (fs gs : List (M R)) : catA (fs ++ gs) aNil = catA fs (catA gs aNil) := by
  unfold catA
  rw [List.foldr_append]
/-- f(e, .., k = v, ..) -/
theorem d_fnk {k n : Nat} {f : Addr} {x : Str} {p pos : Pos} {e : Expr} {es : List Expr} {kws : List Keyword} {ks : List Str} {ms : List Md} {F : List Cell → FO} {fs gs : List (M R)} (tk : Takes X W) (G : FnGk X.prog X.w X.K X.mg X.base k f n ks (spD X.K τ ms F)) (hr : Room k X.A) (hgd : X.A.guards = some []) (hg : Gl X x) (hm : X.mg x = some (.ref f)) (hk : PySem.W.keepIn X.K (.ref f) = true)
    (ha : PEs X τ W (e :: es) fs) (hkw : PKs X τ W kws gs) (hn : fs.length = n) (hgl : gs.length = ks.length) (hnm : ms.length = n + ks.length) (hall : (backToKw pos (keywordEach kws X.env)).all (·.1.isSome) = true := by rfl) (hks : (backToKw pos (keywordEach kws X.env)).filterMap (·.1) = ks := by rfl)
    (hdb : (x == ("__debug__" : Str)) = false := by decide) (he : starEach (e :: es) X.env = (false, eval e X.env) :: starEach es X.env := by rfl)
    (hpl : ((backTo pos (starEach (e :: es) X.env)).any (·.1) || (backToKw pos (keywordEach kws X.env)).any (·.1.isNone)) = false := by rfl) :
    PE X (.Call (.Name x p) (e :: es) kws pos) (tD X.K τ W (xFn ms F (catA fs (catA gs aNil)))) := by
  refine ⟨fun pins s σ H Q I h => ?_⟩
  refine wpAny_Call_Name_kw (ld_glob I hg hm ?_ hdb)
  have h := fn_w h
  refine PySem.W.callWith_KW (h₀ := X.base) I.ok.mod.kin hk hall (thn ((pa_split (gk := catA gs aNil) ha (fun vs H1 => spD X.K τ ms F vs H1 Q fun cls dd H' => W cls dd σ H') []).run pos pins s σ H (fun vs H1 => vs.length = n ∧ tA X.K τ W (catA gs aNil) σ H1 fun zs H2 => spD X.K τ ms F (vs ++ zs) H2 Q fun cls dd H' => W cls dd σ H') I ⟨h, fun vs H1 hl t => ⟨hl.trans hn, t⟩⟩) fun us s1 ⟨vs, H1, I1, r, l1, q⟩ => ?_) hpl he
  · refine thn ((pk_all hkw).run pos pins s1 σ H1 _ I1 q) fun ws s2 ⟨zs, H2, I2, rz, q2⟩ => ⟨I2.kIn, ?_⟩
    have l2 : zs.length = ks.length := by have := q2.1; rw [List.length_append, hnm, l1] at this; omega
    rw [hks]
    refine wpAny_call (codeAny_mono (G X.A X.stack s2 H2 us ws (vs ++ zs) Q _ hr hgd I2.env0 (r.length.symm.trans l1) (rz.length.symm.trans l2) (r.append rz) q2) fun r s' hq => ?_)
    rcases r with e | fl
    · exact tk e s' (XE.of_call I2 (fun cls d H' z => z) hq)
    · rcases fl with _ | _ | _ | u <;> first | exact I2.after hq | exact False.elim hq
end
end DL

/-! ## DU -/
set_option Elab.async false
set_option linter.all false
set_option maxRecDepth 100000
set_option maxHeartbeats 4000000
/-! DU: a list == [], whatever stands in it. -/
namespace DL
open PySem L2 PySem.Spec PyProof.Rows
def rEqE : R2 := fun x y H Q => ∃ a b vs, x = .ref a ∧ y = .ref b ∧ H a = some (.lst vs) ∧ H b = some (.lst []) ∧ Q (.bl vs.isEmpty) H
section
variable {X : Cx}
theorem op_eqE (hu : X.A.units < cLine) : OpR X (compareOp .Eq) rEqE := by
  intro pins s σ H x y v u Q I rx ry h
  obtain ⟨a, b, vs, rfl, rfl, ha, hb, q⟩ := h
  cases rx
  cases ry
  obtain ⟨its, rv, pl, _⟩ := I.list (SqL.of ha)
  obtain ⟨js, rw, pm, _⟩ := I.list (SqL.of hb)
  have l1 : its.length = vs.length := rv.length.symm
  have l2 : js.length = 0 := rw.length.symm
  have hj : js = [] := List.length_eq_zero_iff.mp l2
  subst hj
  by_cases hz : vs = []
  · subst hz
    have hi : its = [] := List.length_eq_zero_iff.mp l1
    subst hi
    refine SeqAt.eq_listAt (e := fun _ => true) pl.isList pm.isList rfl hu (fun j h1 h2 => ?_) ⟨.bl _, H, I, rfl, q⟩
    exact absurd h1 (by simp)
  · have hne : vs.isEmpty = false := by cases vs with
      | nil => exact absurd rfl hz
      | cons _ _ => rfl
    rw [hne] at q
    refine SeqAt.eq_list_lengthsAt pl.isList pm.isList ?_ hu ⟨.bl _, H, I, rfl, q⟩
    have : its.length ≠ 0 := by rw [l1]; exact fun z => hz (List.length_eq_zero_iff.mp z)
    simpa using this
def opEqE : D → D → Option P
  | .lst xs, .lst [] => some (.d (.bl xs.isEmpty))
  | _, _ => none
theorem pb_eqE {K : PySem.W.Frag} : PB K rEqE opEqE := by
  intro N H x y d e Q lv hx hy q
  unfold opEqE at q
  split at q
  · rename_i xs
    obtain ⟨a, vs, e1, t, dv⟩ := rd_lst hx
    obtain ⟨b, ws, e2, u, dw⟩ := rd_lst hy
    have hw : ws = [] := List.length_eq_zero_iff.mp dw.length
    subst hw
    refine ⟨a, b, vs, e1, e2, t, u, ?_⟩
    have : vs.isEmpty = xs.isEmpty := by
      have l := dv.length
      cases vs <;> cases xs <;> simp at l ⊢
    rw [this]
    exact q _ _ .refl dv_bl
  · exact q.elim
theorem d_eqE {W : WX} {a b : Expr} {f g : M R} {pos : Pos} (hu : X.A.units + 64 < cLine) (ha : PE X a (tD X.K τ W f)) (hb : PE X b (tD X.K τ W g)) : PE X (.Compare a [.Eq] [b] pos) (tD X.K τ W (xBin opEqE f g)) := d_bin pb_eqE (pe_cmpR (op_eqE (by omega)) ha hb (nomark _))
/-! lists of texts, whatever signs they have -/
def strsOf : List D → Option (List Str)
  | [] => some []
  | .str x :: l => (strsOf l).map (x :: ·)
  | _ :: _ => none
theorem strsOf_dv {K : PySem.W.Frag} {H : Hp} {N : Addr → Prop} : ∀ {xs : List D} {vs : List V} {a : List Str}, DVs K H N xs vs → strsOf xs = some a → vs = a.map V.str
  | [], vs, a, h, e => by
    cases e
    exact List.length_eq_zero_iff.mp h.length
  | .str x :: l, vs, a, h, e => by
    have e : (strsOf l).map (x :: ·) = some a := e
    obtain ⟨b, e1, rfl⟩ := Option.map_eq_some_iff.mp e
    obtain ⟨v, ws, rfl, hv, ht⟩ := h
    rw [strsOf_dv ht e1]
    have hv : v = V.str x := by simpa only [DV] using hv
    rw [hv]
    rfl
  | .non :: _, _, _, _, e => by cases e
  | .bl _ :: _, _, _, _, e => by cases e
  | .int _ :: _, _, _, _, e => by cases e
  | .tup _ :: _, _, _, _, e => by cases e
  | .lst _ :: _, _, _, _, e => by cases e
  | .fn _ :: _, _, _, _, e => by cases e
  | .ty _ :: _, _, _, _, e => by cases e
  | .scr _ :: _, _, _, _, e => by cases e
  | .dct _ _ :: _, _, _, _, e => by cases e
  | .ins _ _ _ :: _, _, _, _, e => by cases e
  | .exh _ _ _ _ _ :: _, _, _, _, e => by cases e
  | .obj _ _ :: _, _, _, _, e => by cases e
  | .cl _ :: _, _, _, _, e => by cases e
  | .exv _ _ _ :: _, _, _, _, e => by cases e
def rEqS : R2 := fun x y H Q => ∃ (a b : Addr) (p q : List Str), x = .ref a ∧ y = .ref b ∧ H a = some (.lst (p.map .str)) ∧ H b = some (.lst (q.map .str)) ∧ Q (.bl (decide (p = q))) H
theorem vals_strs : ∀ {p : List Str} {its : List Value}, Vals (p.map V.str) its → ∃ ts : List Tok, ts.length = p.length ∧ its = List.zipWith Value.str p ts
  | [], its, h => by cases h; exact ⟨[], rfl, rfl⟩
  | x :: p, its, h => by
    cases h with
    | cons r t =>
      obtain ⟨u, rfl⟩ := r
      obtain ⟨ts, l, rfl⟩ := vals_strs t
      exact ⟨u :: ts, congrArg (· + 1) l, rfl⟩
theorem all_eq {p q : List Str} (h : p.length = q.length) : ((List.range p.length).all fun j => p.getD j "" == q.getD j "") = decide (p = q) := by
  by_cases e : p = q
  · subst e
    simp
  · rw [decide_eq_false e]
    cases hz : ((List.range p.length).all fun j => p.getD j "" == q.getD j "") with
    | false => rfl
    | true =>
      exfalso
      apply e
      apply List.ext_getElem h
      intro j h1 h2
      have z := List.all_eq_true.mp hz j (List.mem_range.mpr h1)
      have z := eq_of_beq z
      rw [List.getD_eq_getElem?_getD, List.getD_eq_getElem?_getD, List.getElem?_eq_getElem h1, List.getElem?_eq_getElem h2] at z
      exact z
theorem op_eqS (hu : X.A.units < cLine) : OpR X (compareOp .Eq) rEqS := by
  intro pins s σ H x y v u Q I rx ry h
  obtain ⟨a, b, p, q, rfl, rfl, ha, hb, qq⟩ := h
  cases rx
  cases ry
  obtain ⟨its, rv, pl, _⟩ := I.list (SqL.of ha)
  obtain ⟨js, rw', pm, _⟩ := I.list (SqL.of hb)
  obtain ⟨ts, l1, rfl⟩ := vals_strs rv
  obtain ⟨us, l2, rfl⟩ := vals_strs rw'
  have z1 : (List.zipWith Value.str p ts).length = p.length := by simp [l1]
  have z2 : (List.zipWith Value.str q us).length = q.length := by simp [l2]
  by_cases hz : p.length = q.length
  · refine SeqAt.eq_listAt (e := fun j => p.getD j "" == q.getD j "") pl.isList pm.isList (by simp [l1, l2, hz]) hu (fun j h1 h2 => ?_) ⟨.bl _, H, I, rfl, ?_⟩
    · have h1' : j < p.length := by simpa [l1] using h1
      have h2' : j < q.length := by simpa [l2] using h2
      have e1 : (List.zipWith Value.str p ts).toArray[j] = .str p[j] (ts[j]'(by omega)) := by simp
      have e2 : (List.zipWith Value.str q us).toArray[j] = .str q[j] (us[j]'(by omega)) := by simp
      rw [e1, e2]
      have g1 : p.getD j "" = p[j] := by simp [List.getD_eq_getElem?_getD, h1']
      have g2 : q.getD j "" = q[j] := by simp [List.getD_eq_getElem?_getD, h2']
      rw [g1, g2]
      exact SeqAt.EqAt.str_str _ _ _ _
    · have ez : (List.zipWith Value.str p ts).toArray.size = p.length := by simp [l1]
      rw [ez, all_eq hz]
      exact qq
  · have hne : decide (p = q) = false := decide_eq_false fun z => hz (by rw [z])
    rw [hne] at qq
    refine SeqAt.eq_list_lengthsAt pl.isList pm.isList (by simp [l1, l2, hz]) hu ⟨.bl _, H, I, rfl, qq⟩
def opEqS : D → D → Option P
  | .lst xs, .lst ys => match strsOf xs, strsOf ys with
    | some p, some q => some (.d (.bl (decide (p = q))))
    | _, _ => none
  | _, _ => none
theorem pb_eqS {K : PySem.W.Frag} : PB K rEqS opEqS := by
  intro N H x y d e Q lv hx hy q
  unfold opEqS at q
  split at q
  · rename_i xs ys
    cases e1 : strsOf xs with
    | none => simp only [e1] at q; exact q.elim
    | some p =>
      cases e2 : strsOf ys with
      | none => simp only [e1, e2] at q; exact q.elim
      | some r =>
        simp only [e1, e2] at q
        obtain ⟨a, vs, f1, t, dv⟩ := rd_lst hx
        obtain ⟨b, ws, f2, u, dw⟩ := rd_lst hy
        rw [strsOf_dv dv e1] at t
        rw [strsOf_dv dw e2] at u
        exact ⟨a, b, p, r, f1, f2, t, u, q _ _ .refl dv_bl⟩
  · exact q.elim
theorem d_eqS {W : WX} {a b : Expr} {f g : M R} {pos : Pos} (hu : X.A.units + 64 < cLine) (ha : PE X a (tD X.K τ W f)) (hb : PE X b (tD X.K τ W g)) : PE X (.Compare a [.Eq] [b] pos) (tD X.K τ W (xBin opEqS f g)) := d_bin pb_eqS (pe_cmpR (op_eqS (by omega)) ha hb (nomark _))
end
end DL

/-! ## DNe -/
set_option Elab.async false
set_option linter.all false
set_option maxRecDepth 100000
set_option maxHeartbeats 4000000
/-! DNe: a list != [], whatever stands in it. -/
namespace DL
open PySem L2 PySem.Spec PyProof.Rows
theorem cmp_ne {prog : Program} {w : World} {A : Around} {s : Shared} {a b : Value} {k : Bool} {E Q : Value → Shared → Prop} (h : SeqAt.RcNeAt A s a b k) (hq : Q (.bool k) s) : wpAny (model prog w) A (compareOp .NotEq a b) Q E s := h prog w E Q hq
def rNeE : R2 := fun x y H Q => ∃ a b vs, x = .ref a ∧ y = .ref b ∧ H a = some (.lst vs) ∧ H b = some (.lst []) ∧ Q (.bl (!vs.isEmpty)) H
theorem op_neE {X : Cx} (hu : X.A.units < cLine) : OpR X (compareOp .NotEq) rNeE := by
  intro pins s σ H x y v u Q I rx ry h
  obtain ⟨a, b, vs, rfl, rfl, ha, hb, q⟩ := h
  cases rx
  cases ry
  obtain ⟨its, rv, pl, _⟩ := I.list (SqL.of ha)
  obtain ⟨js, rw, pm, _⟩ := I.list (SqL.of hb)
  have l1 : its.length = vs.length := rv.length.symm
  have l2 : js.length = 0 := rw.length.symm
  have hj : js = [] := List.length_eq_zero_iff.mp l2
  subst hj
  cases vs with
  | nil =>
    have hi : its = [] := List.length_eq_zero_iff.mp l1
    subst hi
    exact cmp_ne (SeqAt.RcNeAt.lists (e := fun _ => true) pl.isList pm.isList rfl hu (fun j h1 h2 => absurd h1 (by simp))) ⟨.bl _, H, I, rfl, q⟩
  | cons z vs =>
    refine cmp_ne (SeqAt.RcNeAt.lists_lengths pl.isList pm.isList ?_ hu) ⟨.bl _, H, I, rfl, q⟩
    have : its.length ≠ 0 := by rw [l1, List.length_cons]; omega
    simpa using this
def opNeE : D → D → Option P
  | .lst xs, .lst [] => some (.d (.bl (!xs.isEmpty)))
  | _, _ => none
theorem pb_neE {K : PySem.W.Frag} : PB K rNeE opNeE := by
  intro N H x y d e Q lv hx hy q
  unfold opNeE at q
  split at q
  · rename_i xs
    obtain ⟨a, vs, e1, t, dv⟩ := rd_lst hx
    obtain ⟨b, ws, e2, u, dw⟩ := rd_lst hy
    have hw : ws = [] := List.length_eq_zero_iff.mp dw.length
    subst hw
    refine ⟨a, b, vs, e1, e2, t, u, ?_⟩
    have : vs.isEmpty = xs.isEmpty := by
      have l := dv.length
      cases vs <;> cases xs <;> simp at l ⊢
    rw [this]
    exact q _ _ .refl dv_bl
  · exact q.elim
section
variable {X : Cx} {W : WX} {a b : Expr} {f g : M R} {pos : Pos}
theorem d_neE (hu : X.A.units + 64 < cLine) (ha : PE X a (tD X.K τ W f)) (hb : PE X b (tD X.K τ W g)) : PE X (.Compare a [.NotEq] [b] pos) (tD X.K τ W (xBin opNeE f g)) := d_bin pb_neE (pe_cmpR (op_neE (by omega)) ha hb (nomark _))
theorem t_eqE (hu : X.A.units + 64 < cLine) (ha : PE X a (tD X.K τ W f)) (hb : PE X b (tD X.K τ W g)) : PT X (.Compare a [.Eq] [b] pos) (tT X.K τ W (xAsB (xBin opEqE f g))) := d_tcmp pb_eqE (pt_cmpR (op_eqE (by omega)) ha hb (nomark _))
theorem t_neE (hu : X.A.units + 64 < cLine) (ha : PE X a (tD X.K τ W f)) (hb : PE X b (tD X.K τ W g)) : PT X (.Compare a [.NotEq] [b] pos) (tT X.K τ W (xAsB (xBin opNeE f g))) := d_tcmp pb_neE (pt_cmpR (op_neE (by omega)) ha hb (nomark _))
end
end DL

/-! ## DV -/
set_option Elab.async false
set_option linter.all false
set_option maxRecDepth 100000
set_option maxHeartbeats 4000000
/-! DV: enumerate of a tuple. -/
namespace DL
open PySem L2 PySem.Spec PyProof.Rows
theorem meets_enum1 {v : Value} {o : Obj} {H : Heap → Prop} (B : Begins v o H) :
    Meets (Builtin.«enumerate.__new__» ⟨[.type "enumerate", v], []⟩) (fun _ R s => H s.heap ∧
      R (.ok (.ret (.ref (s.heap.push o).objs.size))) { s with heap := (s.heap.push o).push { cls := .type "enumerate", data := .fields #[.none, .bool false, .ref s.heap.objs.size, rawInt 0, .none, .none] } }) :=
  .of_wp fun prog w A R s h => by
    obtain ⟨hp, g, d, tk, os⟩ := s; obtain ⟨h1, h⟩ := h
    have hsub := sub_enumerate
    have q1 : ∀ {A' : Around} {E : Value → Shared → Prop} {Q : Value → Shared → Prop}, Q (.ref hp.objs.size) ⟨hp.push o, g, d, tk, os⟩ → wpAny (model prog w) A' (pyIter v) Q E ⟨hp, g, d, tk, os⟩ :=
      fun q => B.iter prog w _ _ ⟨hp, g, d, tk, os⟩ _ h1 q
    wp_walk using q1
    refine wpAny_stack_any fun st => wpAny_pure ?_
    split
    · rename_i c _ _ _ _ _
      cases (c == Value.type "enumerate")
      · wp_walk using q1
        exact ⟨_, rfl, h⟩
      · wp_walk using q1
        exact ⟨_, rfl, h⟩
    · wp_walk using q1
      exact ⟨_, rfl, h⟩
theorem enum_begin1 {prog : Program} {w : World} {A : Around} {E : Value → Shared → Prop} {s : Shared} {v : Value} {o : Obj} {H : Heap → Prop} {Q : Value → Shared → Prop} (B : Begins v o H) (h1 : H s.heap)
    (h : ∀ h', IsEnum h' (s.heap.objs.size + 1) s.heap.objs.size 0 .none → h'.get? s.heap.objs.size = some o → h'.objs.size = s.heap.objs.size + 2 →
      (∀ b o, s.heap.get? b = some o → h'.get? b = some o) → Q (.ref (s.heap.objs.size + 1)) { s with heap := h' }) :
    wpAny (model prog w) A (call (.type "enumerate") [v]) Q E s := by
  refine callType_new F.called_enumerate (by decide) (F.typeCall_enumerate_1 _) (F.newCall_enumerate_1 _) (fun obj => F.args_object_init_2 obj _) F.entry_enumerate_new (meets_enum1 B) ⟨h1, ?_⟩
  have hz : (s.heap.push o).objs.size = s.heap.objs.size + 1 := Heap.size_push ..
  show _ ∧ _
  rw [hz]
  have he : IsEnum ((s.heap.push o).push { cls := .type "enumerate", data := .fields #[.none, .bool false, .ref s.heap.objs.size, rawInt 0, .none, .none] }) (s.heap.objs.size + 1) s.heap.objs.size 0 .none := by
    have := Heap.get?_push_size (s.heap.push o) (o := { cls := .type "enumerate", data := .fields #[.none, .bool false, .ref s.heap.objs.size, rawInt 0, .none, .none] }) rfl
    rw [hz] at this; exact this
  exact ⟨⟨_, he, rfl⟩, h _ he (Heap.get?_push_of_some _ (Heap.get?_push_size _ B.free)) (by rw [Heap.size_push, hz]) fun b o x => Heap.get?_push_of_some _ (Heap.get?_push_of_some _ x)⟩
/-- counted items of a sequence as it stands -/
def IteM (K : PySem.W.Frag) (t : Bool) (a : Addr) : It where
  go := fun i H => ∃ (xs : List V) (x : V), SqA K H t a xs ∧ xs[i]? = some x
  yld := fun i H v H' => ∃ T x, v = .ref T ∧ H T = none ∧ H' = upd H T (.tup [.int (i : Nat), x]) ∧ ∀ xs, SqA K H t a xs → xs[i]? = some x
  stop := fun i H => ∃ xs : List V, SqA K H t a xs ∧ i = xs.length
theorem turn_enumM {P : Program} {w : World} {K : PySem.W.Frag} {elts : List Expr} {kk : Nat} {tpos : Pos} {t : Bool} {a e it : Addr} (hei : e ≠ it) (hea : e ≠ a) :
    Turn P w K (.Tuple elts kk tpos) (IteM K t a) [e, it] e (fun i h => (∃ old, IsEnum h e it ((i : Nat) : Int) old) ∧ ItAt h it a i t) where
  mem := by simp
  obj := fun i h st b hb => by
    obtain ⟨⟨old, he⟩, h1⟩ := st
    have e' : b = e ∨ b = it := by simpa using hb
    rcases e' with z | z
    · rw [z]; exact ⟨_, he, fun v q => nomatch q⟩
    · rw [z]; exact itAt_obj h1
  keep := fun i h h' st k => let ⟨⟨old, he⟩, h1⟩ := st; ⟨⟨old, k e (by simp) _ he⟩, itAt_keep h1 fun o q => k it (by simp) o q⟩
  item := by
    intro X hP hw hK hc i pins s σ H E I hf st hg
    subst hP hw hK
    obtain ⟨⟨old, he⟩, h1⟩ := st
    obtain ⟨xs, x, hq, hx⟩ := hg
    obtain ⟨its, rv, p1⟩ := seq_of I hq
    obtain ⟨u, hu, ru⟩ := rv.get hx
    have hh : X.A.in1.handled = none := I.ok.hd hc
    have l1 : i < its.toArray.size := by simpa using (List.getElem?_eq_some_iff.mp hu).1
    have ne1 : a ≠ it := ne_it p1 h1
    have hel : e < s.heap.objs.size := Heap.lt_size he
    refine wpAny_pyNext_enum_itemC (draws_of hh it a ne1 its.toArray t) he ⟨h1, p1⟩ l1 hei (by simp [hei, hea]) fun y h' tk q1 ho s1 hT hsz hk => ?_
    have e1 : y = u := by
      rw [List.getElem?_toArray, hu] at q1
      exact (Option.some.inj q1).symm
    subst e1
    refine ⟨_, rfl, wpAny_letOwnedTupleGo_enum (s := { s with heap := h', toks := tk + 1 }) ho fun h'' he' sb => ?_⟩
    have hT2 : h''.get? s.heap.objs.size = some { cls := .type "tuple", data := .seq #[.int i tk, y] } := (sb.2 _ (Nat.ne_of_gt hel)).trans hT
    have new : ObjOk X.prog X.w (upd H s.heap.objs.size (.tup [.int (i : Nat), x])) h'' s.heap.objs.size (.tup [.int (i : Nat), x]) :=
      ⟨by show 2 ≤ sizeLine; decide, [.int i tk, y], .cons ⟨_, rfl⟩ (.cons ru .nil), ⟨_, hT2, rfl, _, rfl⟩⟩
    have I1 : Inv X pins σ (upd H s.heap.objs.size (.tup [.int (i : Nat), x])) { s with heap := h'', toks := tk + 1 } :=
      I.turnedNew (t' := tk + 1) (ch := [e, it]) (fun b ob hb q => (sb.2 b (fun z => hb (by simp [z]))).trans (hk b ob (fun z => hb (by simp [z])) (fun z => hb (by simp [z])) q)) hf (Nat.le_refl _) new
    refine ⟨.ref s.heap.objs.size, _, I1, rfl, ⟨_, x, rfl, I.hok.fresh (Nat.le_refl _), rfl, fun ys hy => by rw [sqA_inj I hy hq]; exact hx⟩, ⟨⟨y, ?_⟩, itAt_keep s1.1 fun o q => (sb.2 it hei.symm).trans q⟩, fun b hb => ?_⟩
    · have e1 : ((i + 1 : Nat) : Int) = (i : Int) + 1 := by omega
      rw [e1]; exact he'
    · have hb' : b < s.heap.objs.size := by
        have e' : b = e ∨ b = it := by simpa using hb
        rcases e' with z | z
        · rw [z]; exact hel
        · rw [z]; obtain ⟨_, q, _⟩ := itAt_obj h1; exact Heap.lt_size q
      rw [upd_ne (Nat.ne_of_lt hb')]
      exact (hf b hb).1
  done := by
    intro X hP hw hK hc i pins s σ H E I hf st hg
    subst hP hw hK
    obtain ⟨⟨old, he⟩, h1⟩ := st
    obtain ⟨xs, hq, hx⟩ := hg
    obtain ⟨its, rv, p1⟩ := seq_of I hq
    have hh : X.A.in1.handled = none := I.ok.hd hc
    have ne1 : a ≠ it := ne_it p1 h1
    have k1 : its.toArray.size = i := by rw [List.size_toArray, hx]; exact rv.length.symm
    have D := draws_of (prog := X.prog) (w := X.w) hh it a ne1 its.toArray t
    rw [k1] at D
    obtain ⟨f0, f1, f2, f3, f4, f5⟩ := hf it (by simp)
    exact wpAny_pyNext_enum_endD D he ⟨h1, p1⟩ fun h' eb => ⟨rfl, I.turned (t' := s.toks) (fun b o hb q => eb b o hb q) f0 f1 f3 f4 f5⟩
  self := fun A i s Q E st h => let ⟨⟨_, he⟩, _⟩ := st; wpAny_pyIter_enum he h
def iEnumM (K : PySem.W.Frag) (ta : TA) : TI := fun σ H R => ta σ H fun vs H1 => ∃ t a xs, vs = [.ref a] ∧ SqA K H1 t a xs ∧ R (IteM K t a) H1
theorem pi_enumM {X : Cx} {e : Expr} {ta : TA} {p pos tpos : Pos} {elts : List Expr} {kk : Nat} (hg : Gl X "enumerate") (hm : X.mg "enumerate" = none) (ha : PA X [e] ta) (hs : starEach [e] X.env = [(false, eval e X.env)] := by rfl) :
    PI X (.Tuple elts kk tpos) (.Call (.Name "enumerate" p) [e] [] pos) (iEnumM X.K ta) := by
  refine ⟨fun pins s σ H R I h => ?_⟩
  refine Call_ (ld_blt I hg hm boot_enumerate (PyProof.Rows.callWith_type1 (thn (ha.run pos pins s σ H _ I h) fun us s1 ⟨vs, H1, I1, r1, q1⟩ => ?_) hs rfl))
  obtain ⟨t, a, xs, ex, hq, q⟩ := q1
  subst ex
  cases r1 with
  | cons r rr =>
    cases rr
    cases r
    obtain ⟨its, rv, p1⟩ := seq_of I1 hq
    refine enum_begin1 (begins_of a its.toArray t) p1 fun h' he hit hsz hk => wpAny_pyIter_enum he ?_
    have I2 : Inv X pins σ H1 { s1 with heap := h' } := I1.kept (t' := s1.toks) hk
    have la := seqIn_lt p1
    refine ⟨s1.heap.objs.size + 1, [s1.heap.objs.size + 1, s1.heap.objs.size], _, _, H1, rfl, I2, turn_enumM (Nat.succ_ne_self _) (fun z => Nat.lt_irrefl _ (Nat.lt_trans (Nat.lt_succ_self _) (z ▸ la))), ⟨⟨.none, he⟩, itObj_at hit⟩, fun b hb => ?_, q⟩
    have e' : b = s1.heap.objs.size + 1 ∨ b = s1.heap.objs.size := by simpa using hb
    have hle : s1.heap.objs.size ≤ b := by
      rcases e' with z | z
      · rw [z]; exact Nat.le_add_right _ _
      · rw [z]; exact Nat.le_refl _
    exact I1.fpOk hle (I1.hok.fresh hle)
theorem walkd_enumM {K : PySem.W.Frag} {N : Addr → Prop} {H : Hp} {t : Bool} {a : Addr} {xs : List D} (ha : SeqD K H N t a xs) : WalkD K N H (IteM K t a) (enumD 0 xs) := fun H' N' k f lv => by
  obtain ⟨vs, dv, q⟩ := (ha.keep k f).sq
  have l := dv.length
  have le := enumD_length 0 xs
  refine ⟨fun i hi => ⟨vs, vs[i]'(by omega), q, by simp [show i < vs.length by omega]⟩, ⟨vs, q, by omega⟩, fun i v H'' hi y => ?_⟩
  obtain ⟨T, x, e1, e2, e3, e4⟩ := y
  obtain ⟨d, g1, h1⟩ := dv.get (e4 vs q)
  rw [e1, e3]
  have g := enumD_get (i := 0) g1
  rw [Nat.zero_add] at g
  exact ⟨.new e2, _, g, dv_tupG (DVs.cons dv_int (DVs.cons h1 DVs.nil)) e2 lv⟩
def enum2 : List D → Option (List D)
  | [d] => match seqD d with
    | some (_, xs) => some (enumD 0 xs)
    | _ => none
  | _ => none
def xEnum2 (ga : M (List R)) : M (List D) := mb ga fun rs => mb (toIs rs) fun ds => mo (enum2 ds)
theorem i_enum2 {X : Cx} {W : WX} {e : Expr} {ga : M (List R)} {p pos tpos : Pos} {elts : List Expr} {kk : Nat} (hg : Gl X "enumerate") (hm : X.mg "enumerate" = none) (ha : PA X [e] (tA X.K τ W ga)) (hs : starEach [e] X.env = [(false, eval e X.env)] := by rfl) :
    PI X (.Tuple elts kk tpos) (.Call (.Name "enumerate" p) [e] [] pos) (tI X.K τ W (xEnum2 ga)) := PI.weak (pi_enumM hg hm ha hs) fun σ H Rr q => by
  obtain ⟨Φ, ρ, sr, h⟩ := q
  refine ⟨Φ, ρ, sr, ma_i h fun rs ρ1 xs H1 s1 sr1 ra hk => ?_⟩
  obtain ⟨ds, ρ2, s2, sr2, dv, hk⟩ := toIs_i ra sr1 (hk.shift s1)
  have hk : GoodI X.K τ W Φ σ ρ2 H1 Rr (mo (enum2 ds) ρ2) := hk.shift s2
  cases ez : enum2 ds with
  | none => rw [ez] at hk; exact hk.elim
  | some zs =>
    rw [ez] at hk
    unfold enum2 at ez
    split at ez
    · rename_i d
      split at ez
      · rename_i t xs1 q1
        cases ez
        simp only [DVs] at dv
        obtain ⟨v, _, e1, dv1, e2⟩ := dv
        obtain ⟨a, ea, sa⟩ := seqD_at dv1 q1
        obtain ⟨vs, _, qa⟩ := sa.sq
        exact ⟨t, a, vs, by rw [e1, e2, ea], qa, hk _ H1 ES.refl sr2 (walkd_enumM sa)⟩
      · cases ez
    · cases ez
end DL

/-! ## DA -/
set_option Elab.async false
set_option linter.all false
set_option maxRecDepth 100000
set_option maxHeartbeats 4000000
/-! DA: any and all of a list or a tuple whose items are whole numbers, truth values or None. -/
namespace DL
open PySem L2 PySem.Spec PyProof.Rows
def truV : V → Option Bool
  | .int i => some (i != 0)
  | .bl k => some k
  | .non => some false
  | _ => none
def truD : D → Option Bool
  | .int i => some (i != 0)
  | .bl k => some k
  | .non => some false
  | _ => none
def truDs : List D → Option (List Bool)
  | [] => some []
  | d :: r => match truD d, truDs r with
    | some b, some bs => some (b :: bs)
    | _, _ => none
/-- known truth of values -/
def TruVs : List V → List Bool → Prop
  | [], bs => bs = []
  | v :: vs, bs => ∃ b r, bs = b :: r ∧ truV v = some b ∧ TruVs vs r
theorem TruVs.length : ∀ {vs : List V} {bs : List Bool}, TruVs vs bs → bs.length = vs.length
  | [], _, h => by cases h; rfl
  | _ :: _, _, ⟨b, r, e, _, h⟩ => by rw [e, List.length_cons, List.length_cons, h.length]
theorem TruVs.truth {prog : Program} {w : World} {A : Around} : ∀ {vs : List V} {bs : List Bool} {its : List Value}, TruVs vs bs → Vals vs its → TruthOf prog w A (fun i v => its.toArray[i]? = some v) (fun i => bs.getD i false) := fun {vs bs its} h r i v s Q E hv hq => by
  have hv' : its[i]? = some v := by simpa using hv
  clear hv
  induction r generalizing bs i with
  | nil => simp at hv'
  | @cons x u xs us rx rr ih =>
    obtain ⟨b, r, e, tb, h2⟩ := h
    subst e
    cases i with
    | zero =>
      have e : u = v := by simpa using hv'
      subst e
      have hq' : Q b s := hq
      cases x with
      | non => cases tb; rw [show u = Value.none from rx]; exact truthy_none hq'
      | bl k => cases tb; rw [show u = Value.bool _ from rx]; exact wpAny_truthy_bool hq'
      | int j => cases tb; obtain ⟨t, rfl⟩ := rx; exact PySem.P.truthy_int hq'
      | _ => cases tb
    | succ i => exact ih h2 i (by simpa using hq) (by simpa using hv')
abbrev rAnyT (K : PySem.W.Frag) : List V → Hp → VK → Prop := fun vs H Q => ∃ t a xs bs, vs = [V.ref a] ∧ SqA K H t a xs ∧ TruVs xs bs ∧ Q (.bl (bs.any id)) H
abbrev rAllT (K : PySem.W.Frag) : List V → Hp → VK → Prop := fun vs H Q => ∃ t a xs bs, vs = [V.ref a] ∧ SqA K H t a xs ∧ TruVs xs bs ∧ Q (.bl (bs.all id)) H
section
variable {X : Cx}
theorem iter_sq {prog : Program} {w : World} {A : Around} {E : Value → Shared → Prop} {s : Shared} {a : Addr} {its : Array Value} {Q : Value → Shared → Prop} : ∀ {t : Bool}, SeqIn s.heap a its t → Q (.ref s.heap.objs.size) { s with heap := s.heap.push (itObj a t) } → wpAny (model prog w) A (pyIter (.ref a)) Q E s
  | true, p, h => wpAny_pyIter_tuple p h
  | false, p, h => wpAny_pyIter_list p h
theorem walks_sq {prog : Program} {w : World} {A : Around} (hh : A.handled = none) (it a : Addr) (ne : a ≠ it) (its : Array Value) : ∀ t, Walks prog w A it [it, a] [it] its.size (fun i v => its[i]? = some v) (fun i h => ItAt h it a i t ∧ SeqIn h a its t)
  | true => Walks.tuple hh it a ne its
  | false => Walks.list hh it a ne its
theorem seqIn_push {h : Heap} {a : Addr} {its : Array Value} (o : Obj) : ∀ {t : Bool}, SeqIn h a its t → SeqIn (h.push o) a its t
  | true, ⟨x, e, r⟩ => ⟨x, Heap.get?_push_of_some _ e, r⟩
  | false, ⟨x, e, r⟩ => ⟨x, Heap.get?_push_of_some _ e, r⟩
theorem cr_anyT (hc : X.calm = true) : CallR X (.builtin "any") (rAnyT X.K) := by
  intro pins s σ H vs us Q I r h
  obtain ⟨t, a, xs, bs, rfl, hs, tb, q⟩ := h
  obtain ⟨its, rv, p⟩ := seq_of I hs
  rw [Vals.ref1 r]
  have la := seqIn_lt p
  refine call_any_walk (iter_sq p ⟨_, _, _, _, _, _, _, rfl, walks_sq (A := X.A.in1) (I.ok.hd hc) _ a (Nat.ne_of_lt la) its.toArray t, ⟨itObj_at (Heap.get?_push_size _ (by cases t <;> rfl)), seqIn_push _ p⟩, tb.truth rv, fun h' tk hk => ?_⟩)
  refine ⟨.bl _, H, I.kept fun b o eo => hk b o (fun hm => ?_) (Heap.get?_push_of_some _ eo), ?_, q⟩
  · rcases List.mem_cons.mp hm with e1 | hm
    · exact absurd (e1 ▸ Heap.lt_size eo) (Nat.lt_irrefl _)
    · cases hm
  · show Value.bool _ = Value.bool _
    rw [← L2.any_range, List.size_toArray, ← rv.length, tb.length]
theorem cr_allT (hc : X.calm = true) : CallR X (.builtin "all") (rAllT X.K) := by
  intro pins s σ H vs us Q I r h
  obtain ⟨t, a, xs, bs, rfl, hs, tb, q⟩ := h
  obtain ⟨its, rv, p⟩ := seq_of I hs
  rw [Vals.ref1 r]
  have la := seqIn_lt p
  refine call_all_walk (iter_sq p ⟨_, _, _, _, _, _, _, rfl, walks_sq (A := X.A.in1) (I.ok.hd hc) _ a (Nat.ne_of_lt la) its.toArray t, ⟨itObj_at (Heap.get?_push_size _ (by cases t <;> rfl)), seqIn_push _ p⟩, tb.truth rv, fun h' tk hk => ?_⟩)
  refine ⟨.bl _, H, I.kept fun b o eo => hk b o (fun hm => ?_) (Heap.get?_push_of_some _ eo), ?_, q⟩
  · rcases List.mem_cons.mp hm with e1 | hm
    · exact absurd (e1 ▸ Heap.lt_size eo) (Nat.lt_irrefl _)
    · cases hm
  · show Value.bool _ = Value.bool _
    rw [← L2.all_range, List.size_toArray, ← rv.length, tb.length]
end
theorem truD_dv {K : PySem.W.Frag} {H : Hp} {N : Addr → Prop} {d : D} {v : V} {b : Bool} (h : DV K H N d v) (e : truD d = some b) : truV v = some b := by
  cases d with
  | int i => simp only [DV] at h; rw [h]; exact e
  | bl k => simp only [DV] at h; rw [h]; exact e
  | non => simp only [DV] at h; rw [h]; exact e
  | _ => cases e
theorem truDs_dv {K : PySem.W.Frag} {H : Hp} {N : Addr → Prop} : ∀ {xs : List D} {vs : List V} {bs : List Bool}, DVs K H N xs vs → truDs xs = some bs → TruVs vs bs
  | [], vs, bs, h, e => by simp only [DVs] at h; cases e; subst h; rfl
  | x :: xs, vs, bs, h, e => by
    simp only [DVs] at h
    obtain ⟨v, r, ev, h1, h2⟩ := h
    subst ev
    unfold truDs at e
    split at e
    · rename_i b bs' e1 e2
      cases e
      exact ⟨b, bs', rfl, truD_dv h1 e1, truDs_dv h2 e2⟩
    · cases e
def opAnyT (d : D) : Option P := match seqD d with
  | some (_, xs) => (truDs xs).map fun ns => .d (.bl (ns.any id))
  | none => none
def opAllT (d : D) : Option P := match seqD d with
  | some (_, xs) => (truDs xs).map fun ns => .d (.bl (ns.all id))
  | none => none
theorem sq_tru {K : PySem.W.Frag} {H : Hp} {N : Addr → Prop} {d : D} {x : V} {t : Bool} {xs : List D} {bs : List Bool} (hx : RD K H N d x) (e : seqD d = some (t, xs)) (e2 : truDs xs = some bs) : ∃ a vs, [x] = [V.ref a] ∧ SqA K H t a vs ∧ TruVs vs bs := by
  cases d with
  | tup ys =>
    cases e
    obtain ⟨a, vs, e1, q, dv⟩ := rd_tup hx
    exact ⟨a, vs, by rw [e1], q.sq, truDs_dv dv e2⟩
  | lst ys =>
    cases e
    obtain ⟨a, vs, e1, q, dv⟩ := rd_lst hx
    exact ⟨a, vs, by rw [e1], SqL.of q, truDs_dv dv e2⟩
  | scr ys =>
    cases e
    obtain ⟨a, vs, e1, q, dv⟩ := rd_scr hx
    exact ⟨a, vs, by rw [e1], q.sq, truDs_dv dv e2⟩
  | _ => cases e
theorem pc_anyT {K : PySem.W.Frag} : PCall K (rAnyT K) (one opAnyT) := pc_one fun N H x d Q lv hx q => by
  simp only [opAnyT] at q
  cases e : seqD d with
  | none => rw [e] at q; exact q.elim
  | some z =>
    obtain ⟨t, xs⟩ := z
    rw [e] at q
    simp only at q
    cases e2 : truDs xs with
    | none => rw [e2] at q; exact q.elim
    | some bs =>
      rw [e2] at q
      obtain ⟨a, vs, e1, qa, tb⟩ := sq_tru hx e e2
      exact ⟨t, a, vs, bs, e1, qa, tb, q _ _ .refl dv_bl⟩
theorem pc_allT {K : PySem.W.Frag} : PCall K (rAllT K) (one opAllT) := pc_one fun N H x d Q lv hx q => by
  simp only [opAllT] at q
  cases e : seqD d with
  | none => rw [e] at q; exact q.elim
  | some z =>
    obtain ⟨t, xs⟩ := z
    rw [e] at q
    simp only at q
    cases e2 : truDs xs with
    | none => rw [e2] at q; exact q.elim
    | some bs =>
      rw [e2] at q
      obtain ⟨a, vs, e1, qa, tb⟩ := sq_tru hx e e2
      exact ⟨t, a, vs, bs, e1, qa, tb, q _ _ .refl dv_bl⟩
section
variable {X : Cx} {W : WX} {e : Expr} {es : List Expr} {ga : M (List R)} {p pos : Pos}
theorem b_anyT (hc : X.calm = true) (hg : Gl X "any") (hm : X.mg "any" = none) (ha : PA X (e :: es) (tA X.K τ W ga)) (he : starEach (e :: es) X.env = (false, eval e X.env) :: starEach es X.env := by rfl) (hpl : (backTo pos (starEach es X.env)).any (·.1) = false := by rfl) :
    PE X (.Call (.Name "any" p) (e :: es) [] pos) (tD X.K τ W (xCall (one opAnyT) ga)) := d_call pc_anyT (pe_callB (cr_anyT hc) hg hm (by decide +kernel) ha (by decide) (by decide) he hpl)
theorem b_allT (hc : X.calm = true) (hg : Gl X "all") (hm : X.mg "all" = none) (ha : PA X (e :: es) (tA X.K τ W ga)) (he : starEach (e :: es) X.env = (false, eval e X.env) :: starEach es X.env := by rfl) (hpl : (backTo pos (starEach es X.env)).any (·.1) = false := by rfl) :
    PE X (.Call (.Name "all" p) (e :: es) [] pos) (tD X.K τ W (xCall (one opAllT) ga)) := d_call pc_allT (pe_callB (cr_allT hc) hg hm (by decide +kernel) ha (by decide) (by decide) he hpl)
end
theorem trus_int : ∀ l : List Int, truDs (l.map .int) = some (l.map fun i => i != 0)
  | [] => rfl
  | i :: l => by simp [truDs, truD, trus_int l]
theorem trus_bl : ∀ l : List Bool, truDs (l.map .bl) = some l
  | [] => rfl
  | i :: l => by simp [truDs, truD, trus_bl l]
end DL

/-! ## DD -/
set_option Elab.async false
set_option linter.all false
set_option maxRecDepth 100000
set_option maxHeartbeats 4000000
/-! DD: dicts whose keys are tuples of whole numbers and whose values are all True. -/
namespace DL
open PySem L2 PySem.Spec
theorem ent_eq {P : Program} {w : World} (q : List Int × Addr) : entryOfKey (tupleKind (intKind P w)) (q.1, q.2, Value.bool true) = ({ hash := hashI q.1, key := .ref q.2, val := .bool true } : DictEntry) := rfl
def xsOf (ks : List (List Int)) (bs : List Addr) : List (List Int × Addr × Value) := (ks.zip bs).map fun q => (q.1, q.2, Value.bool true)
theorem xsOf_length {ks : List (List Int)} {bs : List Addr} (h : bs.length = ks.length) : (xsOf ks bs).length = ks.length := by unfold xsOf; rw [List.length_map, List.length_zip, h, Nat.min_self]
theorem xsOf_keys : ∀ {ks : List (List Int)} {bs : List Addr}, bs.length = ks.length → (xsOf ks bs).map (·.1) = ks
  | [], [], _ => rfl
  | [], _ :: _, h => by simp at h
  | _ :: _, [], h => by simp at h
  | k :: ks, b :: bs, h => by
    have ih := xsOf_keys (ks := ks) (bs := bs) (by simpa using h)
    unfold xsOf at ih ⊢
    simp only [List.zip_cons_cons, List.map_cons, ih]
theorem xsOf_refs : ∀ {ks : List (List Int)} {bs : List Addr}, bs.length = ks.length → (xsOf ks bs).map (fun x => x.2.1) = bs
  | [], [], _ => rfl
  | [], _ :: _, h => by simp at h
  | _ :: _, [], h => by simp at h
  | k :: ks, b :: bs, h => by
    have ih := xsOf_refs (ks := ks) (bs := bs) (by simpa using h)
    unfold xsOf at ih ⊢
    simp only [List.zip_cons_cons, List.map_cons, ih]
theorem xsOf_ent {P : Program} {w : World} {ks : List (List Int)} {bs : List Addr} : (xsOf ks bs).map (entryOfKey (tupleKind (intKind P w))) = (ks.zip bs).map fun q => ({ hash := hashI q.1, key := .ref q.2, val := .bool true } : DictEntry) := by
  unfold xsOf
  rw [List.map_map]
  rfl
theorem xsOf_app {ks : List (List Int)} {bs : List Addr} {k : List Int} {b : Addr} (h : bs.length = ks.length) : xsOf (ks ++ [k]) (bs ++ [b]) = xsOf ks bs ++ [(k, b, Value.bool true)] := by
  unfold xsOf
  rw [List.zip_append h.symm, List.map_append]
  rfl
theorem atKey_some : ∀ {ks : List (List Int)} {bs : List Addr}, bs.length = ks.length → ∀ k : List Int, (atKey (xsOf ks bs) k).isSome = ks.contains k
  | [], [], _, _ => rfl
  | [], _ :: _, h, _ => by simp at h
  | _ :: _, [], h, _ => by simp at h
  | x :: ks, b :: bs, h, k => by
    have ih := atKey_some (ks := ks) (bs := bs) (by simpa using h) k
    unfold atKey xsOf at ih ⊢
    rw [Option.isSome_map] at ih ⊢
    rw [List.zip_cons_cons, List.map_cons, List.find?_cons]
    by_cases e : x = k
    · subst e
      simp
    · have e2 : ¬ k = x := fun z => e z.symm
      simp only [e, decide_false]
      rw [ih, List.contains_cons]
      simp [e2]
/-- whole numbers as a key -/
theorem items_int {P : Program} {w : World} : ∀ {k : List Int} {us : List Value}, Vals (k.map V.int) us → ItemsAre (intKind P w) k us
  | [], _, r => by rw [List.map_nil] at r; cases r; exact .nil
  | i :: k, _, r => by
    rw [List.map_cons] at r
    cases r with
    | cons h t =>
      obtain ⟨tk, rfl⟩ := h
      exact .cons (by simp [intKind, Value.isInt]) (items_int t)
theorem ints_dvs {K : PySem.W.Frag} {H : Hp} {N : Addr → Prop} : ∀ {k : List Int} {vs : List V}, DVs K H N (k.map .int) vs → vs = k.map V.int
  | [], vs, h => by simpa only [List.map_nil, DVs] using h
  | i :: k, vs, h => by
    simp only [List.map_cons, DVs] at h
    obtain ⟨v, r, e, h1, h2⟩ := h
    have h1 : v = V.int i := by simpa only [DV] using h1
    rw [e, h1, ints_dvs h2]
    rfl
section
variable {X : Cx} {pins : List (Addr × Obj)} {σ : L2.St} {H : Hp} {s : Shared} {N : Addr → Prop} {a b : Addr} {ks : List (List Int)} {k : List Int} {bs : List Addr}
theorem key_dv (I : Inv X pins σ H s) {x : V} (h : DV X.K H N (kT k) x) : ∃ b, x = .ref b ∧ (tupleKind (intKind X.prog X.w)).is s.heap k b := by
  simp only [kT, DV] at h
  obtain ⟨b, vs, e, t, q⟩ := h
  have ev := ints_dvs q
  subst ev
  obtain ⟨its, r, ⟨o, h1, h2, n, h3⟩, _⟩ := I.tuple t.sq
  exact ⟨b, e, o, its.toArray, n, h1, h2, h3, by simpa using items_int r⟩
theorem keys_dv (I : Inv X pins σ H s) : ∀ {ks : List (List Int)} {vs : List V}, DVs X.K H N (ks.map kT) vs → ∃ bs : List Addr, vs = bs.map V.ref ∧ bs.length = ks.length ∧ ∀ x ∈ xsOf ks bs, (tupleKind (intKind X.prog X.w)).is s.heap x.1 x.2.1
  | [], vs, h => ⟨[], by simpa only [List.map_nil, DVs] using h, rfl, fun x hx => nomatch hx⟩
  | k :: ks, vs, h => by
    simp only [List.map_cons, DVs] at h
    obtain ⟨v, r, e, h1, h2⟩ := h
    obtain ⟨b, e1, h1⟩ := key_dv I h1
    obtain ⟨bs, e2, l, h2⟩ := keys_dv I h2
    refine ⟨b :: bs, by rw [e, e1, e2]; rfl, by simp [l], fun x hx => ?_⟩
    rcases List.mem_cons.mp (show x ∈ (k, b, Value.bool true) :: xsOf ks bs from hx) with z | z
    · rw [z]; exact h1
    · exact h2 x z
theorem refs_inj : ∀ {as bs : List Addr}, as.map V.ref = bs.map V.ref → as = bs
  | [], [], _ => rfl
  | [], _ :: _, h => by simp at h
  | _ :: _, [], h => by simp at h
  | a :: as, b :: bs, h => by
    simp only [List.map_cons, List.cons.injEq, V.ref.injEq] at h
    rw [h.1, refs_inj h.2]
/-- the dict as it stands -/
structure StD (X : Cx) (s : Shared) (a : Addr) (ks : List (List Int)) (bs : List Addr) : Prop where
  len : bs.length = ks.length
  size : ks.length ≤ sizeLine
  nsys : (a == sysModules) = false
  d : s.heap.DictOfH (tupleKind (intKind X.prog X.w)) a (xsOf ks bs)
theorem st_d (I : Inv X pins σ H s) {vs : List V} (e : H a = some (.ext (StAt a ks vs))) (dv : DVs X.K H N (ks.map kT) vs) : ∃ bs, vs = bs.map V.ref ∧ StD X s a ks bs := by
  obtain ⟨φ, _, _⟩ := (show ObjOk X.prog X.w H s.heap a (.ext (StAt a ks vs)) from I.hok a _ e)
  obtain ⟨bs, ev, l, z, ns, nd, o, es, ep, g, ex, dd, he⟩ := φ
  obtain ⟨bs', ev', l', is⟩ := keys_dv I dv
  have : bs' = bs := refs_inj (ev'.symm.trans ev)
  subst this
  exact ⟨bs', ev, l, z, ns, o, es, ep, g, ex, dd, by rw [he, xsOf_ent], is, by rw [xsOf_keys l]; exact nd⟩
/-- .. as it stands: the object -/
theorem StD.at {h : Heap} (hz : ks.length ≤ sizeLine) (hl : bs.length = ks.length) (ns : (a == sysModules) = false) (d : h.DictOfH (tupleKind (intKind X.prog X.w)) a (xsOf ks bs)) (H' : Hp) : ObjOk X.prog X.w H' h a (.ext (StAt a ks (bs.map V.ref))) := by
  obtain ⟨o, es, ep, g, ex, dd, he, _, nd⟩ := d
  refine ⟨⟨bs, rfl, hl, hz, ns, by rw [xsOf_keys hl] at nd; exact nd, o, es, ep, g, ex, dd, by rw [he, xsOf_ent]⟩, ⟨o, g⟩, fun h1 h2 ⟨cs, c1, c2, c3, c4, c5, o', es', ep', g', r⟩ keep => ⟨cs, c1, c2, c3, c4, c5, o', es', ep', keep _ g', r⟩⟩
end
/-! ### in, not in -/
def keyD : D → Option (List Int)
  | .tup xs => intsOf xs
  | _ => none
theorem intsOf_eq : ∀ {xs : List D} {k : List Int}, intsOf xs = some k → xs = k.map .int
  | [], k, e => by cases e; rfl
  | x :: xs, k, e => by
    cases x with
    | int i =>
      simp only [intsOf] at e
      obtain ⟨m, e1, e2⟩ := Option.map_eq_some_iff.mp e
      rw [← e2, intsOf_eq e1]
      rfl
    | _ => cases e
theorem keyD_eq {d : D} {k : List Int} (h : keyD d = some k) : d = kT k := by
  cases d with
  | tup xs => rw [intsOf_eq h]; rfl
  | _ => cases h
def inT (d e : D) : Option Bool := match keyD d, e with
  | some k, .obj (.st ks) _ => some (ks.contains k)
  | _, _ => none
def opInT (d e : D) : Option P := (inT d e).map fun k => .d (.bl k)
def opNinT (d e : D) : Option P := (inT d e).map fun k => .d (.bl (!k))
def rInT (K : PySem.W.Frag) (neg : Bool) : R2 := fun x y H Q => ∃ (N : Addr → Prop) (k : List Int) (a : Addr) (ks : List (List Int)) (vs : List V), DV K H N (kT k) x ∧ y = .ref a ∧ H a = some (.ext (StAt a ks vs)) ∧ DVs K H N (ks.map kT) vs ∧ Q (.bl (if neg then !(ks.contains k) else ks.contains k)) H
section
variable {X : Cx}
theorem op_inT (hu : X.A.units + 1 < cLine) : OpR X (compareOp .In) (rInT X.K false) := by
  intro pins s σ H x y v u Q I rx ry h
  obtain ⟨N, k, a, ks, vs, hk, rfl, e, dv, q⟩ := h
  obtain ⟨b, rfl, kb⟩ := key_dv I hk
  obtain ⟨bs, rfl, sd⟩ := st_d I e dv
  cases rx
  cases ry
  refine wpAny_in_heap (tupleKind_room_in1 hu) kb sd.nsys sd.d ⟨.bl _, H, I.tok _, rfl, ?_⟩
  rw [atKey_some sd.len]
  exact q
theorem op_ninT (hu : X.A.units + 1 < cLine) : OpR X (compareOp .NotIn) (rInT X.K true) := by
  intro pins s σ H x y v u Q I rx ry h
  obtain ⟨N, k, a, ks, vs, hk, rfl, e, dv, q⟩ := h
  obtain ⟨b, rfl, kb⟩ := key_dv I hk
  obtain ⟨bs, rfl, sd⟩ := st_d I e dv
  cases rx
  cases ry
  refine PyProof.Rows.wpAny_notIn_heap (tupleKind_room_in1 hu) kb sd.nsys sd.d ⟨.bl _, H, I.tok _, rfl, ?_⟩
  rw [atKey_some sd.len]
  exact q
end
theorem rd_st {K : PySem.W.Frag} {H : Hp} {N : Addr → Prop} {ks : List (List Int)} {ds : List D} {x : V} (h : RD K H N (.obj (.st ks) ds) x) : ∃ a vs, x = .ref a ∧ H a = some (.ext (StAt a ks vs)) ∧ ds = ks.map kT ∧ DVs K H N ds vs := by
  obtain ⟨a, vs, e, ⟨h1, h2⟩, dv⟩ := h
  exact ⟨a, vs, e, h1, h2, dv⟩
theorem inT_w {K : PySem.W.Frag} {H : Hp} {N : Addr → Prop} {d e : D} {x y : V} {k : Bool} (hx : RD K H N d x) (hy : RD K H N e y) (h : inT d e = some k) (neg : Bool) {Q : VK} (q : Q (.bl (if neg then !k else k)) H) : rInT K neg x y H Q := by
  unfold inT at h
  split at h
  · rename_i kk ks ds e1
    cases h
    have ed := keyD_eq e1
    subst ed
    obtain ⟨a, vs, ea, h1, h2, dv⟩ := rd_st hy
    subst h2
    exact ⟨N, kk, a, ks, vs, hx, ea, h1, dv, q⟩
  · cases h
theorem pb_inT {K : PySem.W.Frag} : PB K (rInT K false) opInT := by
  intro N H x y d e Q lv hx hy q
  unfold opInT at q
  cases ek : inT d e with
  | none => rw [ek] at q; exact q.elim
  | some k => rw [ek] at q; exact inT_w hx hy ek false (q _ _ .refl dv_bl)
theorem pb_ninT {K : PySem.W.Frag} : PB K (rInT K true) opNinT := by
  intro N H x y d e Q lv hx hy q
  unfold opNinT at q
  cases ek : inT d e with
  | none => rw [ek] at q; exact q.elim
  | some k => rw [ek] at q; exact inT_w hx hy ek true (q _ _ .refl dv_bl)
section
variable {X : Cx} {W : WX} {a b : Expr} {f g : M R} {pos : Pos}
theorem d_inT (hu : X.A.units + 1 < cLine) (ha : PE X a (tD X.K τ W f)) (hb : PE X b (tD X.K τ W g)) (hm : behindInMarks .In b = false := by rfl) : PE X (.Compare a [.In] [b] pos) (tD X.K τ W (xBin opInT f g)) := d_bin pb_inT (pe_cmpR (op_inT hu) ha hb hm)
theorem d_ninT (hu : X.A.units + 1 < cLine) (ha : PE X a (tD X.K τ W f)) (hb : PE X b (tD X.K τ W g)) (hm : behindInMarks .NotIn b = false := by rfl) : PE X (.Compare a [.NotIn] [b] pos) (tD X.K τ W (xBin opNinT f g)) := d_bin pb_ninT (pe_cmpR (op_ninT hu) ha hb hm)
theorem t_inT (hu : X.A.units + 1 < cLine) (ha : PE X a (tD X.K τ W f)) (hb : PE X b (tD X.K τ W g)) (hm : behindInMarks .In b = false := by rfl) : PT X (.Compare a [.In] [b] pos) (tT X.K τ W (xAsB (xBin opInT f g))) := d_tcmp pb_inT (pt_cmpR (op_inT hu) ha hb hm)
theorem t_ninT (hu : X.A.units + 1 < cLine) (ha : PE X a (tD X.K τ W f)) (hb : PE X b (tD X.K τ W g)) (hm : behindInMarks .NotIn b = false := by rfl) : PT X (.Compare a [.NotIn] [b] pos) (tT X.K τ W (xAsB (xBin opNinT f g))) := d_tcmp pb_ninT (pt_cmpR (op_ninT hu) ha hb hm)
end
/-! ### len, list -/
def opLenT : D → Option P
  | .obj (.st ks) _ => some (.d (.int (ks.length : Nat)))
  | _ => none
def opListT : D → Option P
  | .obj (.st _) ds => some (.l ds)
  | _ => none
def rLenS (K : PySem.W.Frag) : List V → Hp → VK → Prop := fun xs H Q => ∃ (N : Addr → Prop) (a : Addr) (ks : List (List Int)) (vs : List V), xs = [.ref a] ∧ H a = some (.ext (StAt a ks vs)) ∧ DVs K H N (ks.map kT) vs ∧ Q (.int (ks.length : Nat)) H
def rListS (K : PySem.W.Frag) : List V → Hp → VK → Prop := fun xs H Q => ∃ (N : Addr → Prop) (a : Addr) (ks : List (List Int)) (vs : List V), xs = [.ref a] ∧ H a = some (.ext (StAt a ks vs)) ∧ DVs K H N (ks.map kT) vs ∧ ∀ l, H l = none → Q (.ref l) (upd H l (.lst vs))
theorem zip_keys : ∀ {ks : List (List Int)} {bs : List Addr}, bs.length = ks.length → ((ks.zip bs).map fun q => ({ hash := hashI q.1, key := .ref q.2, val := .bool true } : DictEntry)).map (·.key) = bs.map Value.ref
  | [], [], _ => rfl
  | [], _ :: _, h => by simp at h
  | _ :: _, [], h => by simp at h
  | k :: ks, b :: bs, h => by
    have ih := zip_keys (ks := ks) (bs := bs) (by simpa using h)
    simp only [List.zip_cons_cons, List.map_cons, ih]
section
variable {X : Cx}
theorem call_lenS : CallR X (.builtin "len") (rLenS X.K) := by
  intro pins s σ H xs us Q I r h
  obtain ⟨N, a, ks, vs, rfl, e, dv, q⟩ := h
  obtain ⟨u, rfl, rx⟩ := vals1 r
  obtain rfl : u = .ref a := rx
  obtain ⟨bs, rfl, sd⟩ := st_d I e dv
  have l := xsOf_length sd.len
  have z := sd.size
  refine call_len_dictH sd.nsys sd.d (by rw [l]; rw [sizeLine_eq] at z; omega) ?_
  rw [l]
  exact ⟨.int ((ks.length : Nat) : Int), H, I.tok _, ⟨_, rfl⟩, q⟩
theorem call_listS (hc : X.calm = true) : CallR X (.type "list") (rListS X.K) := by
  intro pins s σ H xs us Q I r h
  obtain ⟨N, a, ks, vs, rfl, e, dv, q⟩ := h
  obtain ⟨u, rfl, rx⟩ := r.one
  cases rx
  obtain ⟨bs, rfl, sd⟩ := st_d I e dv
  obtain ⟨o, es, ep, g, ex, dd, he, _, _⟩ := sd.d
  rw [xsOf_ent] at he
  have z := sd.size
  have l1 : es.size = ks.length := by
    have := congrArg List.length he
    rw [Array.length_toList, List.length_map, List.length_zip, sd.len, Nat.min_self] at this
    exact this
  refine PySem.W.kdl_call (kdl_raw sd.nsys ex dd) (I.ok.hd hc) g (by omega) fun h' tk acc' c' kp ea it => ?_
  have el : acc'.toList = bs.map Value.ref := by
    rw [← zip_keys sd.len, ← he]
    apply List.ext_getElem?
    intro j
    have h1 : acc'.size = es.size := it.1
    rw [List.getElem?_map]
    cases hj : acc'.toList[j]? with
    | none =>
      have h2 := List.getElem?_eq_none_iff.mp hj
      rw [Array.length_toList] at h2
      rw [List.getElem?_eq_none (by rw [Array.length_toList]; omega)]
      rfl
    | some v =>
      obtain ⟨en, hen, hv⟩ := it.2 j v (by rw [← Array.getElem?_toList]; exact hj)
      rw [← Array.getElem?_toList] at hen
      rw [hen, hv]
      rfl
  have rv : Vals (bs.map V.ref) acc'.toList := by rw [el]; exact vals_refs _
  refine ⟨.ref s.heap.objs.size, _, I.laid (t' := tk) (o := .lst (bs.map V.ref)) kp (Nat.le_refl _) ?_, rfl, q _ (I.hok.fresh (Nat.le_refl _))⟩
  exact ⟨by rw [List.length_map, sd.len]; exact z, acc'.toList, c', rv, by rw [Array.toArray_toList]; exact ea⟩
end
theorem pc_lenT {K : PySem.W.Frag} : PCall K (rLenS K) (one opLenT) := pc_one fun N H x d Q lv hx q => by
  unfold opLenT at q
  split at q
  · rename_i ks ds
    obtain ⟨a, vs, ea, h1, h2, dv⟩ := rd_st hx
    subst h2
    exact ⟨N, a, ks, vs, by rw [ea], h1, dv, q _ _ .refl dv_int⟩
  · exact q.elim
theorem pc_listT {K : PySem.W.Frag} : PCall K (rListS K) (one opListT) := pc_one fun N H x d Q lv hx q => by
  unfold opListT at q
  split at q
  · rename_i ks ds
    obtain ⟨a, vs, ea, h1, h2, dv⟩ := rd_st hx
    refine ⟨N, a, ks, vs, by rw [ea], h1, by rw [← h2]; exact dv, fun l hl => q l vs hl dv⟩
  · exact q.elim
section
variable {X : Cx} {W : WX} {e : Expr} {es : List Expr} {ga : M (List R)} {p pos : Pos}
theorem b_lenT (hg : Gl X "len") (hm : X.mg "len" = none) (ha : PA X (e :: es) (tA X.K τ W ga)) (he : starEach (e :: es) X.env = (false, eval e X.env) :: starEach es X.env := by rfl) (hpl : (backTo pos (starEach es X.env)).any (·.1) = false := by rfl) :
    PE X (.Call (.Name "len" p) (e :: es) [] pos) (tD X.K τ W (xCall (one opLenT) ga)) := d_call pc_lenT (pe_callB call_lenS hg hm (by decide +kernel) ha (by decide) (by decide) he hpl)
theorem b_listT (hc : X.calm = true) (hg : Gl X "list") (hm : X.mg "list" = none) (ha : PA X (e :: es) (tA X.K τ W ga)) (he : starEach (e :: es) X.env = (false, eval e X.env) :: starEach es X.env := by rfl) (hpl : (backTo pos (starEach es X.env)).any (·.1) = false := by rfl) :
    PE X (.Call (.Name "list" p) (e :: es) [] pos) (tD X.K τ W (xCall (one opListT) ga)) := d_call pc_listT (pe_callTy (call_listS hc) hg hm (by decide +kernel) ha (by decide) (by decide) he hpl)
end
end DL

/-! ## DDp -/
set_option Elab.async false
set_option linter.all false
set_option maxRecDepth 100000
set_option maxHeartbeats 4000000
/-! DE2: such dicts made and stored into. -/
namespace DL
open PySem L2 PySem.Spec
def putS (ks : List (List Int)) (k : List Int) : List (List Int) := if ks.contains k then ks else ks ++ [k]
theorem stored_xs {ks : List (List Int)} {bs : List Addr} {k : List Int} {b : Addr} (h : bs.length = ks.length) : storedH (xsOf ks bs) k b (Value.bool true) = xsOf (putS ks k) (if ks.contains k then bs else bs ++ [b]) := by
  unfold storedH putS
  rw [atKey_some h]
  by_cases c : ks.contains k = true
  · rw [if_pos c, if_pos c, if_pos c]
    unfold xsOf
    rw [List.map_map]
    refine List.map_congr_left fun q _ => ?_
    show putAt k (Value.bool true) (q.1, q.2, Value.bool true) = _
    unfold putAt
    split <;> rfl
  · rw [if_neg c, if_neg c, if_neg c, xsOf_app h]
def sStPut (K : PySem.W.Frag) (td ty tv : TE) : TS := fun D σ H => tv σ H fun v H1 => td σ H1 fun x H2 => ty σ H2 fun y H3 => v = .bl true ∧ ∃ (N : Addr → Prop) (k : List Int) (a : Addr) (ks : List (List Int)) (vs : List V),
  x = .ref a ∧ H3 a = some (.ext (StAt a ks vs)) ∧ DVs K H3 N (ks.map kT) vs ∧ DV K H3 N (kT k) y ∧ ks.length < sizeLine ∧ D.nx σ (upd H3 a (.ext (StAt a (putS ks k) (if ks.contains k then vs else vs ++ [y]))))
section
variable {X : Cx} {o i value : Expr} {pos pos' : Pos} {td ty tv : TE}
theorem ps_stPut (hu : X.A.units + 1 < cLine) (ho : PE X o td) (hi : PE X i ty) (hv : PE X value tv) (hs : swapsWith value (some (.Subscript o i pos')) pos.line X.env = pure false) :
    PS X (.Assign [.Subscript o i pos'] value pos) (sStPut X.K td ty tv) := by
  refine ⟨fun pins s σ H D I h => ?_⟩
  refine wpAny_Assign_Subscript (thn (hv.run pins s σ H _ I h) fun r s1 ⟨v, H1, I1, rv, q1⟩ => thn (ho.run pins s1 σ H1 _ I1 q1) fun u s2 ⟨x, H2, I2, rx, q2⟩ => thn (hi.run pins s2 σ H2 _ I2 q2) fun iv s3 ⟨y, H3, I3, ry, ev, N, k, a, ks, vs, ex, e, dvs, dk, hl, q3⟩ => ?_) hs
  subst ex ev
  obtain rfl : u = Value.ref a := rx
  obtain rfl : r = Value.bool true := rv
  obtain ⟨b, rfl, kb⟩ := key_dv I3 dk
  obtain rfl : iv = Value.ref b := ry
  obtain ⟨bs, rfl, sd⟩ := st_d I3 e dvs
  have hz : (xsOf ks bs).length ≤ sizeLine := by rw [xsOf_length sd.len]; exact sd.size
  refine wpAny_setItem_heap (hsz := hz) (tupleKind_room_in1 hu) kb sd.d fun h' dd' hs' => ?_
  rw [stored_xs sd.len] at dd'
  have hl2 : (if ks.contains k then bs else bs ++ [b]).length = (putS ks k).length := by
    unfold putS
    split
    · exact sd.len
    · rw [List.length_append, List.length_append, sd.len]; rfl
  have hz2 : (putS ks k).length ≤ sizeLine := by
    unfold putS
    split
    · exact sd.size
    · rw [List.length_append, List.length_singleton]; omega
  have em : (if ks.contains k then bs.map V.ref else bs.map V.ref ++ [V.ref b]) = (if ks.contains k then bs else bs ++ [b]).map V.ref := by
    split
    · rfl
    · rw [List.map_append]; rfl
  rw [em] at q3
  have he : ∃ q, h'.get? a = some q := let ⟨q, _, _, hq, _⟩ := dd'; ⟨q, hq⟩
  exact ⟨σ, _, I3.write (x := a) (e := a) (by rw [e]; exact True.intro) (.inl rfl) (fun c q hb z => (hs'.2 c hb).trans z) he (StD.at (X := X) hz2 hl2 sd.nsys dd' _), q3⟩
end
/-! ### over data -/
def isOwnT (i : Nat) (ρ : Env') : Bool := match ρ[i]? with
  | some (some (.own (.obj (.st _) _))) => true
  | _ => false
theorem isOwnT_get {i : Nat} {ρ : Env'} (h : isOwnT i ρ = true) : ∃ ks ds, ρ[i]? = some (some (Cell.own (.obj (.st ks) ds))) := by
  unfold isOwnT at h
  split at h
  · rename_i ks ds e
    exact ⟨ks, ds, e⟩
  · cases h
/-- d[key] = True -/
def sPutT (i : Nat) (f : M R) : MS := fun ρ => if isOwnT i ρ then sb f (fun r => fun ρ => match r with
  | .imm d => match keyD d, ρ[i]? with
    | some k, some (some (.own (.obj (.st ks) ds))) => if szB (ks.length + 1) then .next (ρ.set i (some (.own (.obj (.st (putS ks k)) (if ks.contains k then ds else ds ++ [d]))))) else .bad
    | _, _ => .bad
  | _ => .bad) ρ else .bad
theorem ownAtT {K : PySem.W.Frag} {H : Hp} {Φ : Addr → Prop} {σ : L2.St} {ρ : Env'} {i : Nat} {ks : List (List Int)} {ds : List D} (s : SR K τ H Φ σ ρ) (e : ρ[i]? = some (some (.own (.obj (.st ks) ds)))) : ∃ a vs, σ[i]? = some (some (V.ref a)) ∧ H a = some (.ext (StAt a ks vs)) ∧ ds = ks.map kT ∧ DVs K H (Nn Φ σ ρ) ds vs := by
  obtain ⟨v, e1, a, ev, n, vs, ⟨q1, q2⟩, q3⟩ := s.cell i _ e
  exact ⟨a, vs, by rw [e1, ev], q1, q2, q3⟩
section
variable {X : Cx} {W : WX} {io : List Nat} {f : M R} {pos pos' : Pos}
theorem s_putT (i : Nat) {o ix value : Expr} (hu : X.A.units + 1 < cLine) (hv : PE X o (tVar i)) (hi : PE X ix (tD X.K τ W f)) (he : PE X value (tC (.bl true))) (hs : swapsWith value (some (.Subscript o ix pos')) pos.line X.env = pure false := by rfl) :
    PS X (.Assign [.Subscript o ix pos'] value pos) (tS X.K τ W io (sPutT i f)) :=
  PS.weak (ps_stPut hu hv hi he hs) fun D σ H ⟨Φ, ρ, sr, h⟩ => by
    unfold sPutT at h
    split at h
    · rename_i ho
      obtain ⟨ks0, ds0, eo⟩ := isOwnT_get ho
      obtain ⟨a, vs0, ea, q0, _⟩ := ownAtT sr eo
      refine ⟨.ref a, ea, Φ, ρ, sr, DL.es h fun r ρ1 v H1 s1 sr1 rv hk => ?_⟩
      cases r with
      | slot j => exact hk.elim
      | new o => exact hk.elim
      | imm d =>
        have dv : DV X.K H1 (Nn Φ σ ρ1) d v := rv.w
        dsimp only at hk
        split at hk
        · rename_i k ks ds ek e3
          split at hk
          · rename_i hz
            obtain ⟨a', vs, ea', q1, q2, q3⟩ := ownAtT sr1 e3
            rw [ea] at ea'
            cases ea'
            have hz := szB_ok hz
            have ed := keyD_eq ek
            subst ed q2
            have nk : (if ks.contains k then ks.map kT else ks.map kT ++ [kT k]) = (putS ks k).map kT := by
              unfold putS
              split
              · rfl
              · rw [List.map_append]; rfl
            have dn : DVs X.K H1 (Nn Φ σ ρ1) (if ks.contains k then ks.map kT else ks.map kT ++ [kT k]) (if ks.contains k then vs else vs ++ [v]) := by
              split
              · exact q3
              · exact q3.append (DVs.cons dv DVs.nil)
            obtain ⟨s3, sr3⟩ := own_updO (o' := .obj (.st (putS ks k)) (if ks.contains k then ks.map kT else ks.map kT ++ [kT k])) (u' := .ext (StAt a (putS ks k) (if ks.contains k then vs else vs ++ [v]))) sr1 e3 ea fun H' N' e' kp fw => ⟨_, ⟨e', nk⟩, DVs.keep kp fw _ _ dn⟩
            exact ⟨rfl, Nn Φ σ ρ1, k, a, ks, vs, rfl, q1, q3, dv, by omega, hk σ _ (s1.trans s3).stp sr3⟩
          · exact hk.elim
        · exact hk.elim
    · exact h.elim
end
/-! ### {key: True} -/
theorem st_empty {P : Program} {w : World} {H : Hp} (h : Heap) (hb : sysModules < h.objs.size) : ObjOk P w H (h.push { cls := .type "dict", data := .dict #[] }) h.objs.size (.ext (StAt h.objs.size [] [])) :=
  ⟨⟨[], rfl, rfl, Nat.zero_le _, beq_eq_false_iff_ne.mpr (Ne.symm (Nat.ne_of_lt hb)), List.nodup_nil, _, #[], 0, Heap.get?_push_size _ rfl, ⟨rfl, rfl, rfl⟩, rfl, rfl⟩, ⟨_, Heap.get?_push_size _ rfl⟩,
    fun h1 h2 ⟨cs, c1, c2, c3, c4, c5, o', es', ep', g', r⟩ keep => ⟨cs, c1, c2, c3, c4, c5, o', es', ep', keep _ g', r⟩⟩
def tDisp1S (K : PySem.W.Frag) (tk : TE) : TE := fun σ H Q => ∀ p, H p = none → tk σ (upd H p (.ext (StAt p [] []))) fun x H1 => ∃ (N : Addr → Prop) (k : List Int), H1 p = some (.ext (StAt p [] [])) ∧ DV K H1 N (kT k) x ∧ Q (.ref p) (upd H1 p (.ext (StAt p [k] [x])))
theorem pe_disp1S {X : Cx} {pos : Pos} {k v : Expr} {tk : TE} (hu : X.A.units < cLine) (hk : PE X k tk) (hv : PE X v (tC (.bl true))) : PE X (.Dict [some k] [v] pos) (tDisp1S X.K tk) := by
  refine ⟨fun pins s σ H Q I q => ?_⟩
  have hn := I.hok.fresh (Nat.le_refl s.heap.objs.size)
  have I1 := I.laid (a := s.heap.objs.size) (o := .ext (StAt s.heap.objs.size [] [])) (h' := s.heap.push { cls := .type "dict", data := .dict #[] }) (t' := s.toks) (fun _ _ q => Heap.get?_push_of_some _ q) (Nat.le_refl _) (st_empty s.heap I.big)
  refine wpAny_Dict_any rfl rfl (by simp) (by simp) ?_
  refine pairTrees_cons_walk (thn (hk.run pins _ σ _ _ I1 (q _ hn)) fun u s1 ⟨x, H1, I2, rx, N, kk, e, dk, q1⟩ => thn (hv.run pins s1 σ H1 (fun y H2 => y = .bl true ∧ H2 = H1) I2 ⟨rfl, rfl⟩) fun w2 s2 ⟨y, H2, I3, ry, ey, eH⟩ => pairTrees_nil_walk ?_)
  subst ey eH
  obtain rfl : w2 = Value.bool true := ry
  obtain ⟨b, rfl, kb⟩ := key_dv I3 dk
  obtain rfl : u = Value.ref b := rx
  obtain ⟨bs, ev, sd⟩ := st_d (ks := []) (N := N) I3 e DVs.nil
  have eb : bs = [] := List.eq_nil_of_length_eq_zero sd.len
  subst eb
  unfold storeAll
  simp only [List.forIn_cons, List.forIn_nil]
  refine wpAny_bind (wpAny_bind (wpAny_dictSet_heap (hsz := Nat.zero_le _) (knd := tupleKind (intKind X.prog X.w)) hu kb sd.d fun h' dd' hs' => wpAny_pure (wpAny_pure ?_)))
  have dd' : h'.DictOfH (tupleKind (intKind X.prog X.w)) s.heap.objs.size (xsOf [kk] [b]) := dd'
  have he : ∃ q, h'.get? s.heap.objs.size = some q := let ⟨q, _, _, hq, _⟩ := dd'; ⟨q, hq⟩
  exact ⟨.ref s.heap.objs.size, _, I3.write (x := s.heap.objs.size) (e := s.heap.objs.size) (by rw [e]; exact True.intro) (.inl rfl) (fun c q hb z => (hs'.2 c hb).trans z) he (StD.at (X := X) (by rw [sizeLine_eq, List.length_singleton]; omega) rfl sd.nsys dd' _), rfl, q1⟩
def xDisp1 (f : M R) : M R := fun ρ => match f ρ with
  | .ok (.imm d) ρ1 => match keyD d with
    | some k => .ok (.new (.obj (.st [k]) [d])) ρ1
    | none => .bad
  | _ => .bad
theorem d_disp1 {X : Cx} {W : WX} {f : M R} {pos : Pos} {k v : Expr} (hu : X.A.units < cLine) (hk : PE X k (tD X.K τ W0 f)) (hv : PE X v (tC (.bl true))) : PE X (.Dict [some k] [v] pos) (tD X.K τ W (xDisp1 f)) :=
  PE.weak (pe_disp1S hu hk hv) fun σ H Q ⟨Φ, ρ, sr, h⟩ p hp => by
    have sx := sr.growX (o := .ext (StAt p [] [])) hp
    refine ⟨fun x => Φ x ∨ x = p, ρ, sx, ?_⟩
    unfold xDisp1 at h
    split at h
    · rename_i d ρ1 ef
      split at h
      · rename_i kk ek
        rw [ef]
        intro x H1 s1 sr1 rv
        have dv : DV X.K H1 (Nn (fun x => Φ x ∨ x = p) σ ρ1) d x := rv
        have ed := keyD_eq ek
        subst ed
        have no : ¬ Own σ ρ p := fun z => sr.ownLive z hp
        have e1 : H1 p = some (.ext (StAt p [] [])) := s1.keep p _ upd_same no (fun _ z => nomatch z)
        refine ⟨_, kk, e1, dv, ?_⟩
        have hb : ∀ (i : Nat) (u : O), ρ1[i]? = some (some (.bor u)) → σ[i]? ≠ some (some (V.ref p)) := fun i u e z => by
          obtain ⟨u', e2⟩ := s1.bor i u e
          obtain ⟨v', e3, a, ev, n, _⟩ := sr.cell i _ e2
          rw [z] at e3
          cases e3
          cases ev
          exact sr.live p n hp
        have sx2 := sr1.updX (o := .ext (StAt p [kk] [x])) (.inr rfl) e1 (nc_sh (s := .st []) (a := p) (vs := [])) hb
        have sr2 := sx2.drop hb
        have no1 : ¬ Nn Φ σ ρ1 p := fun z => z.elim (fun z => sr.live p z hp) fun z => no (s1.own p z)
        have es2 : ES σ ρ H ρ1 (upd H1 p (.ext (StAt p [kk] [x]))) := ⟨fun b o e n t => by
            have ne : b ≠ p := ne_of_none e hp
            rw [upd_ne ne]
            exact s1.keep b o (by rw [upd_ne ne]; exact e) n t,
          fun a e => by
            unfold upd
            split
            · intro z; cases z
            · exact s1.trk a (by rw [upd_ne (by assumption)]; exact e), s1.own, s1.bor⟩
        refine h (.ref p) _ es2 sr2 ⟨p, rfl, hp, no1, sx2, [x], ⟨upd_same, rfl⟩, DVs.cons (DV.keep (N := Nn (fun x => Φ x ∨ x = p) σ ρ1) (fun b o e n _ => ?_) (fun a z => .inl ?_) _ _ dv) DVs.nil⟩
        · rw [upd_ne fun z => n (.inl (.inr z))]; exact e
        · rcases z with (z | z) | z
          · exact .inl (.inl z)
          · exact .inr z
          · exact .inl (.inr z)
      · exact h.elim
    · exact h.elim
end DL

/-! ## DRe -/
set_option Elab.async false
set_option linter.all false
set_option maxRecDepth 100000
set_option maxHeartbeats 4000000
/-! DRe: t[::-1] of a tuple. -/
namespace DL
open PySem L2 PySem.Spec PyProof.Rows
section
variable {prog : Program} {w : World} {A : Around} {E : Value → Shared → Prop} {s : Shared}
theorem adjust_rev (n : Nat) : Builtin.Slice.sliceAdjust none none (-1) (n : Int) = ((n : Int) - 1, -1) := by
  simp [Builtin.Slice.sliceAdjust]
theorem places_rev (n : Nat) : Builtin.Slice.slicePlaces ((n : Int) - 1) (-1) (-1) = n := by
  unfold Builtin.Slice.slicePlaces
  have h1 : ¬ ((-1 : Int) > 0) := by omega
  simp only [h1, if_false]
  rw [show (- -1 : Int) = 1 from rfl, Int.ediv_one]
  split <;> omega
theorem applied_rev {sl : Addr} {vl vu vk : Value} {n : Nat} {Q : Int × Int × Nat → Shared → Prop} (hs : s.heap.IsSliceOf sl vl vu vk) (pl : IsPart vl none) (pu : IsPart vu none) (pk : IsPart vk (some (-1)))
    (h : Q ((n : Int) - 1, -1, n) s) : wpAny (model prog w) A (Builtin.Slice.sliceApplied (.ref sl) (pure (n : Int))) Q E s := by
  obtain ⟨os, hos, hcs, hds⟩ := id hs
  unfold Builtin.Slice.sliceApplied Builtin.Slice.sliceFields
  refine wpAny_bind (wpAny_bind (wpAny_field hos hds (x := vl) rfl (wpAny_bind (wpAny_field hos hds (x := vu) rfl (wpAny_bind (wpAny_field hos hds (x := vk) rfl (wpAny_pure ?_)))))))
  refine wpAny_bind (HT.slicePart_ pk ?_)
  show wpAny _ _ (if ((-1 : Int) == 0) = true then _ else _) _ _ s
  rw [if_neg (by decide)]
  refine wpAny_bind (HT.slicePart_ pl (wpAny_bind (HT.slicePart_ pu (wpAny_bind (wpAny_pure ?_)))))
  show wpAny _ _ (match Builtin.Slice.sliceAdjust none none (-1) (n : Int) with | (lo, hi) => pure (lo, (-1 : Int), Builtin.Slice.slicePlaces lo hi (-1))) _ _ s
  rw [adjust_rev]
  show wpAny _ _ (pure ((n : Int) - 1, (-1 : Int), Builtin.Slice.slicePlaces ((n : Int) - 1) (-1) (-1))) _ _ s
  rw [places_rev]
  exact wpAny_pure h
theorem fm_congr {α β : Type} {f g : α → Option β} : ∀ {l : List α}, (∀ x ∈ l, f x = g x) → l.filterMap f = l.filterMap g
  | [], _ => rfl
  | x :: l, h => by rw [List.filterMap_cons, List.filterMap_cons, h x List.mem_cons_self, fm_congr fun y hy => h y (List.mem_cons_of_mem _ hy)]
theorem pick_rev (xs : Array Value) : ((List.range xs.size).filterMap fun (m : Nat) => xs[((xs.size : Int) - 1 + (m : Int) * (-1)).toNat]?).toArray = xs.toList.reverse.toArray := by
  congr 1
  have e : ∀ m ∈ List.range xs.size, (fun (m : Nat) => xs[((xs.size : Int) - 1 + (m : Int) * (-1)).toNat]?) m = (fun k => xs[k]?) (xs.size - 1 - m) := fun m hm => by
    have hm := List.mem_range.mp hm
    have : ((xs.size : Int) - 1 + (m : Int) * (-1)).toNat = xs.size - 1 - m := by omega
    simp only [this]
  have h2 := PySem.W.krv_range xs.size
  have h3 := PySem.W.krv_all xs
  rw [fm_congr e]
  have : (List.range xs.size).filterMap (fun m => xs[xs.size - 1 - m]?) = ((List.range xs.size).map fun k => xs.size - 1 - k).filterMap (xs[·]?) := by rw [List.filterMap_map]; rfl
  rw [this, h2, List.filterMap_reverse, h3]
theorem getItem_tuple_rev {t sl : Addr} {items : Array Value} {vl vu vk : Value} {Q : Value → Shared → Prop} (ht : IsTup s.heap t items) (hs : s.heap.IsSliceOf sl vl vu vk) (pl : IsPart vl none) (pu : IsPart vu none) (pk : IsPart vk (some (-1)))
    (h : Q (.ref s.heap.objs.size) { s with heap := s.heap.push { cls := .type "tuple", data := .seq items.toList.reverse.toArray } })
    (hsz : items.size ≤ sizeLine) : wpAny (model prog w) A (getItem (.ref t) (.ref sl)) Q E s := by
  have hso : sizeOk (.seq items.toList.reverse.toArray) := by
    show items.toList.reverse.toArray.size ≤ sizeLine
    simpa using hsz
  obtain ⟨os, hos, hcs, hds⟩ := id hs
  have hTs : s.TypeIs (.ref sl) "slice" := ⟨os, hos, hcs⟩
  unfold getItem
  try with_reducible refine wpAny_holding ?_
  first | refine wpAny_bind (wpAny_pure ?_) | skip
  refine wpAny_bind (wpAny_sequenceKey ht.typeIs (by decide) ?_)
  refine wpAny_bind (wpAny_callSpecial?_slot (name := Str.ofString "__getitem__") ht.typeIs PyProof.Rows.slot_tuple_getitem
    (wpAny_call_entry PyProof.Rows.slot_tuple_getitem ht.typeIs entry_tuple_getitem ?_ (args_tuple_getitem _ _)))
  show wpAny _ _ (Builtin.Tuple.tupleItemsOf (.ref t) >>= _) _ _ s
  refine wpAny_bind (tupleItemsOf_ ht ?_)
  refine wpAny_bind (wpAny_typeOf hTs ?_)
  rw [if_pos (by decide)]
  refine wpAny_bind (applied_rev hs pl pu pk ?_)
  show wpAny _ _ (if (((items.size : Int) - 1) == 0 && (-1 : Int) == 1 && items.size == items.size) = true then _ else _) _ _ s
  rw [if_neg (by simp), pick_rev]
  first
    | exact wpAny_bind (m := Builtin.Tuple.tupleExact _) (wpAny_newObj_type (wpAny_pure ⟨_, rfl, wpAny_pure h⟩) hso)
    | exact wpAny_bind (m := Builtin.Tuple.tupleExact _) (wpAny_newObj_type (wpAny_bind (wpAny_pure (wpAny_pure ⟨_, rfl, wpAny_pure h⟩))) hso)
    | exact wpAny_bind (wpAny_bind (m := Builtin.Tuple.tupleExact _) (wpAny_newObj_type (wpAny_pure (wpAny_pure ⟨_, rfl, wpAny_pure h⟩)) hso))
    | exact wpAny_bind (wpAny_bind (m := Builtin.Tuple.tupleExact _) (wpAny_newObj_type (wpAny_pure ⟨_, rfl, wpAny_pure h⟩) hso))
end
def tRevT (K : PySem.W.Frag) (te : TE) : TE := fun σ H Q => te σ H fun x H1 => ∃ a xs, x = .ref a ∧ SqT K H1 a xs ∧ ∀ p, H1 p = none → Q (.ref p) (upd H1 p (.tup xs.reverse))
section
variable {X : Cx}
theorem pe_revT {e : Expr} {te : TE} {k : Nat} {p1 p2 p3 pos : Pos} (he : PE X e te) : PE X (.Subscript e (.Slice none none (some (.UnaryOp .USub (.Constant (.int 1) k p1) p2)) p3) pos) (tRevT X.K te) := by
  refine ⟨fun pins s σ H Q I h => ?_⟩
  refine Subscript_ (thn (he.run pins s σ H _ I h) fun v s1 ⟨x, H1, I1, r1, q1⟩ => ?_)
  obtain ⟨a, xs, ex, hx, q⟩ := q1
  subst ex
  cases r1
  have hst : PO X (some (.UnaryOp .USub (.Constant (.int 1) k p1) p2)) (tPart (tUn (rU fun i => .int (-i)) (tC (.int 1)))) := po_some (pe_un un_neg pe_int)
  refine wpAny_Slice (thn (po_none.run pins s1 σ H1 (fun o H2 => o = none ∧ H2 = H1) I1 ⟨rfl, rfl⟩) fun vl s2 ⟨l, H2, I2, pl, el, e2⟩ => ?_)
  subst el e2
  refine thn (po_none.run pins s2 σ H2 (fun o H3 => o = none ∧ H3 = H2) I2 ⟨rfl, rfl⟩) fun vu s3 ⟨u, H3, I3, pu, eu, e3⟩ => ?_
  subst eu e3
  refine thn (hst.run pins s3 σ H3 (fun o H4 => o = some (-1) ∧ H4 = H3) I3 ⟨1, rfl, -1, rfl, rfl, rfl⟩) fun vs s4 ⟨o, H4, I4, ps, eo, e4⟩ => ?_
  subst eo e4
  have I5 : Inv X pins σ H4 { s4 with heap := s4.heap.push { cls := .type "slice", data := .fields #[vl, vu, vs] } } := I4.kept (t' := s4.toks) fun b ob q => Heap.get?_push_of_some _ q
  obtain ⟨its, r, ht, hz⟩ := I5.tuple hx
  have hlen := r.length
  show wpAny (model X.prog X.w) X.A (subscriptTail e (.Slice none none (some (.UnaryOp .USub (.Constant (.int 1) k p1) p2)) p3) (.ref a) (.ref s4.heap.objs.size)) (EP X pins σ Q) X.xe { s4 with heap := s4.heap.push { cls := .type "slice", data := .fields #[vl, vu, vs] } }
  refine tail_any (ops := [.ref a, .ref s4.heap.objs.size]) ht.typeIs PyProof.Rows.slot_tuple_getitem.lookup ?_ (by with_unfolding_all rfl)
  refine getItem_tuple_rev ht (Heap.IsSliceOf.new _ vl vu vs) pl pu ps ?_ (by rw [List.size_toArray]; omega)
  refine ⟨.ref _, _, I5.laid (t' := s4.toks) (o := .tup xs.reverse) (fun b ob q => Heap.get?_push_of_some _ q) (Nat.le_refl _) ?_, rfl, q _ (I5.hok.fresh (Nat.le_refl _))⟩
  exact ⟨by rw [List.length_reverse]; exact hz, its.reverse, r.reverse, PyProof.Rows.IsTup.new _ _⟩
/-- a list's or a tuple's items from behind -/
def opRevT : D → Option P
  | .tup xs => some (.d (.tup xs.reverse))
  | _ => none
theorem pu_revT {K : PySem.W.Frag} : PU K (fun x H Q => ∃ a xs, x = .ref a ∧ SqT K H a xs ∧ ∀ p, H p = none → Q (.ref p) (upd H p (.tup xs.reverse))) opRevT := by
  intro N H x d Q lv hx q
  rcases d with _|_|i|i|xs|xs|_|_|xs <;> first | exact False.elim q | skip
  obtain ⟨a, vs, e1, t, dv⟩ := rd_tup hx
  exact ⟨a, vs, e1, t.sq, fun p hp => q _ _ (.new hp) (dv_tupG (DVs.rev dv) hp lv)⟩
theorem d_revT {W : WX} {e : Expr} {f : M R} {k : Nat} {p1 p2 p3 pos : Pos} (he : PE X e (tD X.K τ W f)) : PE X (.Subscript e (.Slice none none (some (.UnaryOp .USub (.Constant (.int 1) k p1) p2)) p3) pos) (tD X.K τ W (xUn opRevT f)) := d_un pu_revT (pe_revT he)
end
end DL

/-! ## DAg -/
set_option Elab.async false
set_option linter.all false
set_option maxRecDepth 100000
set_option maxHeartbeats 4000000
/-! DAg: xs[j] += e, xs a slot's list of ints. -/
namespace DL
open PySem L2 PySem.Spec
section
variable {X : Cx} {W : WX} {io : List Nat} {e : Expr} {f : M R} {pos : Pos}
/-- o[i] of a list, by values -/
theorem get_listV : PGet X (rIxL X.K) := by
  intro pins s σ H o i ov iv Q I ro ri h
  obtain ⟨p, xs, k, z, rfl, rfl, hq, he, q⟩ := h
  cases ro
  obtain ⟨t, rfl⟩ := ri
  obtain ⟨its, r, pl, hz⟩ := I.list hq
  obtain ⟨j, h1, h2, h3, h4, h5⟩ := atI_get he
  obtain ⟨w, ew, rw'⟩ := r.get h2
  have hl := r.length
  have hn := line63
  have fin : EP X pins σ Q w s := ⟨z, H, I, rw', q⟩
  by_cases h0 : 0 ≤ k
  · have hj : k.toNat = j := by
      rw [seqIndex_of h0 h5] at h1
      exact Option.some.inj h1
    exact PyProof.Rows.getItem_listL pl.isList h0 (by omega) (by rw [hj]; exact ew) fin
  · have hj : (k + (its.toArray.size : Int)).toNat = j := by
      rw [seqIndex_neg (by omega) h4] at h1
      rw [List.size_toArray, ← hl]
      exact Option.some.inj h1
    exact wpAny_getItem_list_neg pl.isList (by omega) (by rw [List.size_toArray] <;> omega) (by omega) (by rw [hj]; simpa using ew) fin
def sAugIx (i : Nat) (fi fe : M R) : MS := fun ρ => if isOwn i ρ then sb fi (fun j => fun ρ1 => match j, ρ1[i]? with
    | .imm (.int k), some (some (.own (.lst xs))) => match ixN xs.length k with
      | some jj => match xs[jj]? with
        | some (.int a) => sb fe (fun r => fun ρ2 => match r, ρ2[i]? with
          | .imm (.int b), some (some (.own (.lst ys))) => match ixN ys.length k with
            | some j2 => .next (ρ2.set i (some (.own (.lst (ys.set j2 (.int (a + b)))))))
            | none => .bad
          | _, _ => .bad) ρ1
        | _ => .bad
      | none => .bad
    | _, _ => .bad) ρ else .bad
theorem s_augIx (i : Nat) {o ix : Expr} {tpos : Pos} {fi : M R} (hv : PE X o (tVar i)) (hi : PE X ix (tD X.K τ W fi)) (he : PE X e (tD X.K τ W f))
    (ha : ∀ ov iv new, augStore ix ov iv new = (do holding [new, ov, iv] (setItem ov iv new); release [new, ov, iv] []; pure .next) := by intros; rfl) :
    PS X (.AugAssign (.Subscript o ix tpos) .Add e pos) (tS X.K τ W io (sAugIx i fi f)) :=
  PS.weak (ps_augS hv hi get_listV he ip_add set_list ha) fun D σ H ⟨Φ, ρ, sr, h⟩ => by
    unfold sAugIx at h
    split at h
    · rename_i ho
      obtain ⟨xs0, eo⟩ := isOwn_get ho
      obtain ⟨a, vs0, ea, q0, _⟩ := ownAt sr eo
      refine ⟨.ref a, ea, Φ, ρ, sr, DL.es h fun j ρ1 w H1 s1 sr1 rw1 hk => ?_⟩
      split at hk
      · rename_i k xs e3
        split at hk
        · rename_i jj ej
          split at hk
          · rename_i n en
            obtain ⟨a', vs, ea', q1, q2⟩ := ownAt sr1 e3
            rw [ea] at ea'
            cases ea'
            have rw1 : DV X.K H1 (Nn Φ σ ρ1) (.int k) w := rw1
            simp only [DV] at rw1
            obtain ⟨v, ev, dv⟩ := q2.getD' en
            simp only [DV] at dv
            refine ⟨a, vs, k, v, rfl, rw1, SqL.of q1, ?_, Φ, ρ1, sr1, DL.es (GoodS.shift hk s1.stp) fun r ρ2 y H2 s2 sr2 rv hk => ?_⟩
            · unfold atI
              rw [q2.length, ej]
              exact ev
            · split at hk
              · rename_i b ys e4
                split at hk
                · rename_i j2 ej2
                  obtain ⟨a', ws, ea', q3, q4⟩ := ownAt sr2 e4
                  rw [ea] at ea'
                  cases ea'
                  have rv : DV X.K H2 (Nn Φ σ ρ2) (.int b) y := rv
                  simp only [DV] at rv
                  obtain ⟨s4, sr4⟩ := own_upd sr2 e4 ea (q4.set j2 (dv_int (i := n + b)))
                  exact ⟨n, b, dv, rv, a, ws, k, j2, rfl, rw1, q3, by rw [q4.length]; exact ej2, hk σ _ (s2.trans s4).stp sr4⟩
                · exact hk.elim
              · exact hk.elim
          · exact hk.elim
        · exact hk.elim
      · exact hk.elim
    · exact h.elim
end
end DL

/-! ## DSc -/
set_option Elab.async false
set_option linter.all false
set_option maxRecDepth 100000
set_option maxHeartbeats 4000000
/-! DSc: len of a set comprehension whose elements are ints. -/
namespace DL
open PySem L2 PySem.Spec PpSet
/-- a rule in every block of a comprehension -/
abbrev InBlk (X : Cx) (scope : Scope) (Φ : Cx → Prop) : Prop := ∀ (s : Shared) (H : Hp) (C : Addr) (cl : List (Str × Addr)) (fp : List Addr), Φ (X.blk s H scope (compEnvC scope cl C X.env) fp)
abbrev set0 (w : World) : Obj := { cls := .type "set", dict := none, data := .set #[] 0 (.fresh 0 0 (!w.params.followText "set-order")) }
abbrev SetE (w : World) (D : Addr) : HO := SetO w D (fun _ => false) 0
abbrev SetP (w : World) (D : Addr) (S : Int → Bool) (n : Nat) (c : Int) : HO := SetO w D (fun j => S j || decide (j = c)) (if S c = true then n else n + 1)
/-- what a turn of the block asks -/
def scTurn (w : World) (D : Addr) (g : TG) (tt : TT) (te : TE) (vs : List Nat) (σ : L2.St) (Nx : Hp → Prop) (x : V) (H' : Hp) : Prop :=
  g x (wipe σ vs) H' fun σ2 H2 => wipe σ2 vs = wipe σ vs ∧ tt σ2 H2 fun b H3 =>
    if b = true then te σ2 H3 fun y H4 => ∃ (c : Int) (S : Int → Bool) (n : Nat), y = .int c ∧ H4 D = some (SetO w D S n) ∧ n + 1 < scanBound ∧ Nx (upd H4 D (SetP w D S n c)) else Nx H3
def tScI (w : World) (wi : TI) (g : TG) (tt : TT) (te : TE) (vs : List Nat) : TE := fun σ H Q => wi σ H fun J H1 => ∀ D, H1 D = none → ∃ W : Nat → Nat → Hp → Prop, (∃ m, W 0 m (upd H1 D (SetE w D))) ∧ ∀ i m H, W i m H →
  (J.stop i H ∧ Q (.ref D) H) ∨ (J.go i H ∧ ∃ Nx : Hp → Prop, (∀ H', Nx H' → ∃ m', m' < m ∧ W (i + 1) m' H') ∧ ∀ x H', J.yld i H x H' → scTurn w D g tt te vs σ Nx x H')
section
variable {X : Cx}
theorem pe_scI {elt tg iter : Expr} {ifs : List Expr} {scope : Scope} {own : List (Str × Nat)} {pos : Pos} {wi : TI} {g : TG} {tt : TT} {te : TE} (calm : X.calm = true) (nd : X.N.Nodup) (hi : PI X tg iter wi) (ok : BlkOk X.N X.env.scope scope own)
    (hg : InBlk X scope fun Y => PG Y tg g) (ht : InBlk X scope fun Y => PTs Y ifs tt) (he : InBlk X scope fun Y => PE Y elt te) (hs : ∀ x, foldedSetIterable iter X.env x = pure x := by intro _; rfl) :
    PE X (.SetComp elt [⟨tg, iter, ifs, 0⟩] scope pos) (tScI X.w wi g tt te (own.map (·.2))) := by
  refine ⟨fun pins s σ H Q I h => ?_⟩
  rw [eval_SetComp]
  have clo : ∀ y ∈ scope.names, y.2 = .free → ∃ c, X.env.cells.lookup y.1 = some c := fun y hy e => (ok.free y hy e).elim (fun k => I.ok.has _ (.inl k)) fun k => I.ok.has _ (.inr k)
  refine wpAny_comprehension_free (use := none) rfl hs (closure_ok clo) ok.kind (fun y hy e => by rw [ok.uniq y hy, e]) (thn (hi.run pins s σ H _ I h) fun _ _ hx => thn hx fun _ s2 h2 => ?_)
  obtain ⟨it, fp, tn, J, H2, rfl, I2, T, st2, f2, q⟩ := h2
  refine newSet_ok (newEnv_comp ?_)
  generalize hD : s2.heap.objs.size = D
  have nD : H2 D = none := I2.hok.fresh (Nat.le_of_eq hD)
  obtain ⟨W, ⟨m0, w0⟩, turn⟩ := q D nD
  -- the set, laid
  generalize hs3 : ({ s2 with heap := s2.heap.push (set0 X.w) } : Shared) = s3
  have h3 : s3.heap = s2.heap.push (set0 X.w) := by rw [← hs3]
  have I3 : Inv X pins σ (upd H2 D (SetE X.w D)) s3 := by
    subst hs3
    subst hD
    exact I2.laid (t' := s2.toks) (fun _ _ e => Heap.get?_push_of_some _ e) (Nat.le_refl _) (setO_new (setR_fresh X.w))
  have low : ∀ b ∈ fp, b < D := fun b hb => by
    obtain ⟨_, e, _⟩ := T.obj _ _ st2 b hb
    rw [← hD]
    exact Heap.lt_size e
  have f3 : ∀ b ∈ fp, FpOk X pins (upd H2 D (SetE X.w D)) b ∧ b < s3.heap.objs.size := fun b hb => by
    have lt := low b hb
    refine ⟨⟨?_, (f2 b hb).2⟩, ?_⟩
    · rw [upd_ne (Nat.ne_of_lt lt)]
      exact (f2 b hb).1
    · rw [h3, Heap.size_push, hD]
      exact Nat.lt_succ_of_lt lt
  have st3 : tn 0 s3.heap := T.keep _ _ _ st2 fun _ _ _ e => by rw [h3]; exact Heap.get?_push_of_some _ e
  have I4 := block_start I3 ok nd f3
  have pg := hg s3 (upd H2 D (SetE X.w D)) s3.heap.objs.size (cellsFrom (s3.heap.objs.size + 1) scope.names (cloFrom X.env.cells scope.names [])) fp
  have pt := ht s3 (upd H2 D (SetE X.w D)) s3.heap.objs.size (cellsFrom (s3.heap.objs.size + 1) scope.names (cloFrom X.env.cells scope.names [])) fp
  have pe := he s3 (upd H2 D (SetE X.w D)) s3.heap.objs.size (cellsFrom (s3.heap.objs.size + 1) scope.names (cloFrom X.env.cells scope.names [])) fp
  have fin : ∀ C s' m H', Inv X pins σ H' s' → Q (.ref D) H' → s'.heap.Ns C m → FpOk X pins H' C → compPost (model X.prog X.w) X.A X.xe none (EP X pins σ Q) (.ref D) C (.ok .next) s' := fun C s' m H' I' q hn ⟨f0, f1, _, f3, f4, f5⟩ =>
    ⟨m, hn, fun h'' sb => ⟨.ref D, H', I'.turned (t' := s'.toks) (fun b o hb e => (sb.2 b hb).trans e) f0 f1 f3 f4 f5, rfl, q⟩⟩
  show codeAny _ _ (.compStart (.SetComp elt [⟨tg, iter, ifs, 0⟩] scope pos) 0 (.ref it) (.ref D) (compEnvC scope (cellsFrom (s3.heap.objs.size + 1) scope.names (cloFrom X.env.cells scope.names [])) s3.heap.objs.size X.env)) (compPost (model X.prog X.w) X.A X.xe none (EP X pins σ Q) (.ref D) s3.heap.objs.size) { s3 with heap := pushCells (s3.heap.push { cls := .type "dict", data := .dict #[] }) scope.names }
  have nfp : ∀ b ∈ fp, (upd H2 D (SetE X.w D)) b = none := fun b hb => (f3 b hb).1.1
  generalize hce : compEnvC scope (cellsFrom (s3.heap.objs.size + 1) scope.names (cloFrom X.env.cells scope.names [])) s3.heap.objs.size X.env = ce at I4 pg pt pe ⊢
  have cL : ce.locals = s3.heap.objs.size := by subst hce; rfl
  generalize upd H2 D (SetE X.w D) = H3 at I3 I4 pg pt pe w0 nfp f3
  generalize hs4 : ({ s3 with heap := pushCells (s3.heap.push { cls := .type "dict", data := .dict #[] }) scope.names } : Shared) = s4 at I4 ⊢
  have st4 : tn 0 s4.heap := T.keep _ _ _ st3 fun _ _ _ e => by rw [← hs4]; exact pushCells_keeps _ _ _ _ (Heap.get?_push_of_some _ e)
  have stat : ∀ {σ' : L2.St} {H' : Hp} {s' : Shared}, Inv (X.blk s3 H3 scope ce fp) [] σ' H' s' → (∀ b ∈ fp, H' b = none) → ∀ b ∈ fp, FpOk (X.blk s3 H3 scope ce fp) [] H' b := fun I' hn b hb =>
    ⟨hn b hb, (I'.ok.exf b hb).1, I'.ok.exfs b hb, .inl hb, fun x c e => (I'.ok.exf b hb).2 x c e, fun p hp => absurd (show p ∈ ([] : List (Addr × Obj)) ++ [] from hp) (by simp)⟩
  have loop : codeAny (model X.prog X.w) X.A (.compLoop (.SetComp elt [⟨tg, iter, ifs, 0⟩] scope pos) 0 (.ref it) (.ref D) ce) (compPost (model X.prog X.w) X.A X.xe none (EP X pins σ Q) (.ref D) s3.heap.objs.size) s4 := by
    refine compLoopS_any (fun n s' => ∃ i H', Inv (X.blk s3 H3 scope ce fp) [] (wipe σ (own.map (·.2))) H' s' ∧ tn i s'.heap ∧ (∀ b ∈ fp, H' b = none) ∧ W i n H') ?_ m0 ⟨0, H3, I4, st4, nfp, w0⟩
    rintro n s5 ⟨i, H5, I5, st5, n5, w5⟩
    rcases turn i n H5 w5 with ⟨stop, qq⟩ | ⟨go, Nx, hNx, step⟩
    · refine thnF (T.done (X.blk s3 H3 scope ce fp) rfl rfl rfl calm i [] s5 _ H5 (fun _ _ => False) I5 (stat I5 n5) st5 stop) fun r s6 ⟨hr, I6⟩ => ?_
      subst hr
      have I7 : Inv X pins σ H5 s6 := I3.call' (ch := fp) I6.os I6.base I6.hok I6.bare fun b hb => ⟨(f3 b hb).1.2.2.2.1, (f3 b hb).1.2.1, (f3 b hb).1.2.2.2.2.1, (f3 b hb).1.2.2.2.2.2⟩
      have nC : H5 s3.heap.objs.size = none := by
        have z : H5 ce.locals = none := I6.free
        rwa [cL] at z
      obtain ⟨m, hn, _⟩ := I6.loc
      have hn : s6.heap.Ns ce.locals m := hn
      rw [cL] at hn
      exact fin s3.heap.objs.size s6 m H5 I7 qq hn (I3.fpOk (Nat.le_refl _) nC)
    · refine thnF (T.item (X.blk s3 H3 scope ce fp) rfl rfl rfl calm i [] s5 _ H5 (fun _ _ => False) I5 (stat I5 n5) st5 go) fun r s6 ⟨u, hr, h6⟩ => ?_
      subst hr
      refine thnF h6 fun _ s7 ⟨x, H7, I7, r7, y7, st7, n7⟩ => ?_
      refine thnF (pg.run _ s7 _ H7 x u _ (I7.pinned (stat I7 n7) (T.obj _ _ st7)) r7 (step x H7 y7)) fun _ s8 ⟨σ8, H8, I8, hw8, q8⟩ => ?_
      refine thnF (pt.run _ s8 σ8 H8 _ I8 q8) fun b s9 ⟨H9, I9, q9⟩ => ?_
      -- the turn's end
      have endT : ∀ {s' : Shared} {H' : Hp}, Inv (X.blk s3 H3 scope ce fp) ([] ++ pinsAt fp s7.heap) σ8 H' s' → Nx H' → ∃ m, m < n ∧ ∃ i H', Inv (X.blk s3 H3 scope ce fp) [] (wipe σ (own.map (·.2))) H' s' ∧ tn i s'.heap ∧ (∀ b ∈ fp, H' b = none) ∧ W i m H' := fun {s' H'} I' nx => by
        obtain ⟨m', hm, w'⟩ := hNx H' nx
        have held : ∀ b ∈ fp, ∀ o, s7.heap.get? b = some o → s'.heap.get? b = some o ∧ H' b = none := fun b hb o e =>
          have z := I'.pin (b, o) (List.mem_append_right _ (List.mem_append_right _ (mem_pinsAt hb e)))
          ⟨z.1, z.2.1⟩
        refine ⟨m', hm, i + 1, H', (I'.unpinned (pins := [])).weak (by rw [← hw8, wipe_length]) (fun j v e => ?_), T.keep _ _ _ st7 fun b hb o e => (held b hb o e).1, fun b hb => ?_, w'⟩
        · rw [← hw8] at e
          exact (wipe_some e).1
        · obtain ⟨o, e, _⟩ := T.obj _ _ st7 b hb
          exact (held b hb o e).2
      cases b with
      | false =>
        simp only [Bool.false_eq_true, if_false] at q9 ⊢
        exact endT I9 q9
      | true =>
        simp only [if_true] at q9 ⊢
        refine thnF (pe.run _ s9 σ8 H9 _ I9 q9) fun z s10 ⟨yv, H10, I10, r10, c, S, k, ey, hD10, room, nx⟩ => ?_
        subst ey
        have add := mt_sadd (X := X.blk s3 H3 scope ce fp) _ s10 σ8 H10 (.ref D) [.int c] (.ref D) [z] (fun _ H' => Nx H') I10 rfl (.cons r10 .nil) ⟨D, c, S, k, rfl, rfl, hD10, room, nx⟩
        exact thnF add fun _ s11 ⟨_, H11, I11, _, nx⟩ => endT I11 nx
  exact codeAny_compStart_set loop (T.self X.A 0 _ _ _ st4 loop)
/-- len of a set of ints -/
def rLenI (w : World) : List V → Hp → VK → Prop := fun xs H Q => ∃ (a : Addr) (S : Int → Bool) (n : Nat), xs = [.ref a] ∧ H a = some (SetO w a S n) ∧ Q (.int (n : Nat)) H
theorem call_lenI : CallR X (.builtin "len") (rLenI X.w) := by
  intro pins s σ H xs us Q I r h
  obtain ⟨a, S, n, rfl, e, q⟩ := h
  obtain ⟨u, rfl, rx⟩ := vals1 r
  obtain rfl : u = .ref a := rx
  obtain ⟨o, es, ep, t, ho, hx, hd, _, _, _, hb, hf, rfl, _⟩ := setO_get I e
  have hz : (es.size : Int) < 2 ^ 63 := by unfold scanBound at hb; omega
  exact call_len_set ho hx hd hf hz ⟨.int (es.size : Nat), H, I.tok _, ⟨_, rfl⟩, q⟩
end
end DL

/-! ## DSd -/
set_option Elab.async false
set_option linter.all false
set_option maxRecDepth 100000
set_option maxHeartbeats 4000000
/-! DSd: .. on data. -/
namespace DL
open PySem L2 PySem.Spec PpSet
def addI (acc : List Int) (c : Int) : List Int := if acc.contains c then acc else acc ++ [c]
def Tells (acc : List Int) (S : Int → Bool) (n : Nat) : Prop := n = acc.length ∧ ∀ j, S j = acc.contains j
theorem Tells.put {acc : List Int} {S : Int → Bool} {n : Nat} (h : Tells acc S n) (c : Int) : Tells (addI acc c) (fun j => S j || decide (j = c)) (if S c = true then n else n + 1) := by
  have m : ∀ j, (addI acc c).contains j = (acc.contains j || decide (j = c)) := fun j => by
    rw [Bool.eq_iff_iff, List.contains_iff_mem, Bool.or_eq_true, List.contains_iff_mem, decide_eq_true_iff]
    unfold addI
    split
    · rename_i hc
      exact ⟨.inl, fun z => z.elim id fun e => by rw [e]; exact List.contains_iff_mem.mp hc⟩
    · rw [List.mem_append, List.mem_singleton]
  refine ⟨?_, fun j => by rw [m, ← h.2]⟩
  rw [h.2, h.1]
  unfold addI
  split
  · rfl
  · rw [List.length_append]; rfl
def scGo (vs : List Nat) (asg : Asg) (t : M Bool) (f : M R) : List D → List Int → M (List Int)
  | [], acc => mr acc
  | x :: xs, acc => fun ρ => match asg x ρ with
    | none => .bad
    | some ρ1 => match t ρ1 with
      | .ok true ρ2 => match f ρ2 with
        | .ok r ρ3 => match toI r ρ3 with
          | .ok (.int c) ρ4 => if decide (acc.length + 1 ≤ 1000) then scGo vs asg t f xs (addI acc c) (wipeC ρ4 vs) else .bad
          | _ => .bad
        | _ => .bad
      | .ok false ρ2 => scGo vs asg t f xs acc (wipeC ρ2 vs)
      | _ => .bad
/-- len({f for asg in g if t}) -/
def xScN (vs : List Nat) (g : M (List D)) (asg : Asg) (t : M Bool) (f : M R) : M R := mb g fun xs => fun ρ => if vsOk ρ vs then match scGo vs asg t f xs [] (wipeC ρ vs) with
  | .ok acc ρ' => .ok (.imm (.int (acc.length : Nat))) (rsC ρ ρ' vs)
  | _ => .bad
  else .bad
abbrev toLen (w : World) (Q : VK) : VK := fun v H => rLenI w [v] H Q
theorem mb_set {w : World} {a : Addr} {S : Int → Bool} {n : Nat} : Mb (SetO w a S n) := ⟨fun _ z => (nomatch z), fun _ z => (nomatch z)⟩
theorem nt_set {w : World} {a : Addr} {S : Int → Bool} {n : Nat} : Nt (SetO w a S n) := fun _ z => nomatch z
theorem nc_set {w : World} {a : Addr} {S : Int → Bool} {n : Nat} : Nc a (SetO w a S n) := ⟨fun _ z => (nomatch z), fun q z => by
  have e : (fun h => SetR w h a S n) = fun h => ∃ (oc : Obj) (vs : Array Value) (t : Tok), h.get? a = some oc ∧ oc.data = .fields vs ∧ vs[1]? = some (.str q t) := HO.ext.inj z
  let ob : Obj := { cls := .none, data := .fields #[.none, .str q 0] }
  let hh : Heap := { objs := Array.replicate (a + 1) ob }
  have g : hh.get? a = some ob := by simp [hh, ob, Heap.get?]
  have c : SetR w hh a S n := (congrFun e hh).mpr ⟨ob, #[.none, .str q 0], 0, g, rfl, rfl⟩
  obtain ⟨o, _, _, _, g2, _, d, _⟩ := c
  rw [g] at g2
  cases g2
  cases d⟩
section
variable {K : PySem.W.Frag} {W : WX} {vs ts io : List Nat} {g : M (List D)} {asg : Asg} {t : M Bool} {f : M R}
theorem sc_w {w : World} (hv : ∀ j ∈ ts, j ∈ vs) {σ : L2.St} {H : Hp} {Q : VK} (q : tD K τ W (xScN vs g asg t f) σ H Q) : tScI w (tI K τ W g) (tG K τ io ts asg) (tT K τ W0 t) (tD K τ W0 f) vs σ H (toLen w Q) := by
  obtain ⟨Φ, ρ0, sr0, h⟩ := q
  refine ⟨Φ, ρ0, sr0, ?_⟩
  unfold xScN mb at h
  cases eg : g ρ0 with
  | bad => rw [eg] at h; exact h
  | er x ρ1 => rw [eg] at h; exact h
  | ok xs ρ =>
    rw [eg] at h
    dsimp only at h
    intro J H1 es0 sr wd L hL
    have h := GoodE.shift h es0
    split at h
    · rename_i vok
      -- where it ends
      generalize hO : scGo vs asg t f xs [] (wipeC ρ vs) = Z at h
      have srw : SR K τ (upd H1 L (SetE w L)) (fun x => Φ x ∨ x = L) (wipe σ vs) (wipeC ρ vs) := (sr.growX hL mb_set).wipe
      have bor0 : ∀ (i : Nat) (o : O), ρ[i]? = some (some (.bor o)) → σ[i]? ≠ some (some (V.ref L)) := fun i o e z => by
        obtain ⟨v, e1, a, ev, n, _⟩ := sr.cell i _ e
        rw [z] at e1
        cases e1
        cases ev
        exact sr.live L n hL
      refine ⟨fun i m H' => m = xs.length - i ∧ i ≤ xs.length ∧ ∃ ρ' acc S n, ES (wipe σ vs) (wipeC ρ vs) H1 ρ' H' ∧ SR K τ H' (fun x => Φ x ∨ x = L) (wipe σ vs) ρ' ∧ H' L = some (SetO w L S n) ∧ Tells acc S n ∧
          scGo vs asg t f (xs.drop i) acc ρ' = Z,
        ⟨xs.length, by simp, Nat.zero_le _, wipeC ρ vs, [], (fun _ => false), 0, ⟨fun b o e _ _ => by rw [upd_ne (ne_of_none e hL)]; exact e, fun a e => ?_, fun _ h => h, fun _ o h => ⟨o, h⟩⟩, srw, upd_same, ⟨rfl, fun _ => rfl⟩, by simpa using hO⟩, ?_⟩
      · unfold upd
        split
        · intro z; cases z
        · exact e
      rintro i m H' ⟨rfl, hle, ρ', acc, S, n, est, sr', hacc, dacc, hk⟩
      -- what is lent stays what it is
      have borN : ∀ (i : Nat) (o : O), ρ'[i]? = some (some (.bor o)) → (wipe σ vs)[i]? ≠ some (some (V.ref L)) := fun i o e z => by
        obtain ⟨u, e1⟩ := est.bor i o e
        exact bor0 i u (wipeC_some e1).1 (wipe_some z).1
      have ownN : ∀ a, Own (wipe σ vs) ρ' a → Own σ ρ a := fun a z => own_wipe (est.own a z)
      obtain ⟨go, stop, yld⟩ := wd H' (Nn (fun x => Φ x ∨ x = L) (wipe σ vs) ρ') (fun b o e n t => est.keep b o e (fun z => n (.inr (own_wipe z))) t)
        (fun a z => by
          rcases z with (z | z) | z
          · exact .inl (.inl z)
          · exact .inr (by rw [z]; exact hL)
          · exact .inl (.inr (ownN a z))) fun a z => sr'.nnLv z
      by_cases hlt : i < xs.length
      · refine .inr ⟨go i hlt, fun H2 => ∃ ρ2 acc2 S2 n2, ES (wipe σ vs) (wipeC ρ vs) H1 ρ2 H2 ∧ SR K τ H2 (fun x => Φ x ∨ x = L) (wipe σ vs) ρ2 ∧ H2 L = some (SetO w L S2 n2) ∧ Tells acc2 S2 n2 ∧
          scGo vs asg t f (xs.drop (i + 1)) acc2 ρ2 = Z, fun H2 q => ⟨xs.length - (i + 1), by omega, rfl, hlt, q⟩, fun v H2 y => ?_⟩
        obtain ⟨gr, d, ed, dv⟩ := yld i v H2 hlt y
        have ex : xs.drop i = d :: xs.drop (i + 1) := by
          obtain ⟨hl, hd⟩ := List.getElem?_eq_some_iff.mp ed
          rw [← hd]; exact List.drop_eq_getElem_cons hl
        rw [ex] at hk
        unfold scGo at hk
        have sr2 := gr.sr sr'
        refine ⟨_, ρ', d, sr2, dv, ?_⟩
        cases ea : asg d ρ' with
        | none => rw [ea] at hk; dsimp only at hk; rw [← hk] at h; exact h.elim
        | some ρ3 =>
          rw [ea] at hk
          dsimp only at hk
          intro σ3 st3 sr3 ⟨len3, out3⟩ cel3
          have weq : wipe σ3 vs = wipe σ vs := wipe_eq hv len3 out3
          refine ⟨weq, _, ρ3, sr3, ?_⟩
          have own3 : ∀ a, Own σ3 ρ3 a → Own (wipe σ vs) ρ' a := fun a ⟨j, o, e1, e2⟩ => by
            rcases cel3 j _ e1 with ⟨_, z⟩ | ⟨z, n⟩
            · cases z
            · exact ⟨j, o, z, by rw [← out3 j n]; exact e2⟩
          have bor3 : ∀ (j : Nat) (o : O), ρ3[j]? = some (some (.bor o)) → ρ'[j]? = some (some (.bor o)) ∧ σ3[j]? ≠ some (some (V.ref L)) := fun j o e => by
            rcases cel3 j _ e with ⟨_, z⟩ | ⟨z, n⟩
            · cases z
            · exact ⟨z, by rw [out3 j n]; exact borN j o z⟩
          -- the end of a turn
          have fin : ∀ {ρ5 : Env'} {H5 : Hp} {acc5 : List Int} {S5 : Int → Bool} {n5 : Nat}, ES σ3 ρ3 H2 ρ5 H5 → SR K τ H5 (fun x => Φ x ∨ x = L) σ3 ρ5 → H5 L = some (SetO w L S n) →
              Tells acc5 S5 n5 → scGo vs asg t f (xs.drop (i + 1)) acc5 (wipeC ρ5 vs) = Z →
              ∃ ρ2 acc2 S2 n2, ES (wipe σ vs) (wipeC ρ vs) H1 ρ2 (upd H5 L (SetO w L S5 n5)) ∧ SR K τ (upd H5 L (SetO w L S5 n5)) (fun x => Φ x ∨ x = L) (wipe σ vs) ρ2 ∧ (upd H5 L (SetO w L S5 n5)) L = some (SetO w L S2 n2) ∧ Tells acc2 S2 n2 ∧ scGo vs asg t f (xs.drop (i + 1)) acc2 ρ2 = Z :=
            fun {ρ5 H5 acc5 S5 n5} e5 sr5 l5 d5 k5 => by
              have b5 : ∀ (j : Nat) (o : O), ρ5[j]? = some (some (.bor o)) → σ3[j]? ≠ some (some (V.ref L)) := fun j o e => by
                obtain ⟨u, e'⟩ := e5.bor j o e
                exact (bor3 j u e').2
              have sr6 := (sr5.updX (o := SetO w L S5 n5) (.inr rfl) l5 nc_set b5 mb_set).wipe (vs := vs)
              rw [weq] at sr6
              have ow : ∀ a, Own (wipe σ vs) (wipeC ρ5 vs) a → Own σ3 ρ5 a := fun a z => by
                rw [← weq] at z
                exact own_wipe z
              refine ⟨wipeC ρ5 vs, acc5, S5, n5, ⟨fun b o e n t => ?_, fun a e => ?_, fun a z => est.own a (own3 a (e5.own a (ow a z))), fun j o e => ?_⟩, sr6, upd_same, d5, k5⟩
              · rw [upd_ne (ne_of_none e hL)]
                refine e5.keep b o (gr.es (σ := wipe σ vs) (ρ := ρ') |>.keep b o (est.keep b o e n t) (fun z => n (est.own b z)) t) (fun z => n (est.own b (own3 b z))) t
              · unfold upd
                split
                · intro z; cases z
                · exact e5.trk a (gr.es (σ := wipe σ vs) (ρ := ρ') |>.trk a (est.trk a e))
              · obtain ⟨e, _⟩ := wipeC_some e
                obtain ⟨u, e'⟩ := e5.bor j o e
                exact est.bor j u (bor3 j u e').1
          have hacc2 : H2 L = some (SetO w L S n) := gr.es (σ := wipe σ vs) (ρ := ρ') |>.keep L _ hacc (fun z => by
            obtain ⟨j, o, e1, e2⟩ := z
            obtain ⟨v, e3, a, ev, n, _⟩ := sr'.cell j _ e1
            rw [e2] at e3
            cases e3
            cases ev
            exact n (.inr rfl)) nt_set
          have keepL : ∀ {ρ5 H5 H6}, SR K τ H5 (fun x => Φ x ∨ x = L) σ3 ρ5 → ES σ3 ρ5 H5 ρ3 H6 ∨ True → ¬ Own σ3 ρ5 L := fun {ρ5 H5 H6} s5 _ z => by
            obtain ⟨j, o, e1, e2⟩ := z
            obtain ⟨v, e3, a, ev, n, _⟩ := s5.cell j _ e1
            rw [e2] at e3
            cases e3
            cases ev
            exact n (.inr rfl)
          cases et : t ρ3 with
          | bad => rw [et] at hk; dsimp only at hk; rw [← hk] at h; exact h.elim
          | er x ρ4 => rw [et] at hk; dsimp only at hk; rw [← hk] at h; exact h.elim
          | ok b ρ4 =>
            rw [et] at hk
            intro H4 s4 sr4
            have hacc4 : H4 L = some (SetO w L S n) := s4.keep L _ hacc2 (keepL (H6 := H4) sr3 (.inr trivial)) nt_set
            cases b with
            | false =>
              dsimp only at hk
              refine (if_neg Bool.false_ne_true).mpr ?_
              have e := fin s4 sr4 hacc4 dacc hk
              have hu : upd H4 L (SetO w L S n) = H4 := by
                funext a
                by_cases z : a = L
                · rw [z, upd_same, hacc4]
                · rw [upd_ne z]
              rw [hu] at e
              exact e
            | true =>
              dsimp only at hk
              refine (if_pos rfl).mpr ⟨_, ρ4, sr4, ?_⟩
              cases ef : f ρ4 with
              | bad => rw [ef] at hk; dsimp only at hk; rw [← hk] at h; exact h.elim
              | er x ρ5 => rw [ef] at hk; dsimp only at hk; rw [← hk] at h; exact h.elim
              | ok r ρ5 =>
                rw [ef] at hk
                dsimp only at hk
                intro y H5 s5 sr5 rv
                cases eti : toI r ρ5 with
                | bad => rw [eti] at hk; dsimp only at hk; rw [← hk] at h; exact h.elim
                | er x ρ6 => exact absurd eti toI_ner
                | ok dd ρ6 =>
                  rw [eti] at hk
                  obtain ⟨s6, sr6, dv6⟩ := toI_ok rv.w sr5 eti
                  have s46 := s4.trans (s5.trans s6)
                  have hacc5 : H5 L = some (SetO w L S n) := s5.keep L _ hacc4 (keepL (H6 := H4) sr4 (.inr trivial)) nt_set
                  cases dd with
                  | int c =>
                    simp only [DV] at dv6
                    try dsimp only at hk
                    split at hk
                    · rename_i hz
                      have hz := of_decide_eq_true hz
                      refine ⟨c, S, n, dv6, hacc5, by rw [dacc.1]; unfold scanBound; omega, ?_⟩
                      exact fin s46 sr6 hacc5 (dacc.put c) hk
                    · rw [← hk] at h; exact h.elim
                  | _ => first | (dsimp only at hk; rw [← hk] at h; exact h.elim) | (rw [← hk] at h; exact h.elim)
      · have e : i = xs.length := by omega
        subst e
        rw [List.drop_length] at hk
        have hk : Z = .ok acc ρ' := hk.symm
        rw [hk] at h
        refine .inl ⟨stop, ?_⟩
        have ownR : ∀ a, Own σ (rsC ρ ρ' vs) a → Own (wipe σ vs) ρ' a := fun a ⟨j, o, e1, e2⟩ => by
          by_cases hj : j ∈ vs
          · obtain ⟨d, z⟩ := vsOk_imm vok hj (rsC_in hj e1)
            cases z
          · rw [rsC_out hj] at e1
            exact ⟨j, o, e1, by rw [wipe_out hj]; exact e2⟩
        have esR : ES σ ρ H1 (rsC ρ ρ' vs) H' := ⟨fun b o e n t => est.keep b o e (fun z => n (own_wipe z)) t, est.trk, fun a z => ownN a (ownR a z), fun j o e => by
          by_cases hj : j ∈ vs
          · exact ⟨o, rsC_in hj e⟩
          · rw [rsC_out hj] at e
            obtain ⟨u, e'⟩ := est.bor j o e
            exact ⟨u, (wipeC_some e').1⟩⟩
        have srx : SR K τ H' (fun x => Φ x ∨ x = L) σ (rsC ρ ρ' vs) := by
          refine ⟨by rw [rsC_length, sr'.len, wipe_length], fun j c e => ?_, fun j k o u a e1 e2 e3 e4 => ?_, sr'.lv, sr'.tab⟩
          · by_cases hj : j ∈ vs
            · obtain ⟨d, rfl⟩ := vsOk_imm vok hj (rsC_in hj e)
              obtain ⟨v, e1, dv⟩ := sr.cell j _ (rsC_in hj e)
              refine ⟨v, e1, DV.keep (N := Nn Φ σ ρ) (esR.stp (io := [])).keepN (fun a z => ?_) d v dv⟩
              · rcases z with (z | z) | z
                · exact .inl (.inl z)
                · exact .inr (by rw [z]; exact hL)
                · exact .inl (.inr (esR.own a z))
            · rw [rsC_out hj] at e
              obtain ⟨v, e1, q⟩ := sr'.fewer (N' := Nn (fun x => Φ x ∨ x = L) σ (rsC ρ ρ' vs)) (fun a z => z.imp id (ownR a)) e
              exact ⟨v, by rw [← wipe_out hj]; exact e1, q⟩
          · have up : ∀ {j : Nat} {o : O}, (rsC ρ ρ' vs)[j]? = some (some (.own o)) → j ∉ vs ∧ ρ'[j]? = some (some (.own o)) := fun {j o} e => by
              by_cases hj : j ∈ vs
              · obtain ⟨d, z⟩ := vsOk_imm vok hj (rsC_in hj e)
                cases z
              · exact ⟨hj, by rw [rsC_out hj] at e; exact e⟩
            obtain ⟨n1, q1⟩ := up e1
            obtain ⟨n2, q2⟩ := up e2
            exact sr'.inj j k o u a q1 q2 (by rw [wipe_out n1]; exact e3) (by rw [wipe_out n2]; exact e4)
        have srr : SR K τ H' Φ σ (rsC ρ ρ' vs) := srx.drop fun j o e => by
          obtain ⟨u, e'⟩ := esR.bor j o e
          exact bor0 j u e'
        refine ⟨L, S, n, rfl, hacc, ?_⟩
        have z : DV K H' (Nn Φ σ (rsC ρ ρ' vs)) (.int ((acc.length : Nat) : Int)) (.int ((n : Nat) : Int)) := by
          rw [dacc.1]
          exact dv_int
        exact h _ H' esR srr z
    · exact h.elim
end
section
variable {X : Cx} {W : WX} {elt tg iter : Expr} {ifs : List Expr} {scope : Scope} {own : List (Str × Nat)} {pos p cp : Pos} {ts io : List Nat} {g : M (List D)} {asg : Asg} {t : M Bool} {f : M R}
theorem b_lenSc (hgl : Gl X "len") (hml : X.mg "len" = none) (hc : X.calm = true) (hN : X.N.Nodup) (hi : PI X tg iter (tI X.K τ W g)) (ok : blkC X.N X.env.scope scope own = true)
    (hg : InBlk X scope fun Y => PG Y tg (tG X.K τ io ts asg)) (ht : InBlk X scope fun Y => PTs Y ifs (tT X.K τ W0 t)) (he : InBlk X scope fun Y => PE Y elt (tD X.K τ W0 f)) (hv : ∀ j ∈ ts, j ∈ own.map (·.2))
    (hs : ∀ x, foldedSetIterable iter X.env x = pure x := by intro _; rfl)
    (h1 : starEach [.SetComp elt [⟨tg, iter, ifs, 0⟩] scope pos] X.env = (false, eval (.SetComp elt [⟨tg, iter, ifs, 0⟩] scope pos) X.env) :: starEach [] X.env := by rfl) (h2 : (backTo cp (starEach [] X.env)).any (·.1) = false := by rfl) :
    PE X (.Call (.Name "len" p) [.SetComp elt [⟨tg, iter, ifs, 0⟩] scope pos] [] cp) (tD X.K τ W (xScN (own.map (·.2)) g asg t f)) :=
  PE.weak (pe_callB call_lenI hgl hml (by decide +kernel) (pa_cons (pe_scI hc hN hi (blkOk_by ok) hg ht he hs) pa_nil h1) (by decide) (by decide) h1 h2) fun σ H Q q => by
    exact sc_w (io := io) (w := X.w) hv q
end
end DL

/-! ## DCv -/
set_option Elab.async false
set_option linter.all false
set_option maxRecDepth 100000
set_option maxHeartbeats 4000000
/-! DCv: C.f, C an own class, f an int of its body. -/
namespace DL
open PySem L2 PySem.Spec ClX
structure CvF (K : PySem.W.Frag) (mg : Str → Option Value) (c f : Str) (n : Int) : Prop where
  g : mg c = some (.ref (He.ga K c))
  r : CRead K (He.ga K c) (.type "type")
  v : ∃ t, PySem.W.findCls K (.ref (He.ga K c)) (.type "type") f = some (.val (.int n t))
def cvIs (n : Int) : Option PySem.W.CFound → Bool
  | some (.val (.int i _)) => decide (i = n)
  | _ => false
def cvB (K : PySem.W.Frag) (c f : Str) (n : Int) : Bool := PySem.W.readsIn K (He.ga K c) (.type "type") && (He.eqO (PySem.W.specialIn K (.ref (He.ga K c)) "__getattribute__") (some (some (.builtin "type.__getattribute__"))) && cvIs n (PySem.W.findCls K (.ref (He.ga K c)) (.type "type") f))
theorem cvB_ok {K : PySem.W.Frag} {mg : Str → Option Value} {c f : Str} {n : Int} (h : cvB K c f n = true) (g : mg c = some (.ref (He.ga K c))) : CvF K mg c f n := by
  simp only [cvB, Bool.and_eq_true] at h
  obtain ⟨a, b, e⟩ := h
  refine ⟨g, ⟨a, He.eqO_ok b⟩, ?_⟩
  unfold cvIs at e
  split at e
  · rename_i i t e1
    exact ⟨t, by rw [e1, of_decide_eq_true e]⟩
  · cases e
theorem d_cv {X : Cx} {W : WX} {c f : Str} {n : Int} {p pos : Pos} (F : CvF X.K X.mg c f n) (hg : Gl X c) (hdb : (c == ("__debug__" : Str)) = false := by decide)
    (hb : attributeBase (.Name c p) f X.env (eval (.Name c p) X.env) = eval (.Name c p) X.env := by rfl) : PE X (.Attribute (.Name c p) f pos) (tD X.K τ W (xC (.int n))) := by
  obtain ⟨t, e⟩ := F.v
  exact d_c (v := .int n) (PE.weak (pe_cval (pe_glob (v := .ref (He.ga X.K c)) hg F.g rfl hdb) hb) fun σ H Q q => ⟨_, _, .int n, .int n t, rfl, F.r, ⟨e, ⟨t, rfl⟩⟩, q⟩) fun _ _ => dv_int
end DL

/-! ## DPo -/
set_option Elab.async false
set_option linter.all false
set_option maxRecDepth 100000
set_option maxHeartbeats 4000000
/-! DPo: a, b = e, [] with b a list that will change. -/
namespace DL
open PySem L2 PySem.Spec
section
variable {X : Cx} {W : WX} {io : List Nat} {f : M R} {pos : Pos}
def sParL (i j : Nat) (f : M R) : MS := sb f fun r => fun ρ => match toI r ρ with
  | .ok d ρ1 => .next ((ρ1.set i (some (.imm d))).set j (some (.own (.lst []))))
  | _ => .bad
theorem s_parL (i j : Nat) {x y : Str} {a : Expr} {px py pt pl : Pos} {kt k2 pt2} (hi : i ∉ io) (hj : j ∉ io) (hc : X.calm = true) (hN : X.N.Nodup) (hxi : X.N[i]? = some x) (hyj : X.N[j]? = some y) (hij : i ≠ j)
    (hx : X.env.scope.names.lookup x = some .local) (hy : X.env.scope.names.lookup y = some .local) (he : PE X a (tD X.K τ W f))
    (hw : swappedStores [.Tuple [.Name x px, .Name y py] kt pt] (.Tuple [a, .List [] pl] k2 pt2) X.env = pure (some [x, y]))
    (hs : swapsWithSole [.Tuple [.Name x px, .Name y py] kt pt] (.Tuple [a, .List [] pl] k2 pt2) pos.line X.env = pure false := by rfl)
    (h1 : starEach [a, .List [] pl] X.env = (false, eval a X.env) :: starEach [.List [] pl] X.env := by rfl) :
    PS X (.Assign [.Tuple [.Name x px, .Name y py] kt pt] (.Tuple [a, .List [] pl] k2 pt2) pos) (tS X.K τ W io (sParL i j f)) :=
  PS.weak (ps_par hc hN hxi hyj hij hx hy (pa_cons he (pa_cons (pe_lst pa_nil) pa_nil) h1) hw hs) fun D σ H ⟨Φ, ρ, sr, h⟩ => by
    refine ⟨Φ, ρ, sr, es h fun r ρ1 v H1 s1 sr1 rv hk => ?_⟩
    cases et : toI r ρ1 with
    | er x ρ2 => exact absurd et toI_ner
    | bad => rw [et] at hk; exact hk.elim
    | ok d ρ2 =>
      rw [et] at hk
      obtain ⟨s2, sr2, dv⟩ := toI_ok rv.w sr1 et
      obtain ⟨s3, sr3⟩ := put_imm hi sr2 dv
      refine ⟨Nat.zero_le _, fun p hp => ⟨v, .ref p, rfl, ?_⟩⟩
      obtain ⟨s4, sr4⟩ := put_own hj (sr3.grow hp) (newP sr3 hp DVs.nil) (ES.grow hp)
      exact hk _ _ ((s1.trans s2).stp.trans (s3.trans s4)) sr4
/-- .. by way of the tuple (a name may be read by inner blocks) -/
theorem s_parLg (i j : Nat) {x y : Str} {a : Expr} {px py pt pl : Pos} {kt k2 pt2} (hi : i ∉ io) (hj : j ∉ io) (hc : X.calm = true) (hN : X.N.Nodup) (hxi : X.N[i]? = some x) (hyj : X.N[j]? = some y)
    (lx : Loc X.env.scope x) (ly : Loc X.env.scope y) (he : PE X a (tD X.K τ W f))
    (hs : swapsWithSole [.Tuple [.Name x px, .Name y py] kt pt] (.Tuple [a, .List [] pl] k2 pt2) pos.line X.env = pure false := by rfl)
    (hw : swappedStores [.Tuple [.Name x px, .Name y py] kt pt] (.Tuple [a, .List [] pl] k2 pt2) X.env = pure none := by rfl)
    (h1 : starEach [a, .List [] pl] X.env = (false, eval a X.env) :: starEach [.List [] pl] X.env := by rfl)
    (fx : X.fn x = true ∨ X.env.scope.names.lookup x = some .local := by first | exact .inl rfl | exact .inr rfl | assumption) (fy : X.fn y = true ∨ X.env.scope.names.lookup y = some .local := by first | exact .inl rfl | exact .inr rfl | assumption)
    (h2 : (assignEach [.Tuple [.Name x px, .Name y py] kt pt] X.env).map (·.2) = [assign (.Tuple [.Name x px, .Name y py] kt pt) X.env] := by rfl) :
    PS X (.Assign [.Tuple [.Name x px, .Name y py] kt pt] (.Tuple [a, .List [] pl] k2 pt2) pos) (tS X.K τ W io (sParL i j f)) :=
  PS.weak (ps_asg (pe_tup (pa_cons he (pa_cons (pe_lst pa_nil) pa_nil) h1)) (pg_tup hc (pgs_cons (pg_name hN hxi lx fx) (pgs_cons (pg_name hN hyj ly fy) pgs_nil))) hs hw h2) fun D σ H ⟨Φ, ρ, sr, h⟩ => by
    refine ⟨Φ, ρ, sr, es h fun r ρ1 v H1 s1 sr1 rv hk => ?_⟩
    cases et : toI r ρ1 with
    | er x ρ2 => exact absurd et toI_ner
    | bad => rw [et] at hk; exact hk.elim
    | ok d ρ2 =>
      rw [et] at hk
      obtain ⟨s2, sr2, dv⟩ := toI_ok rv.w sr1 et
      obtain ⟨s3, sr3⟩ := put_imm hi sr2 dv
      refine ⟨Nat.zero_le _, fun p hp => ⟨by show 2 ≤ sizeLine; decide, fun q hq => ⟨q, [v, .ref p], rfl, SqT.of upd_same, rfl, v, [.ref p], rfl, .ref p, [], rfl, rfl, ?_⟩⟩⟩
      have ne : p ≠ q := fun z => by rw [z, upd_same] at hq; cases hq
      have up : RVp X.K τ H1 (upd (upd H1 p (.lst [])) q (.tup [v, .ref p])) Φ (σ.set i (some v)) (ρ2.set i (some (.imm d))) (.new (.lst [])) (.ref p) :=
        ⟨p, rfl, hp, fun z => sr3.nnLive z hp, (sr3.growX hp).grow hq, [], by rw [upd_ne ne, upd_same], DVs.nil⟩
      obtain ⟨s4, sr4⟩ := put_own hj ((sr3.grow hp).grow hq) up ((ES.grow hp).trans (ES.grow hq))
      exact hk _ _ ((s1.trans s2).stp.trans (s3.trans s4)) sr4
end
end DL

/-! ## DEx -/
set_option Elab.async false
set_option linter.all false
set_option maxRecDepth 100000
set_option maxHeartbeats 4000000
/-! DEx: xs.extend(list). -/
namespace DL
open PySem L2 PySem.Spec
section
variable {X : Cx} {W : WX} {io : List Nat} {e : Expr} {f : M R} {pos : Pos}
def sExt (i : Nat) (f : M R) : MS := fun ρ => if isOwn i ρ then sb f (fun r => fun ρ => match toI r ρ with
  | .ok (.lst ds) ρ' => match ρ'[i]? with
    | some (some (.own (.lst xs))) => if szB (xs.length + ds.length) then .next (ρ'.set i (some (.own (.lst (xs ++ ds))))) else .bad
    | _ => .bad
  | _ => .bad) ρ else .bad
theorem s_ext (i : Nat) {o : Expr} {apos cpos : Pos} (hv : PE X o (tVar i)) (he : PE X e (tD X.K τ W f)) (hbase : attributeBase o "extend" X.env (eval o X.env) = eval o X.env := by rfl)
    (hfew : ((backTo cpos (starEach [e] X.env)).all (fun x => !x.1) && (backToKw cpos (keywordEach [] X.env)).all (fun x => x.1.isSome)
      && decide ([e].length + ([] : List Keyword).length + (if ([] : List Keyword).isEmpty then 0 else 1) < 30)) = true := by rfl)
    (hline : (apos.endLine == cpos.line) = true := by rfl) (hs : starEach [e] X.env = (false, eval e X.env) :: starEach [] X.env := by rfl) (hplain : (backTo cpos (starEach [] X.env)).any (·.1) = false := by rfl)
    (hsw : swapsWith (.Call (.Attribute o "extend" apos) [e] [] cpos) none pos.line X.env = pure false := by rfl) :
    PS X (.Expr (.Call (.Attribute o "extend" apos) [e] [] cpos) pos) (tS X.K τ W io (sExt i f)) :=
  PS.weak (ps_expr (pe_bm PySem.F.plainAttrs_list PySem.F.slot_list_extend PySem.F.type_list_extend mt_extend hv (pa_cons he pa_nil hs) hbase hfew hline hs hplain) hsw) fun D σ H ⟨Φ, ρ, sr, h⟩ => by
    unfold sExt at h
    split at h
    · rename_i ho
      obtain ⟨xs0, eo⟩ := isOwn_get ho
      obtain ⟨a, vs0, ea, q0, _⟩ := ownAt sr eo
      refine ⟨.ref a, ea, .inl ⟨rfl, vs0, SqL.of q0⟩, Φ, ρ, sr, DL.es h fun r ρ1 v H1 s1 sr1 rv hk => ?_⟩
      cases et : toI r ρ1 with
      | er x ρ2 => exact absurd et toI_ner
      | bad => rw [et] at hk; exact hk.elim
      | ok d ρ2 =>
        rw [et] at hk
        obtain ⟨s2, sr2, dv⟩ := toI_ok rv.w sr1 et
        cases d with
        | lst ds =>
          dsimp only at hk
          split at hk
          · rename_i xs e3
            split at hk
            · rename_i hz
              obtain ⟨a', vs, ea', q1, q2⟩ := ownAt sr2 e3
              rw [ea] at ea'
              cases ea'
              obtain ⟨b, ws, eb, t, dw⟩ := rd_lst dv.rd
              have hz := szB_ok hz
              obtain ⟨s3, sr3⟩ := own_upd sr2 e3 ea (q2.append dw)
              exact ⟨a, b, vs, ws, rfl, by rw [eb], q1, t, by rw [q2.length, dw.length]; exact hz, hk σ _ ((s1.trans (s2.trans s3)).stp) sr3⟩
            · exact hk.elim
          · exact hk.elim
        | _ => exact hk.elim
    · exact h.elim
end
end DL

/-! ## DSt -/
set_option Elab.async false
set_option linter.all false
set_option maxRecDepth 100000
set_option maxHeartbeats 4000000
/-! DSt: f(a, .., *xs). -/
namespace DL
open PySem L2 PySem.Spec StX
def itemsR : D → Option (List R)
  | .tup xs => some (xs.map R.imm)
  | .lst xs => some (xs.map R.imm)
  | _ => none
/-- *f ahead of the other arguments -/
def aStar (f : M R) (ga : M (List R)) : M (List R) := mb f fun r => mb (toI r) fun d => mb (mo (itemsR d)) fun is => mb ga fun rs => mr (is ++ rs)
/-- a call whose arguments are as many as there come -/
def xFnS (F : List Cell → FO) (ga : M (List R)) : M R := fun ρ => match ga ρ with
  | .ok rs ρ1 => xFn (List.replicate rs.length .d) F ga ρ
  | _ => xFn [] F ga ρ
theorem rvs_imm {K : PySem.W.Frag} {H0 H : Hp} {Φ : Addr → Prop} {σ : L2.St} {ρ : Env'} : ∀ {xs : List D} {vs : List V}, DVs K H (Nn Φ σ ρ) xs vs → RVs K H0 H Φ σ ρ (xs.map R.imm) vs
  | [], vs, h => by simp only [DVs] at h; exact h
  | x :: xs, vs, h => by
    simp only [DVs] at h
    obtain ⟨v, r, e, h1, h2⟩ := h
    exact ⟨v, r, e, h1, rvs_imm h2⟩
theorem rvs_app {K : PySem.W.Frag} {H0 H : Hp} {Φ : Addr → Prop} {σ : L2.St} {ρ : Env'} : ∀ {rs ss : List R} {vs ws : List V}, RVs K H0 H Φ σ ρ rs vs → RVs K H0 H Φ σ ρ ss ws → RVs K H0 H Φ σ ρ (rs ++ ss) (vs ++ ws)
  | [], ss, vs, ws, h, g => by
    have h : vs = [] := h
    rw [h]
    exact g
  | r :: rs, ss, vs, ws, ⟨v, us, e, h, t⟩, g => ⟨v, us ++ ws, by rw [e]; rfl, h, rvs_app t g⟩
section
variable {X : Cx} {W : WX} {e : Expr} {es : List Expr} {f : M R} {ga : M (List R)} {F : List Cell → FO} {x : Str} {p pos : Pos} {k : Nat} {fa : Addr}
theorem d_astar (he : PE X e (tD X.K τ W f)) (hr : PA X es (tA X.K τ W ga)) (hs : starEach (.Starred e p :: es) X.env = (true, eval e X.env) :: starEach es X.env := by rfl) : PA X (.Starred e p :: es) (tA X.K τ W (aStar f ga)) :=
  PA.weak (pa_star he hr hs) fun σ H Q ⟨Φ, ρ, sr, q⟩ => ⟨Φ, ρ, sr, by
    unfold aStar at q
    unfold mb at q
    cases ef : f ρ with
    | er c ρ1 => rw [ef] at q; exact q
    | bad => rw [ef] at q; exact q
    | ok r ρ1 =>
      rw [ef] at q
      dsimp only at q
      intro v H1 s1 sr1 rv
      cases et : toI r ρ1 with
      | er c ρ2 => exact absurd et toI_ner
      | bad => rw [et] at q; exact q.elim
      | ok d ρ2 =>
        rw [et] at q
        dsimp only at q
        obtain ⟨s2, sr2, dv⟩ := toI_ok rv.w sr1 et
        have s12 := s1.trans s2
        have go : ∀ (xs : List D) (a : Addr) (vs : List V), itemsR d = some (xs.map R.imm) → v = .ref a → (SqT X.K H1 a vs ∨ SqL X.K H1 a vs) → DVs X.K H1 (Nn Φ σ ρ2) xs vs →
            ∃ p xs, v = V.ref p ∧ (SqT X.K H1 p xs ∨ SqL X.K H1 p xs) ∧ tA X.K τ W ga σ H1 fun ys H2 => Q (xs ++ ys) H2 := fun xs a vs ei ev sq dvs => by
          refine ⟨a, vs, ev, sq, Φ, ρ2, sr2, ?_⟩
          rw [ei] at q
          dsimp only [mo, mr] at q
          cases eg : ga ρ2 with
          | er c ρ3 => rw [eg] at q; exact fun c d H' s' sr' xv => q c d H' (s12.trans s') sr' xv
          | bad => rw [eg] at q; exact q.elim
          | ok rs ρ3 =>
            rw [eg] at q
            intro ws H2 s3 sr3 rvs
            exact q (vs ++ ws) H2 (s12.trans s3) sr3 (rvs_app (RVs.step (rvs_imm dvs) s3) (RVs.back rvs fun a z => s12.free z))
        cases d with
        | tup xs =>
          obtain ⟨a, vs, ea, t, dvs⟩ := rd_tup dv.rd
          exact go xs a vs rfl ea (.inl t.sq) dvs
        | lst xs =>
          obtain ⟨a, vs, ea, t, dvs⟩ := rd_lst dv.rd
          exact go xs a vs rfl ea (.inr (SqL.of t)) dvs
        | _ => exact q.elim⟩
theorem fnS_l {K : PySem.W.Frag} {σ : L2.St} {H : Hp} {Q : VK} (h : tD K τ W (xFnS F ga) σ H Q) : ∃ l, tD K τ W (xFn (List.replicate l .d) F ga) σ H Q := by
  obtain ⟨Φ, ρ, sr, h⟩ := h
  unfold xFnS at h
  split at h
  · exact ⟨_, Φ, ρ, sr, h⟩
  · exact ⟨0, Φ, ρ, sr, h⟩
theorem d_fnS (tk : Takes X W) (G : ∀ l, FnG X.prog X.w X.K X.mg X.base k fa (spD X.K τ (List.replicate l .d) F)) (hr : Room k X.A) (hgd : X.A.guards = some []) (hg : Gl X x) (hm : X.mg x = some (.ref fa)) (hk : PySem.W.keepIn X.K (.ref fa) = true)
    (ha : PA X (e :: es) (tA X.K τ W ga)) (hdb : (x == ("__debug__" : Str)) = false := by decide) (he : starEach (e :: es) X.env = (false, eval e X.env) :: starEach es X.env := by rfl) (hst : (backTo pos (starEach es X.env)).any (·.1) = true := by rfl) :
    PE X (.Call (.Name x p) (e :: es) [] pos) (tD X.K τ W (xFnS F ga)) := by
  refine ⟨fun pins s σ H Q I h => ?_⟩
  obtain ⟨l, h⟩ := fnS_l h
  refine wpAny_Call_Name_kw (ld_glob I hg hm ?_ hdb)
  refine PySem.W.callWith_S2 (h₀ := X.base) I.ok.mod.kin hk (thn (ha.run pos pins s σ H _ I (fn_w h)) fun us s1 ⟨vs, H1, I1, r, q⟩ => ⟨I1.kIn, ?_⟩) he hst
  exact run_fnG (G l) hr hgd (fun e' s' c => tk e' s' (XE.of_call I1 (fun cls d H' z => z) c)) I1 r q
end
end DL

/-! ## DLi -/
set_option Elab.async false
set_option linter.all false
set_option maxRecDepth 100000
set_option maxHeartbeats 4000000
/-! DL2g: comprehensions with two for parts. -/
namespace DL
open PySem L2 PySem.Spec
section
variable {K : PySem.W.Frag} {W : WX} {vs ts io : List Nat} {g : M (List D)} {asg : Asg} {t : M Bool} {f : M R}
/-- the inner loop: items to a list that is there -/
theorem lc_in {J : It} {L : Addr} {Hb : Hp} {ys acc0 accZ : List D} {accV0 : List V} {ρ ρZ : Env'} {σ : L2.St} {Φ : Addr → Prop} {End : Hp → Prop} (hv : ∀ j ∈ ts, j ∈ vs) (hL : Hb L = none)
    (sr : SR K τ (upd Hb L (.lst accV0)) (fun x => Φ x ∨ x = L) (wipe σ vs) (wipeC ρ vs)) (bor0 : ∀ (i : Nat) (o : O), ρ[i]? = some (some (.bor o)) → σ[i]? ≠ some (some (V.ref L)))
    (d0 : DVs K (upd Hb L (.lst accV0)) (Nn (fun x => Φ x ∨ x = L) (wipe σ vs) (wipeC ρ vs)) acc0 accV0) (wd : WalkD K (Nn (fun x => Φ x ∨ x = L) σ ρ) (upd Hb L (.lst accV0)) J ys) (hZ : lcGo vs asg t f ys acc0 (wipeC ρ vs) = .ok accZ ρZ)
    (hfin : ∀ H' accV', ES (wipe σ vs) (wipeC ρ vs) Hb ρZ H' → SR K τ H' (fun x => Φ x ∨ x = L) (wipe σ vs) ρZ → H' L = some (.lst accV') → DVs K H' (Nn (fun x => Φ x ∨ x = L) (wipe σ vs) ρZ) accZ accV' → End H') :
    ∃ W1 : Nat → Nat → Hp → Prop, (∃ m, W1 0 m (upd Hb L (.lst accV0))) ∧ ∀ i m H, W1 i m H → (J.stop i H ∧ End H) ∨ (J.go i H ∧ ∃ Nx : Hp → Prop, (∀ H', Nx H' → ∃ m', m' < m ∧ W1 (i + 1) m' H') ∧
      ∀ x H', J.yld i H x H' → tG K τ io ts asg x (wipe σ vs) H' fun σ2 H2 => wipe σ2 vs = wipe σ vs ∧ tT K τ W0 t σ2 H2 fun b H3 =>
        if b = true then tD K τ W0 f σ2 H3 fun y H4 => ∃ acc, H4 L = some (.lst acc) ∧ acc.length < sizeLine ∧ Nx (upd H4 L (.lst (acc ++ [y]))) else Nx H3) := by
  refine ⟨fun i m H' => m = ys.length - i ∧ i ≤ ys.length ∧ ∃ ρ' acc accV, ES (wipe σ vs) (wipeC ρ vs) Hb ρ' H' ∧ SR K τ H' (fun x => Φ x ∨ x = L) (wipe σ vs) ρ' ∧ H' L = some (.lst accV) ∧ DVs K H' (Nn (fun x => Φ x ∨ x = L) (wipe σ vs) ρ') acc accV ∧
      lcGo vs asg t f (ys.drop i) acc ρ' = .ok accZ ρZ,
    ⟨ys.length, by simp, Nat.zero_le _, wipeC ρ vs, acc0, accV0, ⟨fun b o e _ _ => by rw [upd_ne (ne_of_none e hL)]; exact e, fun a e => ?_, fun _ h => h, fun _ o h => ⟨o, h⟩⟩, sr, upd_same, d0, by simpa using hZ⟩, ?_⟩
  · unfold upd
    split
    · intro z; cases z
    · exact e
  rintro i m H' ⟨rfl, hle, ρ', acc, accV, est, sr', hacc, dacc, hk⟩
  -- what is lent stays what it is
  have borN : ∀ (i : Nat) (o : O), ρ'[i]? = some (some (.bor o)) → (wipe σ vs)[i]? ≠ some (some (V.ref L)) := fun i o e z => by
    obtain ⟨u, e1⟩ := est.bor i o e
    exact bor0 i u (wipeC_some e1).1 (wipe_some z).1
  have ownN : ∀ a, Own (wipe σ vs) ρ' a → Own σ ρ a := fun a z => own_wipe (est.own a z)
  obtain ⟨go, stop, yld⟩ := wd H' (Nn (fun x => Φ x ∨ x = L) (wipe σ vs) ρ') (fun b o e n t => est.keep b o (by rwa [upd_ne fun z => n (.inl (.inr z))] at e) (fun z => n (.inr (own_wipe z))) t)
    (fun a z => .inl (z.imp id (ownN a))) fun a z => sr'.nnLv z
  by_cases hlt : i < ys.length
  · refine .inr ⟨go i hlt, fun H2 => ∃ ρ2 acc2 accV2, ES (wipe σ vs) (wipeC ρ vs) Hb ρ2 H2 ∧ SR K τ H2 (fun x => Φ x ∨ x = L) (wipe σ vs) ρ2 ∧ H2 L = some (.lst accV2) ∧ DVs K H2 (Nn (fun x => Φ x ∨ x = L) (wipe σ vs) ρ2) acc2 accV2 ∧
      lcGo vs asg t f (ys.drop (i + 1)) acc2 ρ2 = .ok accZ ρZ, fun H2 q => ⟨ys.length - (i + 1), by omega, rfl, hlt, q⟩, fun v H2 y => ?_⟩
    obtain ⟨gr, d, ed, dv⟩ := yld i v H2 hlt y
    have ex : ys.drop i = d :: ys.drop (i + 1) := by
      obtain ⟨hl, hd⟩ := List.getElem?_eq_some_iff.mp ed
      rw [← hd]; exact List.drop_eq_getElem_cons hl
    rw [ex] at hk
    unfold lcGo at hk
    have sr2 := gr.sr sr'
    refine ⟨_, ρ', d, sr2, dv, ?_⟩
    cases ea : asg d ρ' with
    | none => rw [ea] at hk; dsimp only at hk; cases hk
    | some ρ3 =>
      rw [ea] at hk
      dsimp only at hk
      intro σ3 st3 sr3 ⟨len3, out3⟩ cel3
      have weq : wipe σ3 vs = wipe σ vs := wipe_eq hv len3 out3
      refine ⟨weq, _, ρ3, sr3, ?_⟩
      have own3 : ∀ a, Own σ3 ρ3 a → Own (wipe σ vs) ρ' a := fun a ⟨j, o, e1, e2⟩ => by
        rcases cel3 j _ e1 with ⟨_, z⟩ | ⟨z, n⟩
        · cases z
        · exact ⟨j, o, z, by rw [← out3 j n]; exact e2⟩
      have bor3 : ∀ (j : Nat) (o : O), ρ3[j]? = some (some (.bor o)) → ρ'[j]? = some (some (.bor o)) ∧ σ3[j]? ≠ some (some (V.ref L)) := fun j o e => by
        rcases cel3 j _ e with ⟨_, z⟩ | ⟨z, n⟩
        · cases z
        · exact ⟨z, by rw [out3 j n]; exact borN j o z⟩
      -- the end of a turn
      have fin : ∀ {ρ5 : Env'} {H5 : Hp} {acc5 : List D} {accV5 : List V}, ES σ3 ρ3 H2 ρ5 H5 → SR K τ H5 (fun x => Φ x ∨ x = L) σ3 ρ5 → H5 L = some (.lst accV) →
          DVs K H5 (Nn (fun x => Φ x ∨ x = L) σ3 ρ5) acc5 accV5 → lcGo vs asg t f (ys.drop (i + 1)) acc5 (wipeC ρ5 vs) = .ok accZ ρZ →
          ∃ ρ2 acc2 accV2, ES (wipe σ vs) (wipeC ρ vs) Hb ρ2 (upd H5 L (.lst accV5)) ∧ SR K τ (upd H5 L (.lst accV5)) (fun x => Φ x ∨ x = L) (wipe σ vs) ρ2 ∧ (upd H5 L (.lst accV5)) L = some (.lst accV2) ∧ DVs K (upd H5 L (.lst accV5)) (Nn (fun x => Φ x ∨ x = L) (wipe σ vs) ρ2) acc2 accV2 ∧ lcGo vs asg t f (ys.drop (i + 1)) acc2 ρ2 = .ok accZ ρZ :=
        fun {ρ5 H5 acc5 accV5} e5 sr5 l5 d5 k5 => by
          have b5 : ∀ (j : Nat) (o : O), ρ5[j]? = some (some (.bor o)) → σ3[j]? ≠ some (some (V.ref L)) := fun j o e => by
            obtain ⟨u, e'⟩ := e5.bor j o e
            exact (bor3 j u e').2
          have sr6 := (sr5.updX (o := .lst accV5) (.inr rfl) l5 nc_lst b5).wipe (vs := vs)
          rw [weq] at sr6
          have ow : ∀ a, Own (wipe σ vs) (wipeC ρ5 vs) a → Own σ3 ρ5 a := fun a z => by
            rw [← weq] at z
            exact own_wipe z
          refine ⟨wipeC ρ5 vs, acc5, accV5, ⟨fun b o e n t => ?_, fun a e => ?_, fun a z => est.own a (own3 a (e5.own a (ow a z))), fun j o e => ?_⟩, sr6, upd_same, DVs.keep (N := Nn (fun x => Φ x ∨ x = L) σ3 ρ5) (fun b o e n _ => ?_) (fun a z => .inl (z.imp id (ow a))) acc5 accV5 d5, k5⟩
          · rw [upd_ne (ne_of_none e hL)]
            refine e5.keep b o (gr.es (σ := wipe σ vs) (ρ := ρ') |>.keep b o (est.keep b o e n t) (fun z => n (est.own b z)) t) (fun z => n (est.own b (own3 b z))) t
          · unfold upd
            split
            · intro z; cases z
            · exact e5.trk a (gr.es (σ := wipe σ vs) (ρ := ρ') |>.trk a (est.trk a e))
          · obtain ⟨e, _⟩ := wipeC_some e
            obtain ⟨u, e'⟩ := e5.bor j o e
            exact est.bor j u (bor3 j u e').1
          · rw [upd_ne fun z => n (.inl (.inr z))]
            exact e
      have dacc2 : DVs K H2 (Nn (fun x => Φ x ∨ x = L) σ3 ρ3) acc accV := st3.dvs (gr.es.stp (io := []) |>.dvs dacc)
      have hacc2 : H2 L = some (.lst accV) := gr.es (σ := wipe σ vs) (ρ := ρ') |>.keep L _ hacc (fun z => by
        obtain ⟨j, o, e1, e2⟩ := z
        obtain ⟨v, e3, a, ev, n, _⟩ := sr'.cell j _ e1
        rw [e2] at e3
        cases e3
        cases ev
        exact n (.inr rfl)) nt_lst
      have keepL : ∀ {ρ5 H5 H6}, SR K τ H5 (fun x => Φ x ∨ x = L) σ3 ρ5 → ES σ3 ρ5 H5 ρ3 H6 ∨ True → ¬ Own σ3 ρ5 L := fun {ρ5 H5 H6} s5 _ z => by
        obtain ⟨j, o, e1, e2⟩ := z
        obtain ⟨v, e3, a, ev, n, _⟩ := s5.cell j _ e1
        rw [e2] at e3
        cases e3
        cases ev
        exact n (.inr rfl)
      cases et : t ρ3 with
      | bad => rw [et] at hk; dsimp only at hk; cases hk
      | er x ρ4 => rw [et] at hk; dsimp only at hk; cases hk
      | ok b ρ4 =>
        rw [et] at hk
        intro H4 s4 sr4
        have hacc4 : H4 L = some (.lst accV) := s4.keep L _ hacc2 (keepL (H6 := H4) sr3 (.inr trivial)) nt_lst
        cases b with
        | false =>
          dsimp only at hk
          refine (if_neg Bool.false_ne_true).mpr ?_
          have e := fin s4 sr4 hacc4 ((s4.stp (io := [])).dvs dacc2) hk
          have hu : upd H4 L (.lst accV) = H4 := by
            funext a
            by_cases z : a = L
            · rw [z, upd_same, hacc4]
            · rw [upd_ne z]
          rw [hu] at e
          exact e
        | true =>
          dsimp only at hk
          refine (if_pos rfl).mpr ⟨_, ρ4, sr4, ?_⟩
          cases ef : f ρ4 with
          | bad => rw [ef] at hk; dsimp only at hk; cases hk
          | er x ρ5 => rw [ef] at hk; dsimp only at hk; cases hk
          | ok r ρ5 =>
            rw [ef] at hk
            dsimp only at hk
            intro y H5 s5 sr5 rv
            cases eti : toI r ρ5 with
            | bad => rw [eti] at hk; dsimp only at hk; cases hk
            | er x ρ6 => exact absurd eti toI_ner
            | ok dd ρ6 =>
              rw [eti] at hk
              dsimp only at hk
              obtain ⟨s6, sr6, dv6⟩ := toI_ok rv.w sr5 eti
              have s46 := s4.trans (s5.trans s6)
              have hacc5 : H5 L = some (.lst accV) := s5.keep L _ hacc4 (keepL (H6 := H4) sr4 (.inr trivial)) nt_lst
              have dacc6 := (s46.stp (io := [])).dvs dacc2
              split at hk
              · rename_i hz
                have hz := szB_ok hz
                refine ⟨accV, hacc5, by rw [dacc.length]; omega, ?_⟩
                exact fin s46 sr6 hacc5 (dacc6.append (DVs.cons dv6 DVs.nil)) hk
              · cases hk
  · have e : i = ys.length := by omega
    subst e
    rw [List.drop_length] at hk
    have hk : Out.ok acc ρ' = .ok accZ ρZ := hk
    cases hk
    exact .inl ⟨stop, hfin H' accV est sr' hacc dacc⟩
end
end DL

/-! ## DLo -/
set_option Elab.async false
set_option linter.all false
set_option maxRecDepth 100000
set_option maxHeartbeats 4000000
/-! DLo: comprehensions with two for parts: the outer loop, the rule. -/
namespace DL
open PySem L2 PySem.Spec
def lc2Go (vs vs1 : List Nat) (asg : Asg) (t : M Bool) (g1 : M (List D)) (asg1 : Asg) (t1 : M Bool) (f : M R) : List D → List D → M (List D)
  | [], acc => mr acc
  | x :: xs, acc => fun ρ => match asg x ρ with
    | none => .bad
    | some ρ1 => match t ρ1 with
      | .ok true ρ2 => match g1 ρ2 with
        | .ok ys ρ3 => if vsOk ρ3 vs1 then match lcGo vs1 asg1 t1 f ys acc (wipeC ρ3 vs1) with
          | .ok acc' ρ4 => lc2Go vs vs1 asg t g1 asg1 t1 f xs acc' (wipeC ρ4 vs)
          | _ => .bad
          else .bad
        | _ => .bad
      | .ok false ρ2 => lc2Go vs vs1 asg t g1 asg1 t1 f xs acc (wipeC ρ2 vs)
      | _ => .bad
def xLc2 (vs vs1 : List Nat) (g : M (List D)) (asg : Asg) (t : M Bool) (g1 : M (List D)) (asg1 : Asg) (t1 : M Bool) (f : M R) : M R := mb g fun xs => fun ρ => if vsOk ρ vs then match lc2Go vs vs1 asg t g1 asg1 t1 f xs [] (wipeC ρ vs) with
  | .ok acc ρ' => .ok (.new (.lst acc)) (rsC ρ ρ' vs)
  | _ => .bad
  else .bad
section
variable {K : PySem.W.Frag} {W : WX} {vs ts io vs1 ts1 io1 : List Nat} {g g1 : M (List D)} {asg asg1 : Asg} {t t1 : M Bool} {f : M R}
theorem lc2_w (hv : ∀ j ∈ ts, j ∈ vs) (hv1 : ∀ j ∈ ts1, j ∈ vs1) (hs1 : ∀ j ∈ vs1, j ∈ vs) {σ : L2.St} {H : Hp} {Q : VK} (q : tD K τ W (xLc2 vs vs1 g asg t g1 asg1 t1 f) σ H Q) : tLc2 (tI K τ W g) (tG K τ io ts asg) (tT K τ W0 t) (tI K τ W0 g1) (tG K τ io1 ts1 asg1) (tT K τ W0 t1) (tD K τ W0 f) vs vs1 σ H Q := by
  obtain ⟨Φ, ρ0, sr0, h⟩ := q
  refine ⟨Φ, ρ0, sr0, ?_⟩
  unfold xLc2 mb at h
  cases eg : g ρ0 with
  | bad => rw [eg] at h; exact h
  | er x ρ1 => rw [eg] at h; exact h
  | ok xs ρ =>
    rw [eg] at h
    dsimp only at h
    intro J H1 es0 sr wd L hL
    have h := GoodE.shift h es0
    split at h
    · rename_i vok
      -- where it ends
      generalize hO : lc2Go vs vs1 asg t g1 asg1 t1 f xs [] (wipeC ρ vs) = Z at h
      have srw : SR K τ (upd H1 L (.lst [])) (fun x => Φ x ∨ x = L) (wipe σ vs) (wipeC ρ vs) := (sr.growX hL).wipe
      have bor0 : ∀ (i : Nat) (o : O), ρ[i]? = some (some (.bor o)) → σ[i]? ≠ some (some (V.ref L)) := fun i o e z => by
        obtain ⟨v, e1, a, ev, n, _⟩ := sr.cell i _ e
        rw [z] at e1
        cases e1
        cases ev
        exact sr.live L n hL
      refine ⟨fun i m H' => m = xs.length - i ∧ i ≤ xs.length ∧ ∃ ρ' acc accV, ES (wipe σ vs) (wipeC ρ vs) H1 ρ' H' ∧ SR K τ H' (fun x => Φ x ∨ x = L) (wipe σ vs) ρ' ∧ H' L = some (.lst accV) ∧ DVs K H' (Nn (fun x => Φ x ∨ x = L) (wipe σ vs) ρ') acc accV ∧
          lc2Go vs vs1 asg t g1 asg1 t1 f (xs.drop i) acc ρ' = Z,
        ⟨xs.length, by simp, Nat.zero_le _, wipeC ρ vs, [], [], ⟨fun b o e _ _ => by rw [upd_ne (ne_of_none e hL)]; exact e, fun a e => ?_, fun _ h => h, fun _ o h => ⟨o, h⟩⟩, srw, upd_same, DVs.nil, by simpa using hO⟩, ?_⟩
      · unfold upd
        split
        · intro z; cases z
        · exact e
      rintro i m H' ⟨rfl, hle, ρ', acc, accV, est, sr', hacc, dacc, hk⟩
      -- what is lent stays what it is
      have borN : ∀ (i : Nat) (o : O), ρ'[i]? = some (some (.bor o)) → (wipe σ vs)[i]? ≠ some (some (V.ref L)) := fun i o e z => by
        obtain ⟨u, e1⟩ := est.bor i o e
        exact bor0 i u (wipeC_some e1).1 (wipe_some z).1
      have ownN : ∀ a, Own (wipe σ vs) ρ' a → Own σ ρ a := fun a z => own_wipe (est.own a z)
      obtain ⟨go, stop, yld⟩ := wd H' (Nn (fun x => Φ x ∨ x = L) (wipe σ vs) ρ') (fun b o e n t => est.keep b o e (fun z => n (.inr (own_wipe z))) t)
        (fun a z => by
          rcases z with (z | z) | z
          · exact .inl (.inl z)
          · exact .inr (by rw [z]; exact hL)
          · exact .inl (.inr (ownN a z))) fun a z => sr'.nnLv z
      by_cases hlt : i < xs.length
      · refine .inr ⟨go i hlt, fun H2 => ∃ ρ2 acc2 accV2, ES (wipe σ vs) (wipeC ρ vs) H1 ρ2 H2 ∧ SR K τ H2 (fun x => Φ x ∨ x = L) (wipe σ vs) ρ2 ∧ H2 L = some (.lst accV2) ∧ DVs K H2 (Nn (fun x => Φ x ∨ x = L) (wipe σ vs) ρ2) acc2 accV2 ∧
          lc2Go vs vs1 asg t g1 asg1 t1 f (xs.drop (i + 1)) acc2 ρ2 = Z, fun H2 q => ⟨xs.length - (i + 1), by omega, rfl, hlt, q⟩, fun v H2 y => ?_⟩
        obtain ⟨gr, d, ed, dv⟩ := yld i v H2 hlt y
        have ex : xs.drop i = d :: xs.drop (i + 1) := by
          obtain ⟨hl, hd⟩ := List.getElem?_eq_some_iff.mp ed
          rw [← hd]; exact List.drop_eq_getElem_cons hl
        rw [ex] at hk
        unfold lc2Go at hk
        have sr2 := gr.sr sr'
        refine ⟨_, ρ', d, sr2, dv, ?_⟩
        cases ea : asg d ρ' with
        | none => rw [ea] at hk; dsimp only at hk; rw [← hk] at h; exact h.elim
        | some ρ3 =>
          rw [ea] at hk
          dsimp only at hk
          intro σ3 st3 sr3 ⟨len3, out3⟩ cel3
          have weq : wipe σ3 vs = wipe σ vs := wipe_eq hv len3 out3
          refine ⟨weq, _, ρ3, sr3, ?_⟩
          have own3 : ∀ a, Own σ3 ρ3 a → Own (wipe σ vs) ρ' a := fun a ⟨j, o, e1, e2⟩ => by
            rcases cel3 j _ e1 with ⟨_, z⟩ | ⟨z, n⟩
            · cases z
            · exact ⟨j, o, z, by rw [← out3 j n]; exact e2⟩
          have bor3 : ∀ (j : Nat) (o : O), ρ3[j]? = some (some (.bor o)) → ρ'[j]? = some (some (.bor o)) ∧ σ3[j]? ≠ some (some (V.ref L)) := fun j o e => by
            rcases cel3 j _ e with ⟨_, z⟩ | ⟨z, n⟩
            · cases z
            · exact ⟨z, by rw [out3 j n]; exact borN j o z⟩
          -- the end of a turn
          have fin : ∀ {ρ5 : Env'} {H5 : Hp} {acc5 : List D} {accV5 : List V}, ES σ3 ρ3 H2 ρ5 H5 → SR K τ H5 (fun x => Φ x ∨ x = L) σ3 ρ5 → H5 L = some (.lst accV) →
              DVs K H5 (Nn (fun x => Φ x ∨ x = L) σ3 ρ5) acc5 accV5 → lc2Go vs vs1 asg t g1 asg1 t1 f (xs.drop (i + 1)) acc5 (wipeC ρ5 vs) = Z →
              ∃ ρ2 acc2 accV2, ES (wipe σ vs) (wipeC ρ vs) H1 ρ2 (upd H5 L (.lst accV5)) ∧ SR K τ (upd H5 L (.lst accV5)) (fun x => Φ x ∨ x = L) (wipe σ vs) ρ2 ∧ (upd H5 L (.lst accV5)) L = some (.lst accV2) ∧ DVs K (upd H5 L (.lst accV5)) (Nn (fun x => Φ x ∨ x = L) (wipe σ vs) ρ2) acc2 accV2 ∧ lc2Go vs vs1 asg t g1 asg1 t1 f (xs.drop (i + 1)) acc2 ρ2 = Z :=
            fun {ρ5 H5 acc5 accV5} e5 sr5 l5 d5 k5 => by
              have b5 : ∀ (j : Nat) (o : O), ρ5[j]? = some (some (.bor o)) → σ3[j]? ≠ some (some (V.ref L)) := fun j o e => by
                obtain ⟨u, e'⟩ := e5.bor j o e
                exact (bor3 j u e').2
              have sr6 := (sr5.updX (o := .lst accV5) (.inr rfl) l5 nc_lst b5).wipe (vs := vs)
              rw [weq] at sr6
              have ow : ∀ a, Own (wipe σ vs) (wipeC ρ5 vs) a → Own σ3 ρ5 a := fun a z => by
                rw [← weq] at z
                exact own_wipe z
              refine ⟨wipeC ρ5 vs, acc5, accV5, ⟨fun b o e n t => ?_, fun a e => ?_, fun a z => est.own a (own3 a (e5.own a (ow a z))), fun j o e => ?_⟩, sr6, upd_same, DVs.keep (N := Nn (fun x => Φ x ∨ x = L) σ3 ρ5) (fun b o e n _ => ?_) (fun a z => .inl (z.imp id (ow a))) acc5 accV5 d5, k5⟩
              · rw [upd_ne (ne_of_none e hL)]
                refine e5.keep b o (gr.es (σ := wipe σ vs) (ρ := ρ') |>.keep b o (est.keep b o e n t) (fun z => n (est.own b z)) t) (fun z => n (est.own b (own3 b z))) t
              · unfold upd
                split
                · intro z; cases z
                · exact e5.trk a (gr.es (σ := wipe σ vs) (ρ := ρ') |>.trk a (est.trk a e))
              · obtain ⟨e, _⟩ := wipeC_some e
                obtain ⟨u, e'⟩ := e5.bor j o e
                exact est.bor j u (bor3 j u e').1
              · rw [upd_ne fun z => n (.inl (.inr z))]
                exact e
          have dacc2 : DVs K H2 (Nn (fun x => Φ x ∨ x = L) σ3 ρ3) acc accV := st3.dvs (gr.es.stp (io := []) |>.dvs dacc)
          have hacc2 : H2 L = some (.lst accV) := gr.es (σ := wipe σ vs) (ρ := ρ') |>.keep L _ hacc (fun z => by
            obtain ⟨j, o, e1, e2⟩ := z
            obtain ⟨v, e3, a, ev, n, _⟩ := sr'.cell j _ e1
            rw [e2] at e3
            cases e3
            cases ev
            exact n (.inr rfl)) nt_lst
          have keepL : ∀ {ρ5 H5 H6}, SR K τ H5 (fun x => Φ x ∨ x = L) σ3 ρ5 → ES σ3 ρ5 H5 ρ3 H6 ∨ True → ¬ Own σ3 ρ5 L := fun {ρ5 H5 H6} s5 _ z => by
            obtain ⟨j, o, e1, e2⟩ := z
            obtain ⟨v, e3, a, ev, n, _⟩ := s5.cell j _ e1
            rw [e2] at e3
            cases e3
            cases ev
            exact n (.inr rfl)
          cases et : t ρ3 with
          | bad => rw [et] at hk; dsimp only at hk; rw [← hk] at h; exact h.elim
          | er x ρ4 => rw [et] at hk; dsimp only at hk; rw [← hk] at h; exact h.elim
          | ok b ρ4 =>
            rw [et] at hk
            intro H4 s4 sr4
            have hacc4 : H4 L = some (.lst accV) := s4.keep L _ hacc2 (keepL (H6 := H4) sr3 (.inr trivial)) nt_lst
            cases b with
            | false =>
              dsimp only at hk
              refine (if_neg Bool.false_ne_true).mpr ?_
              have e := fin s4 sr4 hacc4 ((s4.stp (io := [])).dvs dacc2) hk
              have hu : upd H4 L (.lst accV) = H4 := by
                funext a
                by_cases z : a = L
                · rw [z, upd_same, hacc4]
                · rw [upd_ne z]
              rw [hu] at e
              exact e
            | true =>
              dsimp only at hk
              refine (if_pos rfl).mpr ⟨_, ρ4, sr4, ?_⟩
              cases ef : g1 ρ4 with
              | bad => rw [ef] at hk; dsimp only at hk; rw [← hk] at h; exact h.elim
              | er x ρ5 => rw [ef] at hk; dsimp only at hk; rw [← hk] at h; exact h.elim
              | ok ys ρ5 =>
                rw [ef] at hk
                dsimp only at hk
                intro J1 H5 s5 sr5 wd1
                split at hk
                · cases el : lcGo vs1 asg1 t1 f ys acc (wipeC ρ5 vs1) with
                  | bad => rw [el] at hk; dsimp only at hk; rw [← hk] at h; exact h.elim
                  | er x ρ6 => rw [el] at hk; dsimp only at hk; rw [← hk] at h; exact h.elim
                  | ok acc6 ρ6 =>
                    rw [el] at hk
                    dsimp only at hk
                    have hacc5 : H5 L = some (.lst accV) := s5.keep L _ hacc4 (keepL (H6 := H4) sr4 (.inr trivial)) nt_lst
                    have dacc5 : DVs K H5 (Nn (fun x => Φ x ∨ x = L) σ3 ρ5) acc accV := ((s4.trans s5).stp (io := [])).dvs dacc2
                    -- the heap without the list
                    generalize hHb : (fun a => if a = L then none else H5 a : Hp) = Hb
                    have bL : Hb L = none := by rw [← hHb]; exact if_pos rfl
                    have bN : ∀ b, b ≠ L → Hb b = H5 b := fun b n => by rw [← hHb]; exact if_neg n
                    have bU : upd Hb L (.lst accV) = H5 := by
                      funext a
                      by_cases z : a = L
                      · rw [z, upd_same, hacc5]
                      · rw [upd_ne z, bN a z]
                    have bor5 : ∀ (i : Nat) (o : O), ρ5[i]? = some (some (.bor o)) → σ3[i]? ≠ some (some (V.ref L)) := fun j o e => by
                      obtain ⟨u, e'⟩ := (s4.trans s5).bor j o e
                      exact (bor3 j u e').2
                    have srw5 := sr5.wipe (vs := vs1)
                    have ow5 : ∀ a, Own (wipe σ3 vs1) (wipeC ρ5 vs1) a → Own σ3 ρ5 a := fun a z => own_wipe z
                    have w1 : wipe (wipe σ3 vs1) vs = wipe σ3 vs := wipe_eq (ts := vs) (fun _ z => z) (by rw [wipe_length, wipe_length]) fun j n => (wipe_out fun z => n (hs1 j z)).trans (wipe_out n).symm
                    have w2 : wipe (wipe σ3 vs1) vs = wipe σ vs := w1.trans weq
                    have res := lc_in (K := K) (io := io1) (L := L) (Hb := Hb) (accV0 := accV) (σ := σ3) (ρ := ρ5) (Φ := Φ) (J := J1) (acc0 := acc) hv1 bL (by rw [bU]; exact srw5) bor5
                      (by rw [bU]; exact DVs.keep (N := Nn (fun x => Φ x ∨ x = L) σ3 ρ5) (fun _ _ e _ _ => e) (fun a z => .inl (z.imp id (ow5 a))) _ _ dacc5) (by rw [bU]; exact wd1) el
                      (End := fun H' => ∃ ρ2 acc2 accV2, ES (wipe σ vs) (wipeC ρ vs) H1 ρ2 H' ∧ SR K τ H' (fun x => Φ x ∨ x = L) (wipe σ vs) ρ2 ∧ H' L = some (.lst accV2) ∧ DVs K H' (Nn (fun x => Φ x ∨ x = L) (wipe σ vs) ρ2) acc2 accV2 ∧
                        lc2Go vs vs1 asg t g1 asg1 t1 f (xs.drop (i + 1)) acc2 ρ2 = Z) fun H6 accV6 es6 sr6 h6 d6 => by
                        have srv := sr6.wipe (vs := vs)
                        rw [w2] at srv
                        have up : ∀ a, Own (wipe σ vs) (wipeC ρ6 vs) a → Own (wipe σ3 vs1) ρ6 a := fun a z => by
                          rw [← w2] at z
                          exact own_wipe z
                        have down : ∀ a, Own (wipe σ3 vs1) (wipeC ρ5 vs1) a → Own (wipe σ vs) ρ' a := fun a z => own3 a (s4.own a (s5.own a (ow5 a z)))
                        refine ⟨wipeC ρ6 vs, acc6, accV6, ⟨fun b o e n t => ?_, fun a e => ?_, fun a z => est.own a (down a (es6.own a (up a z))), fun j o e => ?_⟩, srv, h6, DVs.keep (N := Nn (fun x => Φ x ∨ x = L) (wipe σ3 vs1) ρ6) (fun _ _ e _ _ => e) (fun a z => .inl (z.imp id (up a))) _ _ d6, hk⟩
                        · have nL : b ≠ L := ne_of_none e hL
                          refine es6.keep b o ?_ (fun z => n (est.own b (down b z))) t
                          rw [bN b nL]
                          refine (s4.trans s5).keep b o (gr.es (σ := wipe σ vs) (ρ := ρ') |>.keep b o (est.keep b o e n t) (fun z => n (est.own b z)) t) (fun z => n (est.own b (own3 b z))) t
                        · have nL : a ≠ L := fun z => e (by rw [z]; exact hL)
                          refine es6.trk a ?_
                          rw [bN a nL]
                          exact (s4.trans s5).trk a (gr.es (σ := wipe σ vs) (ρ := ρ') |>.trk a (est.trk a e))
                        · obtain ⟨e, _⟩ := wipeC_some e
                          obtain ⟨u, e'⟩ := es6.bor j o e
                          obtain ⟨e', _⟩ := wipeC_some e'
                          obtain ⟨u2, e2⟩ := (s4.trans s5).bor j u e'
                          exact est.bor j u2 (bor3 j u2 e2).1
                    rw [bU] at res
                    exact res
                · rw [← hk] at h; exact h.elim
      · have e : i = xs.length := by omega
        subst e
        rw [List.drop_length] at hk
        have hk : Z = .ok acc ρ' := hk.symm
        rw [hk] at h
        refine .inl ⟨stop, ?_⟩
        have ownR : ∀ a, Own σ (rsC ρ ρ' vs) a → Own (wipe σ vs) ρ' a := fun a ⟨j, o, e1, e2⟩ => by
          by_cases hj : j ∈ vs
          · obtain ⟨d, z⟩ := vsOk_imm vok hj (rsC_in hj e1)
            cases z
          · rw [rsC_out hj] at e1
            exact ⟨j, o, e1, by rw [wipe_out hj]; exact e2⟩
        have esR : ES σ ρ H1 (rsC ρ ρ' vs) H' := ⟨fun b o e n t => est.keep b o e (fun z => n (own_wipe z)) t, est.trk, fun a z => ownN a (ownR a z), fun j o e => by
          by_cases hj : j ∈ vs
          · exact ⟨o, rsC_in hj e⟩
          · rw [rsC_out hj] at e
            obtain ⟨u, e'⟩ := est.bor j o e
            exact ⟨u, (wipeC_some e').1⟩⟩
        have srx : SR K τ H' (fun x => Φ x ∨ x = L) σ (rsC ρ ρ' vs) := by
          refine ⟨by rw [rsC_length, sr'.len, wipe_length], fun j c e => ?_, fun j k o u a e1 e2 e3 e4 => ?_, sr'.lv, sr'.tab⟩
          · by_cases hj : j ∈ vs
            · obtain ⟨d, rfl⟩ := vsOk_imm vok hj (rsC_in hj e)
              obtain ⟨v, e1, dv⟩ := sr.cell j _ (rsC_in hj e)
              refine ⟨v, e1, DV.keep (N := Nn Φ σ ρ) (esR.stp (io := [])).keepN (fun a z => ?_) d v dv⟩
              · rcases z with (z | z) | z
                · exact .inl (.inl z)
                · exact .inr (by rw [z]; exact hL)
                · exact .inl (.inr (esR.own a z))
            · rw [rsC_out hj] at e
              obtain ⟨v, e1, q⟩ := sr'.fewer (N' := Nn (fun x => Φ x ∨ x = L) σ (rsC ρ ρ' vs)) (fun a z => z.imp id (ownR a)) e
              exact ⟨v, by rw [← wipe_out hj]; exact e1, q⟩
          · have up : ∀ {j : Nat} {o : O}, (rsC ρ ρ' vs)[j]? = some (some (.own o)) → j ∉ vs ∧ ρ'[j]? = some (some (.own o)) := fun {j o} e => by
              by_cases hj : j ∈ vs
              · obtain ⟨d, z⟩ := vsOk_imm vok hj (rsC_in hj e)
                cases z
              · exact ⟨hj, by rw [rsC_out hj] at e; exact e⟩
            obtain ⟨n1, q1⟩ := up e1
            obtain ⟨n2, q2⟩ := up e2
            exact sr'.inj j k o u a q1 q2 (by rw [wipe_out n1]; exact e3) (by rw [wipe_out n2]; exact e4)
        have srr : SR K τ H' Φ σ (rsC ρ ρ' vs) := srx.drop fun j o e => by
          obtain ⟨u, e'⟩ := esR.bor j o e
          exact bor0 j u e'
        have dv : DVs K H' (fun x => Nn Φ σ (rsC ρ ρ' vs) x ∨ x = L) acc accV := DVs.keep (N := Nn (fun x => Φ x ∨ x = L) (wipe σ vs) ρ') (fun _ _ e _ _ => e) (fun a z => .inl (by
          rcases z with (z | z) | z
          · exact .inl (.inl z)
          · exact .inr (ownR a z)
          · exact .inl (.inr z))) acc accV dacc
        refine h (.ref L) H' esR srr ⟨L, rfl, hL, fun z => ?_, srx, accV, hacc, dv⟩
        rcases z with z | z
        · exact sr.live L z hL
        · exact sr.ownLive (esR.own L z) hL
    · exact h.elim
end
section
variable {X : Cx} {W : WX} {elt tg iter tg1 iter1 : Expr} {ifs ifs1 : List Expr} {scope : Scope} {own : List (Str × Nat)} {vs1 : List Nat} {pos : Pos} {ts io ts1 io1 : List Nat} {g g1 : M (List D)} {asg asg1 : Asg} {t t1 : M Bool} {f : M R}
theorem d_lc2 (hc : X.calm = true) (hN : X.N.Nodup) (hi : PI X tg iter (tI X.K τ W g)) (ok : blkC X.N X.env.scope scope own = true) (hv1 : ∀ i ∈ vs1, i ∈ own.map (·.2))
    (hg : InBlk X scope fun Y => PG Y tg (tG X.K τ io ts asg)) (ht : InBlk X scope fun Y => PTs Y ifs (tT X.K τ W0 t)) (hi1 : InBlk X scope fun Y => PI Y tg1 iter1 (tI X.K τ W0 g1)) (hg1 : InBlk X scope fun Y => PG Y tg1 (tG X.K τ io1 ts1 asg1)) (ht1 : InBlk X scope fun Y => PTs Y ifs1 (tT X.K τ W0 t1))
    (he : InBlk X scope fun Y => PE Y elt (tD X.K τ W0 f)) (hv : ∀ j ∈ ts, j ∈ own.map (·.2)) (hw1 : ∀ j ∈ ts1, j ∈ vs1) (hs : ∀ x, foldedSetIterable iter X.env x = pure x := by intro _; rfl) (hs1 : ∀ env x, foldedSetIterable iter1 env x = pure x := by intro _ _; rfl) :
    PE X (.ListComp elt [⟨tg, iter, ifs, 0⟩, ⟨tg1, iter1, ifs1, 0⟩] scope pos) (tD X.K τ W (xLc2 (own.map (·.2)) vs1 g asg t g1 asg1 t1 f)) :=
  PE.weak (pe_lc2 hc hN hi (blkOk_by ok) hv1 hg ht hi1 hg1 ht1 he hs hs1) fun σ H Q q => lc2_w hv hw1 hv1 q
end
end DL

/-! ## DVe -/
set_option Elab.async false
set_option linter.all false
set_option maxRecDepth 100000
set_option maxHeartbeats 4000000
/-! DVe: exceptions of the program's classes as values: made, asked for their class, read. -/
namespace DL
open PySem L2 PySem.Spec PyProof.Rows
section
variable {X : Cx} {C fI : Addr} {f x sN vN : Str} {fd : FuncData} {e : Expr} {te : TE} {p pos : Pos}
/-- C(e) as a value: an error with one field -/
theorem pe_fldV (T : Fld1 X.K C f) (iC : PySem.W.findIn X.K (.ref C) "__init__" = some (some (.ref fI))) (tI : PySem.W.typeIn X.K (.ref fI) = some (.type "function")) (F1 : FnOk X.prog X.w X.K X.mg X.base (L2.CX X.prog X.w) 1 fI fd [sN, vN] (spFld C f))
    (hb : Binds X.K fd [sN, vN] []) (hr : Room 2 X.A) (tk : Takes X fun _ _ _ _ => False) (hg : Gl X x) (hm : X.mg x = some (.ref C)) (he : PE X e te) (hdb : (x == ("__debug__" : Str)) = false := by decide)
    (hs : starEach [e] X.env = (false, eval e X.env) :: starEach [] X.env := by rfl) (hpl : (backTo pos (starEach [] X.env)).any (·.1) = false := by rfl) :
    PE X (.Call (.Name x p) [e] [] pos) (fun σ H Q => te σ H fun y H1 => ∀ a d, H1 a = none → H1 d = none → d ≠ a → Q (.ref a) (upd (upd H1 d (exd d [(f, y)])) a (exo a C (some d)))) := by
  refine ⟨fun pins s σ H Q I h => ?_⟩
  obtain ⟨B, S, nI, iI, bmB, bmS, FB, _, q0, _, AV⟩ := T.base
  refine wpAny_Call_Name_kw (ld_glob I hg hm (PySem.W.callWith_K (h₀ := X.base) I.ok.mod.kin T.kp (thn ((pa_cons he pa_nil hs).run pos pins s σ H (fun vs H1 => match vs with
    | [y] => ∀ a d, H1 a = none → H1 d = none → d ≠ a → Q (.ref a) (upd (upd H1 d (exd d [(f, y)])) a (exo a C (some d)))
    | _ => False) I h) fun us s1 ⟨vs, H1, I1, r1, q1⟩ => ⟨I1.kIn, ?_⟩) hs hpl) hdb)
  rcases vs with _ | ⟨y, _ | ⟨z, zs⟩⟩
  · exact q1.elim
  · obtain ⟨u, rfl, ru⟩ : ∃ u, us = [u] ∧ RelV y u := by
      cases r1 with
      | cons a t => cases t; exact ⟨_, rfl, a⟩
    obtain ⟨nm, N, qn, bs, bm, hdct, sn, sub, ab, col, dd, k0, k1, k2, k3, k5, hC, hT⟩ := PySem.W.excInit_of I1.kIn q0
    obtain ⟨hp, g, dr, tk1, os⟩ := s1
    generalize ea : hp.objs.size + 1 = a
    have big : hp.objs.size ≤ a := by omega
    have nH : H1 a = none := I1.hok.fresh big
    have kk : ∀ b o, hp.get? b = some o → ((hp.push (PySem.W.kdv_tup [u])).push (HandSPX.excO C hp.objs.size)).get? b = some o := fun b o z => Heap.get?_push_of_some _ (Heap.get?_push_of_some _ z)
    have ha : ((hp.push (PySem.W.kdv_tup [u])).push (HandSPX.excO C hp.objs.size)).get? a = some (HandSPX.excO C hp.objs.size) := by rw [← ea]; heap_get
    have I2 : Inv X pins σ (upd H1 a (exo a C none)) ⟨(hp.push (PySem.W.kdv_tup [u])).push (HandSPX.excO C hp.objs.size), g, dr, tk1, os⟩ := I1.laid (t' := tk1) kk big (exo_ok ha)
    refine wpAny_call (call_ownG FB (AV.of hT) hC (PySem.W.looks_findIn I1.kIn iC) (fun self => PySem.W.bind_fn I1.kIn self tI) (by rw [sizeLine_eq]; exact Nat.le_of_ble_eq_true rfl) ?_)
    rw [ea]
    refine codeAny_mono (F1.run _ X.stack _ _ ⟨[.ref a, u], []⟩ [.ref a, u] [.ref a, y] (fun v H2 => v = .non ∧ ∃ d, H1 d = none ∧ d ≠ a ∧ H2 = gotF (upd H1 a (exo a C none)) a C d f y) (fun _ _ _ => False) (hr.make C [u] []) (I2.env0.make C [u] []) (hb _ [.ref a, u] I2.kIn rfl) (.cons rfl (.cons ru .nil))
      ⟨a, y, rfl, upd_same, fun d n ne => ⟨rfl, d, by rw [upd_ne ne] at n; exact n, ne, rfl⟩⟩) fun r s' hq => ?_
    rcases r with er | fl
    · exact tk er s' (XE.of_call I2 (fun _ _ _ z => z) hq)
    · rcases fl with _ | _ | _ | ur
      · exact False.elim hq
      · exact False.elim hq
      · exact False.elim hq
      · obtain ⟨v, H2, I3, rv, ev, d, nd, nda, eH⟩ := I2.after hq
        subst ev eH
        have eq : gotF (upd H1 a (exo a C none)) a C d f y = upd (upd H1 d (exd d [(f, y)])) a (exo a C (some d)) := by
          funext b
          by_cases za : b = a
          · rw [za, upd_same]; exact upd_same
          · rw [upd_ne za]
            by_cases zd : b = d
            · rw [zd, upd_same]; exact (upd_ne nda).trans upd_same
            · rw [upd_ne zd, gotF_other za zd, upd_ne za]
        rw [eq] at I3
        exact ⟨rv, ⟨V.ref a, _, I3, rfl, q1 a d nH nd nda⟩⟩
  · exact q1.elim
end
/-! ### making -/
def xExM (c : Str) (g : M R) : M R := mb g fun _ => fun ρ => .ok (.imm (.exv c [] [])) ρ
def xExF (c f : Str) (g : M R) : M R := mb g fun r => fun ρ => match toI r ρ with
  | .ok d ρ' => .ok (.imm (.exv c [f] [d])) ρ'
  | _ => .bad
section
variable {X : Cx} {W : WX} {io : List Nat} {e : Expr} {g : M R} {c f : Str} {p p2 p3 pos : Pos}
theorem d_exM (F : MsgF X.K X.mg c) (hg : Gl X c) (he : PE X e (tD X.K τ W g)) (hdb : (c == ("__debug__" : Str)) = false := by decide) (hs : starEach [e] X.env = (false, eval e X.env) :: starEach [] X.env := by rfl) :
    PE X (.Call (.Name c p) [e] [] pos) (tD X.K τ W (xExM c g)) :=
  PE.weak (pe_exc1 PySem.F.excBase_ValueError F.q F.g F.kp hg he hs hdb) fun σ H Q ⟨Φ, ρ, sr, h⟩ => ⟨Φ, ρ, sr, ee h fun r ρ1 v H1 s1 sr1 rv hk a na => by
    refine hk _ _ (ES.grow na) (sr1.grow na) ?_
    show DV _ _ _ _ _
    simp only [DV]
    exact ⟨a, [], rfl, ⟨⟨fun z => sr1.nnLive z na, .inl ⟨rfl, upd_same⟩⟩, rfl⟩, DVs.nil⟩⟩
theorem d_exF {fd : FuncData} {sN vN : Str} (F : FldF X.K X.mg c f) (F1 : FnOk X.prog X.w X.K X.mg X.base (L2.CX X.prog X.w) 1 (He.ma X.K (He.ga X.K c) "__init__") fd [sN, vN] (spFld (He.ga X.K c) f)) (hb : Binds X.K fd [sN, vN] [])
    (hr : Room 2 X.A) (tk : Takes X fun _ _ _ _ => False) (hg : Gl X c) (he : PE X e (tD X.K τ W g)) (hdb : (c == ("__debug__" : Str)) = false := by decide) (hs : starEach [e] X.env = (false, eval e X.env) :: starEach [] X.env := by rfl) (hpl : (backTo pos (starEach [] X.env)).any (·.1) = false := by rfl) :
    PE X (.Call (.Name c p) [e] [] pos) (tD X.K τ W (xExF c f g)) :=
  PE.weak (pe_fldV F.t F.i F.ti F1 hb hr tk hg F.g he hdb hs hpl) fun σ H Q ⟨Φ, ρ, sr, h⟩ => ⟨Φ, ρ, sr, ee h fun r ρ1 v H1 s1 sr1 rv hk a d na nd ne => by
    cases e1 : toI r ρ1 with
    | er x ρ2 => exact absurd e1 toI_ner
    | bad => rw [e1] at hk; exact hk.elim
    | ok dd ρ2 =>
      rw [e1] at hk
      obtain ⟨s2, sr2, dv⟩ := toI_ok rv sr1 e1
      have na' : upd H1 d (exd d [(f, v)]) a = none := by rw [upd_ne ne.symm]; exact na
      have s3 := (ES.grow (σ := σ) (ρ := ρ2) (o := exd d [(f, v)]) nd).trans (ES.grow (o := exo a (He.ga X.K c) (some d)) na')
      refine hk _ _ (s2.trans s3) ((sr2.grow nd).grow na') ?_
      show DV _ _ _ _ _
      simp only [DV]
      exact ⟨a, [v], rfl, ⟨⟨fun z => sr2.nnLive z na, .inr ⟨d, upd_same, (upd_ne ne).trans upd_same, fun z => sr2.nnLive z nd⟩⟩, rfl⟩, DVs.cons ((s3.stp (io := [])).dv dv) DVs.nil⟩⟩
/-- raise C(e), the message of any kind -/
def sRaiseM (c : Str) (g : M R) : MS := sb g fun _ => fun ρ => .er ⟨c, [], []⟩ ρ
theorem s_raiseM1 (hc : X.calm = true) (tk : Takes X W) (F : MsgF X.K X.mg c) (hg : Gl X c) (he : PE X e (tD X.K τ W g)) (hdb : (c == ("__debug__" : Str)) = false := by decide) (hs : starEach [e] X.env = (false, eval e X.env) :: starEach [] X.env := by rfl) :
    PS X (.Raise (some (.Call (.Name c p) [e] [] p3)) none pos) (tS X.K τ W io (sRaiseM c g)) :=
  PS.weak (ps_raise hc tk (SkE.pmk_own1 PySem.F.excBase_ValueError F.q F.g F.kp (raises_own F.su F.ty) hg he hs hdb)) fun D σ H ⟨Φ, ρ, sr, h⟩ => ⟨Φ, ρ, sr, es h fun r ρ1 v H1 s1 sr1 rv hk =>
    hk _ none σ _ s1.stp sr1 ⟨rfl, [], rfl, rfl, DVs.nil⟩⟩
end
/-! ### isinstance -/
def opIsV (T : XT) (x : Str) : D → Option P
  | .exv c _ _ => if T.cls.contains c then (T.isSub c x).map fun b => .d (.bl b) else none
  | _ => none
def opIsVt (T : XT) (t : String) : D → Option P
  | .exv c _ _ => if T.cls.contains c then (T.isBsub c t).map fun b => .d (.bl b) else none
  | _ => none
/-- an exception of the class C stands at a -/
def XvAt (H : Hp) (a C : Addr) : Prop := H a = some (ExO (.ref C) a) ∨ ∃ d fs, H a = some (exo a C (some d)) ∧ H d = some (exd d fs)
theorem XvAt.inst {P : Program} {w : World} {H : Hp} {h : Heap} {a C : Addr} (hok : HOk P w H h) (x : XvAt H a C) : ∃ oe od, PySem.W.InstAt h a oe C od := by
  rcases x with e | ⟨d, fs, e1, e2⟩
  · obtain ⟨⟨oe, vs, ho, hz, hd, _⟩, _, _⟩ := hok a _ e
    obtain ⟨oc, odd, oda, osl⟩ := oe
    obtain ⟨h1, h2⟩ := hz
    dsimp only at h1 h2 hd
    subst h1 h2 hd
    exact ⟨_, none, ho, rfl, rfl, trivial⟩
  · obtain ⟨t1, ho⟩ := exo_at hok e1
    obtain ⟨mA, ⟨o, _, _, hd, _⟩, _⟩ := exd_at hok e2
    exact ⟨_, some o, ho, rfl, rfl, hd⟩
def rIsV (K : PySem.W.Frag) (cv : Value) : List V → Hp → VK → Prop := fun xs H Q => ∃ (u : V) (b : Bool) (a C : Addr), xs = [.ref a, u] ∧ (∀ w, RelV u w → w = cv) ∧ XvAt H a C ∧ ExcF K C ∧ PySem.W.kitOne K (.ref C) cv = some b ∧ Q (.bl b) H
theorem call_isV {X : Cx} {cv : Value} : CallR X (.builtin "isinstance") (rIsV X.K cv) := by
  intro pins s σ H xs us Q I r h
  obtain ⟨u, b, a, C, rfl, hcv, hx, F, e, q⟩ := h
  cases r with
  | cons r1 r2 =>
    cases r2 with
    | cons r3 r4 =>
      cases r4
      cases r1
      have ec := hcv _ r3
      subst ec
      obtain ⟨oe, od, J⟩ := hx.inst I.hok
      exact PySem.W.kia_one (PySem.W.kitx_exc F.cl F.ga F.gt F.su F.ca F.sp F.tk F.mo) I.kIn J e (fun z => nomatch z) fun tk => ⟨.bl b, H, I.tok _, rfl, q⟩
theorem rd_exv {K : PySem.W.Frag} {H : Hp} {N : Addr → Prop} {c : Str} {fs : List Str} {ds : List D} {x : V} (h : RD K H N (.exv c fs ds) x) : ∃ a vs, x = .ref a ∧ (ExvAt H N (He.ga K c) a fs vs ∧ fs.length = ds.length) ∧ DVs K H N ds vs := by
  simp only [RD, DV] at h
  exact h
theorem ExvAt.xv {H : Hp} {N : Addr → Prop} {C a : Addr} {fs : List Str} {vs : List V} (h : ExvAt H N C a fs vs) : XvAt H a C := by
  rcases h.2 with ⟨_, e⟩ | ⟨d, e1, e2, _⟩
  · exact .inl e
  · exact .inr ⟨d, _, e1, e2⟩
section
variable {X : Cx} {T : XT} {e : Expr} {f : M R} {W : WX} {n x : Str} {p p2 pos cpos : Pos}
theorem isV_w {op : D → Option P} {u : V} {cv : Value} (o : T.Ok X.K) (hop : ∀ dd z, op dd = some z → ∃ c fs ds b, dd = .exv c fs ds ∧ c ∈ T.cls ∧ z = .d (.bl b) ∧ PySem.W.kitOne X.K (.ref (He.ga X.K c)) cv = some b) (hu : ∀ w, RelV u w → w = cv) {σ : L2.St} {H : Hp} {Q : VK}
    (q : tD X.K τ W (xUn op f) σ H Q) : tD X.K τ W f σ H fun x H1 => rIsV X.K cv [x, u] H1 Q := by
  obtain ⟨Φ, ρ, sr, h⟩ := q
  refine ⟨Φ, ρ, sr, ee h fun r ρ1 x H1 s1 sr1 ra ha => ?_⟩
  cases e1 : rdI r ρ1 with
  | none => simp only [e1] at ha; exact ha.elim
  | some dd =>
    simp only [e1] at ha
    cases eo : op dd with
    | none => rw [eo] at ha; exact ha.elim
    | some z =>
      rw [eo] at ha
      obtain ⟨c, fs, ds, b, rfl, hc, rfl, hk⟩ := hop _ _ eo
      obtain ⟨a, vs, ev, t, dv⟩ := rd_exv (ra.rd sr1 e1)
      exact ⟨u, b, a, _, by rw [ev], hu, t.1.xv, o.cls c hc, hk, ha _ H1 ES.refl sr1 (by show DV _ _ _ _ _; simp only [DV])⟩
theorem d_isV (o : T.Ok X.K) (hgi : Gl X "isinstance") (hmi : X.mg "isinstance" = none) (hg : Gl X x) (hm : X.mg x = some (.ref (He.ga X.K x))) (he : PE X e (tD X.K τ W f)) (hdb : (x == ("__debug__" : Str)) = false := by decide)
    (h1 : starEach [e, .Name x p2] X.env = (false, eval e X.env) :: starEach [.Name x p2] X.env := by rfl) (h2 : (backTo cpos (starEach [.Name x p2] X.env)).any (·.1) = false := by rfl) :
    PE X (.Call (.Name "isinstance" p) [e, .Name x p2] [] cpos) (tD X.K τ W (xUn (opIsV T x) f)) :=
  PE.weak (pe_callB (call_isV (cv := .ref (He.ga X.K x))) hgi hmi (by decide +kernel) (pa_cons he (pa_cons (pe_glob (v := .ref (He.ga X.K x)) hg hm rfl hdb) pa_nil) h1) (by decide) (by decide) h1 h2) fun σ H Q q => by
    refine isV_w (u := .ref (He.ga X.K x)) (cv := .ref (He.ga X.K x)) o (fun dd z ez => ?_) (fun w r => r) q
    unfold opIsV at ez
    split at ez
    · split at ez
      · rename_i hq
        obtain ⟨b, eb, rfl⟩ := Option.map_eq_some_iff.mp ez
        exact ⟨_, _, _, b, rfl, by simpa using hq, rfl, (o.isSub eb).2⟩
      · cases ez
    · cases ez
theorem d_isVt {t : String} (o : T.Ok X.K) (hgi : Gl X "isinstance") (hmi : X.mg "isinstance" = none) (hg : Gl X x) (hm : X.mg x = none) (hv : bootBuiltins x = some (.type t))
    (he : PE X e (tD X.K τ W f)) (hn : x ≠ "__name__" := by decide) (hdb : (x == ("__debug__" : Str)) = false := by decide)
    (h1 : starEach [e, .Name x p2] X.env = (false, eval e X.env) :: starEach [.Name x p2] X.env := by rfl) (h2 : (backTo cpos (starEach [.Name x p2] X.env)).any (·.1) = false := by rfl) :
    PE X (.Call (.Name "isinstance" p) [e, .Name x p2] [] cpos) (tD X.K τ W (xUn (opIsVt T t) f)) :=
  PE.weak (pe_callB (call_isV (cv := .type t)) hgi hmi (by decide +kernel) (pa_cons he (pa_cons (pe_bltn (v := .ty t) hg hm hv rfl hn hdb) pa_nil) h1) (by decide) (by decide) h1 h2) fun σ H Q q => by
    refine isV_w (u := .ty t) (cv := .type t) o (fun dd z ez => ?_) (fun w r => r) q
    unfold opIsVt at ez
    split at ez
    · split at ez
      · rename_i hq
        obtain ⟨b, eb, rfl⟩ := Option.map_eq_some_iff.mp ez
        exact ⟨_, _, _, b, rfl, by simpa using hq, rfl, o.isBsub eb⟩
      · cases ez
    · cases ez
/-! ### its field -/
def opAtV (T : XT) (n : Str) : D → Option P
  | .exv c fs ds => if T.cls.contains c && T.isNo c n then ((fs.zip ds).lookup n).map P.d else none
  | _ => none
def rAtV (K : PySem.W.Frag) (n : Str) : V → Hp → VK → Prop := fun x H Q => ∃ (a C d : Addr) (fs : List (Str × V)) (v : V), x = .ref a ∧ H a = some (exo a C (some d)) ∧ H d = some (exd d fs) ∧ ExcF K C ∧ PySem.W.findIn K (.ref C) n = some none ∧ fs.lookup n = some v ∧ Q v H
theorem pe_atV {te : TE} (he : PE X e te) (hb : attributeBase e n X.env (eval e X.env) = eval e X.env := by rfl) : PE X (.Attribute e n pos) (tUn (rAtV X.K n) te) := by
  refine ⟨fun pins s σ H Q I h => ?_⟩
  refine attr_of hb (thn (he.run pins s σ H _ I h) fun u s1 hh => ?_)
  obtain ⟨x, H1, I1, rx, a, C, dd, fs, v, ex, ea, ed, F, hno, l, q⟩ := hh
  subst ex
  obtain rfl : u = Value.ref a := rx
  obtain ⟨t1, ha⟩ := exo_at I1.hok ea
  obtain ⟨mA, hns, hr⟩ := exd_at I1.hok ed
  obtain ⟨od, ho, hl⟩ := lookIn_ns hns
  obtain ⟨u, hu, ru⟩ := RelO.some_of (v := v) (o := mA n) (by rw [← l]; exact hr n)
  have J : PySem.W.InstAt s1.heap a _ C (some od) := ⟨ha, rfl, rfl, ho⟩
  exact HandSPX.exc_get I1.kIn J F.ga F.gt F.su (PySem.W.findObj_own F.hd hno rfl (by rw [hl, hu])) (handed_of ru) ⟨v, H1, I1.tok _, ru, q⟩
theorem pu_atV (o : T.Ok X.K) : PU X.K (rAtV X.K n) (opAtV T n) := by
  intro N H x d Q lv hx q
  unfold opAtV at q
  split at q
  · rename_i c fs ds
    split at q
    · rename_i hq
      simp only [Bool.and_eq_true] at hq
      obtain ⟨a, vs, ev, ⟨t, tl⟩, dv⟩ := rd_exv hx
      cases el : (fs.zip ds).lookup n with
      | none => rw [el] at q; exact q.elim
      | some z =>
        rw [el] at q
        obtain ⟨v, e2, dz⟩ := zip_look dv el
        rcases t.2 with ⟨e0, _⟩ | ⟨d, e1, e3, _⟩
        · subst e0
          simp at el
        · exact ⟨a, _, d, _, v, ev, e1, e3, o.cls c (by simpa using hq.1), o.isNo hq.2, e2, q v H .refl dz⟩
    · exact q.elim
  · exact q.elim
theorem d_atV (o : T.Ok X.K) (he : PE X e (tD X.K τ W f)) (hb : attributeBase e n X.env (eval e X.env) = eval e X.env := by rfl) : PE X (.Attribute e n pos) (tD X.K τ W (xUn (opAtV T n) f)) := d_un (pu_atV o) (pe_atV he hb)
end
/-! ### texts -/
def txtsOf : List D → Option (List Str)
  | [] => some []
  | .str x :: r => (txtsOf r).map (x :: ·)
  | _ :: _ => none
theorem txtsOf_dv {K : PySem.W.Frag} {H : Hp} {N : Addr → Prop} : ∀ {ds : List D} {vs : List V} {xs : List Str}, DVs K H N ds vs → txtsOf ds = some xs → vs = xs.map V.str
  | [], vs, xs, h, e => by simp only [DVs] at h; simp only [txtsOf, Option.some.injEq] at e; rw [h, ← e]; rfl
  | d :: r, vs, xs, h, e => by
    simp only [DVs] at h
    obtain ⟨v, ws, ev, h1, h2⟩ := h
    cases d with
    | str x =>
      simp only [txtsOf] at e
      obtain ⟨ys, e1, rfl⟩ := Option.map_eq_some_iff.mp e
      rw [ev, txtsOf_dv h2 e1, rd_str (K := K) (H := H) (N := N) h1]
      rfl
    | _ => simp [txtsOf] at e
theorem vals_str : ∀ {xs : List Str} {us : List Value}, Vals (xs.map V.str) us → ∃ l : List (Str × Tok), us = PySem.strValues l ∧ l.map (·.1) = xs
  | [], us, h => by cases h; exact ⟨[], rfl, rfl⟩
  | x :: xs, us, h => by
    cases h with
    | cons r t =>
      obtain ⟨tk, rfl⟩ := (show ∃ t, _ = Value.str x t from r)
      obtain ⟨l, rfl, rfl⟩ := vals_str t
      exact ⟨(x, tk) :: l, rfl, rfl⟩
def rJoin (K : PySem.W.Frag) : V → List V → Hp → VK → Prop := fun x xs H Q => ∃ (s : Str) (a : Addr) (ys : List Str), x = .str s ∧ xs = [.ref a] ∧ SqL K H a (ys.map V.str) ∧ JoinOk s ys = true ∧ Q (.str (Txt.join s ys)) H
theorem mt_join {X : Cx} : MtR X "str.join" (rJoin X.K) := by
  intro pins s σ H x xs v us Q I rx rxs h
  obtain ⟨sp, a, ys, rfl, rfl, hs, ok, q⟩ := h
  obtain ⟨tk, rfl⟩ := (show ∃ t, v = Value.str sp t from rx)
  cases rxs with
  | cons ry rt =>
    cases rt
    cases ry
    obtain ⟨its, rv, pl, _⟩ := I.list hs
    obtain ⟨l, el, em⟩ := vals_str rv
    have hl : s.heap.IsList a (PySem.strValues l).toArray := by rw [← el]; simpa using pl.isList
    exact PySem.SC.join hl em ok fun t' k => ⟨.str _, H, I.tok _, ⟨t', rfl⟩, q⟩
def opJoin : D → List D → Option P
  | .str s, [.lst xs] => (txtsOf xs).bind fun ys => if JoinOk s ys then some (.d (.str (Txt.join s ys))) else none
  | _, _ => none
theorem pm_join {K : PySem.W.Frag} : PM K (rJoin K) opJoin := by
  intro N H x xs d ds Q lv hx hxs q
  unfold opJoin at q
  split at q
  · rename_i s ys
    obtain ⟨y, e, hy⟩ := rds1' hxs
    obtain ⟨a, vs, e1, t, dv⟩ := rd_lst hy
    cases eb : txtsOf ys with
    | none => rw [eb] at q; exact q.elim
    | some zs =>
      rw [eb] at q
      simp only [Option.bind_some] at q
      split at q
      · rename_i ok
        exact ⟨s, a, zs, rd_str hx, by rw [e, e1], by rw [← txtsOf_dv dv eb]; exact SqL.of t, ok, q _ _ .refl dv_str⟩
      · exact q.elim
  · exact q.elim
section
variable {X : Cx} {W : WX} {o e : Expr} {es : List Expr} {f : M R} {ga : M (List R)} {apos cpos : Pos}
theorem m_join (ho : PE X o (tD X.K τ W f)) (ha : PA X (e :: es) (tA X.K τ W ga)) (hbase : attributeBase o "join" X.env (eval o X.env) = eval o X.env := by rfl)
    (hfew : ((backTo cpos (starEach (e :: es) X.env)).all (fun x => !x.1) && (backToKw cpos (keywordEach [] X.env)).all (fun x => x.1.isSome)
      && decide ((e :: es).length + ([] : List Keyword).length + (if ([] : List Keyword).isEmpty then 0 else 1) < 30)) = true := by rfl)
    (hline : (apos.endLine == cpos.line) = true := by rfl) (hs : starEach (e :: es) X.env = (false, eval e X.env) :: starEach es X.env := by rfl) (hplain : (backTo cpos (starEach es X.env)).any (·.1) = false := by rfl) :
    PE X (.Call (.Attribute o "join" apos) (e :: es) [] cpos) (tD X.K τ W (xMt "str" opJoin f ga)) := d_mt pm_join PySem.F.plainAttrs_str PySem.F.slot_str_join PySem.F.type_str_join mt_join ho ha hbase hfew hline hs hplain
end
end DL

/-! ## DJ -/
set_option Elab.async false
set_option linter.all false
set_option maxRecDepth 100000
set_option maxHeartbeats 4000000
/-! DJ: a lambda without parameters, handed to a def that tries it. -/
namespace DL
open PySem L2 PySem.Spec PyProof.Rows LamX
section
variable {X : Cx} {pins : List (Addr × Obj)} {σ : L2.St} {H : Hp} {s : Shared}
/-- one code object more in its table: what was tracked stays so -/
theorem more_code {T : List (Addr × Str)} {P c : Addr} {q : Str} {ps : Array Value} {l1 l2 : Value} (hP : H P = some (.tbl ps)) (ht : TriplesOk ps.toList) (nC : H c = none) (hT : Tabs T H) (hu : ∀ p ∈ T, p.1 = P → p.2 = q)
    (ha : ∀ (pos : Pos) (cv : Value), codeAmong pos ps.toList = some cv → ∃ c, cv = .ref c ∧ H c = some (CodeO c q)) {pos : Pos} :
    ExtN H (upd (upd H P (.tbl (ps ++ #[rawInt pos.line, rawInt pos.col, .ref c]))) c (CodeO c q)) ∧ (∀ a, H a ≠ none → upd (upd H P (.tbl (ps ++ #[rawInt pos.line, rawInt pos.col, .ref c]))) c (CodeO c q) a ≠ none) ∧
      Tabs T (upd (upd H P (.tbl (ps ++ #[rawInt pos.line, rawInt pos.col, .ref c]))) c (CodeO c q)) := by
  have other : ∀ b, b ≠ P → b ≠ c → upd (upd H P (.tbl (ps ++ #[rawInt pos.line, rawInt pos.col, .ref c]))) c (CodeO c q) b = H b := fun b h1 h2 => (upd_ne h2).trans (upd_ne h1)
  have ext : ExtN H (upd (upd H P (.tbl (ps ++ #[rawInt pos.line, rawInt pos.col, .ref c]))) c (CodeO c q)) := fun b o e n => by
    rw [other b (fun z => n ps (by rw [z, hP] at e; exact (Option.some.inj e).symm)) (ne_of_none e nC)]
    exact e
  refine ⟨ext, fun a h => ?_, fun p hp => ?_⟩
  · by_cases z : a = c
    · rw [z, upd_same]; intro y; cases y
    · rw [upd_ne z]
      by_cases z2 : a = P
      · rw [z2, upd_same]; intro y; cases y
      · rw [upd_ne z2]; exact h
  · obtain ⟨qs, b1, b2, b3⟩ := hT p hp
    by_cases z : p.1 = P
    · have ez := hu p hp z
      refine ⟨_, by rw [z, upd_ne (ne_of_none hP nC), upd_same], ?_, fun p' cv hcv => ?_⟩
      · simpa using PySem.TriplesOk_snoc _ _ _ _ ht
      · rw [ez]
        rcases among_app ps.toList ht (by simpa using hcv) with y | y
        · obtain ⟨c0, w1, w2⟩ := ha p' cv y
          exact ⟨c0, w1, ext _ _ w2 codeO_ne⟩
        · exact ⟨c, y, upd_same⟩
    · refine ⟨qs, by rw [other _ z (ne_of_none b1 nC)]; exact b1, b2, fun p' cv hcv => ?_⟩
      obtain ⟨c0, w1, w2⟩ := b3 p' cv hcv
      exact ⟨c0, w1, ext _ _ w2 codeO_ne⟩
/-- a lambda is made -/
theorem made_lam {T : List (Addr × Str)} {c P : Addr} {params : Arguments} {body : Expr} {scope : Scope} {pos : Pos} {E : Value → Shared → Prop} {Q : Value → Shared → Prop} (I : Inv X pins σ H s) (TB : TabB X.base X.mg c P) (hcode : X.env.code = .ref c)
    (hm : (P, X.env.qual ++ "<lambda>") ∈ T) (hu : ∀ p ∈ T, p.1 = P → p.2 = X.env.qual ++ "<lambda>") (hT : Tabs T H) (hdef : defaultsOf params X.env = ([], [])) (hfree : ∀ y ∈ scope.names, y.2 = .free → ∃ c, X.env.cells.lookup y.1 = some c)
    (h : ∀ (f c' : Addr) (pm ctv : Value) (H1 : Hp) (s' : Shared), Inv X pins σ H1 s' → ExtN H H1 → (∀ a, H a ≠ none → H1 a ≠ none) → Tabs T H1 →
      s'.heap.get? f = some (PySem.W.kla_obj "<lambda>" (X.env.qual ++ "<lambda>") params body scope (cloFrom X.env.cells scope.names []) pm c' ctv) → H1 f = none → f ∉ frs X.stack → H1 c' = some (CodeO c' (X.env.qual ++ "<lambda>")) → Q (.ref f) s') :
    wpAny (model X.prog X.w) X.A (eval (.Lambda params body scope pos) X.env) Q E s := by
  obtain ⟨ps, hP, ht, ha⟩ := hT _ hm
  have gP : s.heap.get? P = some { cls := .none, data := .fields ps } := I.hok P _ hP
  have away : ∀ f, s.heap.objs.size ≤ f → H f = none ∧ f ∉ frs X.stack := fun f hf => ⟨I.hok.fresh hf, fun z => by
    rcases List.mem_cons.mp (I.stkSub _ z) with e | e
    · have l := I.lt
      rw [← e] at l
      exact Nat.lt_irrefl _ (Nat.lt_of_lt_of_le l hf)
    · exact I.nofs hf e⟩
  refine PySem.W.kla_eval hdef ?_
  cases hc : codeAmong pos ps.toList with
  | some cv =>
    obtain ⟨c', rfl, hco⟩ := ha pos cv hc
    refine PySem.W.kla_makeFunctionHit (mg := X.mg) (c := c) (P := P) (ps := ps) (closure_ok hfree) I.ok.glob (I.mod.glob.keeps I.bk) hcode (TB.code.keeps I.bk) gP ht hc (TB.bm.keeps I.bk) fun ctv h' tk hx hsz => ?_
    exact h h'.objs.size c' _ ctv H _ (I.kept fun b o e => Heap.get?_push_of_some _ (hx b o e)) (.refl H) (fun _ z => z) hT (Heap.get?_push_size _ rfl) (away _ hsz).1 (away _ hsz).2 hco
  | none =>
    refine PySem.W.kla_makeFunction (mg := X.mg) (c := c) (P := P) (ps := ps) (closure_ok hfree) I.ok.glob (I.mod.glob.keeps I.bk) hcode (TB.code.keeps I.bk) gP ht hc TB.gP (TB.bm.keeps I.bk) fun c' ctv h' tk hx hge hlt hrec htb => ?_
    obtain ⟨_, oc, vs, t, e2, hoc, hd, hv⟩ := hrec
    cases e2
    have hsz : s.heap.objs.size ≤ h'.objs.size := Nat.le_trans hge (Nat.le_of_lt hlt)
    obtain ⟨x1, x2, x3⟩ := more_code (l1 := .none) (l2 := .none) (pos := pos) hP ht (I.hok.fresh hge) hT hu ha
    refine h h'.objs.size c' _ ctv _ _ (inv_table (t' := tk) I hP (fun b o hb e => Heap.get?_push_of_some _ (hx b o hb e)) (Heap.get?_push_of_some _ htb) hge ⟨oc, vs, t, Heap.get?_push_of_some _ hoc, hd, hv⟩) x1 x2 x3 (Heap.get?_push_size _ rfl) ?_ (away _ hsz).2 upd_same
    have lP := Heap.lt_size gP
    rw [upd_ne (Nat.ne_of_gt hlt), upd_ne (Nat.ne_of_gt (Nat.lt_of_lt_of_le lP hsz))]
    exact (away _ hsz).1
end
section
variable {X : Cx} {pins : List (Addr × Obj)} {σ : L2.St} {H : Hp} {s : Shared}
/-- the context of the def that was handed the lambda -/
abbrev gotX (X : Cx) (Ng : List Str) (x : Str) (sg : Scope) (g : Addr) (cdg : Value) (s : Shared) (H : Hp) : Cx := cxOf C8.CX0 X.prog X.w X.K X.mg X.base Ng x sg g cdg X.A X.stack s H C8.E0
/-- in that def: the lambda's own call -/
theorem lam_call {Ng : List Str} {xg : Str} {sg : Scope} {g f c' : Addr} {cdg pm ctv : Value} {params : Arguments} {body : Expr} {scope : Scope} {k i : Nat} {a : Str} {pn : List (Addr × Obj)} {xe : Value → Shared → Prop} {W : WX} {t : XK → TE} {p1 p2 : Pos}
    (I : Inv X pins σ H s) (L : LamS X.env.scope scope) (hf : s.heap.get? f = some (PySem.W.kla_obj "<lambda>" (X.env.qual ++ "<lambda>") params body scope (cloFrom X.env.cells scope.names []) pm c' ctv)) (hfn : H f = none) (hfr : f ∉ frs X.stack)
    (hbind : bindArgs (PySem.W.kla_fn "<lambda>" (X.env.qual ++ "<lambda>") params body scope (cloFrom X.env.cells scope.names []) pm (.ref c') ctv) ⟨[], []⟩ = pure [])
    (tk : Takes ((gotX X Ng xg sg g cdg s H).tr pn xe) W) (hr : Room (k + 1) (gotX X Ng xg sg g cdg s H).A) (hgd : (gotX X Ng xg sg g cdg s H).A.guards = some [])
    (hbody : ∀ (A : Around) (outer : List Env) (s : Shared) (H : Hp) (E : XK), Room k (A.deeper (lamEnv X scope s.heap.objs.size f c')) → A.guards = some [] → PE (lamCx X A outer s H E scope f c') body (t E))
    (hN : Ng[i]? = some a) (hv : Vis sg a) (hd : (a == ("__debug__" : Str)) = false) (hcd : (a == ("__classdict__" : Str)) = false) :
    PE ((gotX X Ng xg sg g cdg s H).tr pn xe) (.Call (.Name a p1) [] [] p2) (fun σZ HZ Q => σZ[i]? = some (some (.ref f)) ∧ HZ c' = some (CodeO c' (X.env.qual ++ "<lambda>")) ∧ t (fun cls d H' => W cls d σZ H') σ HZ Q) := by
  refine ⟨fun pinsZ sZ σZ HZ Q IZ ⟨hs, hc, ht⟩ => wpAny_Call_Name_kw (thn ((pe_var (pos := p1) (i := i) hN hv hd hcd).run pinsZ sZ σZ HZ (fun v H1 => v = .ref f ∧ H1 = HZ) IZ ⟨.ref f, hs, rfl, rfl⟩) ?_)⟩
  rintro u s1 ⟨v, H1, I1, r1, rfl, rfl⟩
  cases (show u = Value.ref f from r1)
  have here : s1.heap.get? f = some (PySem.W.kla_obj "<lambda>" (X.env.qual ++ "<lambda>") params body scope (cloFrom X.env.cells scope.names []) pm c' ctv) := I1.base.keep f _ hf hfn hfr (fun z => nomatch (show f ∈ ([] : List Addr) from z))
  obtain ⟨⟨oc, vs, tt, hoc, hdc, hvc⟩, _, _⟩ := I1.hok c' _ hc
  refine PySem.W.callWith_F0 ⟨_, _, _, _, here⟩ (wpAny_call (codeAny_mono (R := CR (L2.CX X.prog X.w) (gotX X Ng xg sg g cdg s H).stack X.prog X.w H1 s1 Q fun cls d H' => W cls d σZ H') ?_ fun r s' hq => ?_))
  · show codeAny _ _ (.call (.ref f) ⟨[], []⟩) _ _
    refine PySem.W.kla_callFunE hr.depth here rfl L.co L.gen rfl ⟨c', oc, vs, tt, rfl, hoc, hdc, hvc⟩ ?_
    rw [hbind]
    refine wpAny_pure (wpAny_newFunctionEnv (fun y hy => (L.own y hy).2) (fun y hy => absurd hy (by simp)) (fun h₁ hns hsb => ⟨I1.nolimit.fresh _ hsb, PySem.W.kla_codeExpr ?_⟩) L.kind)
    have kp : ∀ b o, s1.heap.get? b = some o → h₁.get? b = some o := fun b o e => hsb.extBut b o (Nat.ne_of_lt (Heap.lt_size e)) (Heap.get?_push_of_some _ e)
    refine wpAny_mono ((hbody (gotX X Ng xg sg g cdg s H).A (gotX X Ng xg sg g cdg s H).stack s1 H1 (fun cls d H' => W cls d σZ H') (hr.deeper _) hgd).run [] _ _ H1 Q (lam_start2 I L I1.env0 hr.hd I1.base hns kp) ht) (fun v s' ⟨w', H', J, rv, q⟩ => ⟨w', H', J.os, J.bare, J.base, J.hok, rv, q⟩) fun e s' z => z
  · rcases r with e | fl
    · exact tk e s' (XE.of_call I1 (fun _ _ _ z => z) hq)
    · rcases fl with _ | _ | _ | u <;> first | exact I1.after hq | exact False.elim hq
/-- what a def makes of the lambda that it is handed -/
def Gives (X : Cx) (Ng : List Str) (x : Str) (sg : Scope) (g : Addr) (cdg : Value) (bg : List Stmt) (a : Str) (q : Str) (TT : (XK → Hp → VK → Prop) → Hp → VK → Prop) : Prop :=
  ∀ (f c' : Addr) (s : Shared) (H : Hp) (Q : VK) (tl : XK → Hp → VK → Prop),
    (∀ (W : WX) (pn : List (Addr × Obj)) (xe : Value → Shared → Prop) (p1 p2 : Pos), Takes ((gotX X Ng x sg g cdg s H).tr pn xe) W →
      PE ((gotX X Ng x sg g cdg s H).tr pn xe) (.Call (.Name a p1) [] [] p2) (fun σZ HZ Q => σZ[0]? = some (some (.ref f)) ∧ HZ c' = some (CodeO c' q) ∧ tl (fun cls d H' => W cls d σZ H') HZ Q)) →
    (∀ (E E' : XK) (H : Hp) (Q Q' : VK), (∀ cls d H', E cls d H' → E' cls d H') → (∀ v H', Q v H' → Q' v H') → tl E H Q → tl E' H Q') →
    H c' = some (CodeO c' q) → TT tl H Q → ∃ t, PSs (gotX X Ng x sg g cdg s H).nox bg t ∧ t { nx := fun _ H' => Q .non H', rt := Q } (L2.start Ng [.ref f]) H
def tLam2 (T : List (Addr × Str)) (TT : (XK → Hp → VK → Prop) → Hp → VK → Prop) (t : XK → TE) : TE := fun σ H Q => Tabs T H ∧ ∀ H1, ExtN H H1 → (∀ a, H a ≠ none → H1 a ≠ none) → Tabs T H1 → TT (fun E H' Q' => t E σ H' Q') H1 Q
/-- x(lambda: body) -/
theorem pe_lam2 {T : List (Addr × Str)} {TT : (XK → Hp → VK → Prop) → Hp → VK → Prop} {x a : Str} {g c P : Addr} {k : Nat} {pg : Arguments} {bg : List Stmt} {sg : Scope} {dV kV doc pm cdv ct oc : Value} {an od : Option Addr} {osl : Array (Option Value)} {Ng : List Str}
    {params : Arguments} {body : Expr} {scope : Scope} {t : XK → TE} {p lpos pos : Pos} (hg : Gl X x) (hm : X.mg x = some (.ref g)) (hk : PySem.W.keepIn X.K (.ref g) = true)
    (lk : X.K.lookup g = some ⟨oc, od, .func (PySem.W.fnOf x x pg bg sg dV kV doc pm an cdv ct), osl⟩) (hcg : PySem.W.codeIn X.K cdv x = true) (hb : L2.Binds X.K (PySem.W.fnOf x x pg bg sg dV kV doc pm an cdv ct) [a] []) (Sg : FnScope Ng [a] sg) (hNg : Ng[0]? = some a) (hva : Vis sg a)
    (hG : Gives X Ng x sg g cdv bg a (X.env.qual ++ "<lambda>") TT)
    (TB : TabB X.base X.mg c P) (hcode : X.env.code = .ref c) (hmT : (P, X.env.qual ++ "<lambda>") ∈ T) (hu : ∀ p ∈ T, p.1 = P → p.2 = X.env.qual ++ "<lambda>") (hr : Room (k + 2) X.A) (hgd : X.A.guards = some []) (L : LamS X.env.scope scope) (hdef : defaultsOf params X.env = ([], []))
    (hbind : ∀ (q : Str) (cl : List (Str × Addr)) (pm cv ctv : Value), bindArgs (PySem.W.kla_fn "<lambda>" q params body scope cl pm cv ctv) ⟨[], []⟩ = pure [])
    (hbody : ∀ (A : Around) (outer : List Env) (s : Shared) (H : Hp) (E : XK) (f c' : Addr), Room k (A.deeper (lamEnv X scope s.heap.objs.size f c')) → A.guards = some [] → PE (lamCx X A outer s H E scope f c') body (t E))
    (hmono : ∀ (E E' : XK) (σ : L2.St) (H : Hp) (Q Q' : VK), (∀ cls d H', E cls d H' → E' cls d H') → (∀ v H', Q v H' → Q' v H') → t E σ H Q → t E' σ H Q')
    (hdb : (x == ("__debug__" : Str)) = false := by decide) (hd : (a == ("__debug__" : Str)) = false := by decide) (hcd : (a == ("__classdict__" : Str)) = false := by decide) :
    PE X (.Call (.Name x p) [.Lambda params body scope lpos] [] pos) (tLam2 T TT t) := by
  refine ⟨fun pins s σ H Q I ⟨hT, h⟩ => wpAny_Call_Name_kw (ld_glob I hg hm (PySem.W.callWith_K (h₀ := X.base) I.ok.mod.kin hk ?_ (by rfl) (by rfl)) hdb)⟩
  show wpAny _ _ (spliced ((false, eval (.Lambda params body scope lpos) X.env) :: backTo pos (starEach [] X.env))) _ _ s
  refine Calls.spliced_cons (made_lam I TB hcode hmT hu hT hdef (L.has I.ok) fun f c' pm' ctv H1 s' I1 eN tr T1 hf hfn hfr hco => Calls.spliced_nil ⟨I1.kIn, wpAny_call (codeAny_mono (R := CR C8.CX0 X.stack X.prog X.w H1 s' Q C8.E0) ?_ fun r s2 hq => ?_)⟩)
  · refine run_ofS (N := Ng) (ps := [a]) (us := [.ref f]) (vs := [.ref f]) lk hcg Sg hr I1.env0 (hb s' [.ref f] I1.kIn rfl) (.cons rfl .nil) rfl fun hr' => ?_
    obtain ⟨t', h1, h2⟩ := hG f c' s' H1 Q (fun E H' Q' => t E σ H' Q') (fun W pn xe p1 p2 tk => lam_call (i := 0) I1 L hf hfn hfr (hbind _ _ _ _ _) tk hr' hgd (fun A outer s H E r1 r2 => hbody A outer s H E f c' r1 r2) hNg hva hd hcd) (fun E E' H Q Q' => hmono E E' σ H Q Q') hco (h H1 eN tr T1)
    exact ⟨t', h1.nox, h2⟩
  · rcases r with e | fl
    · exact (show False from hq).elim
    · rcases fl with _ | _ | _ | u <;> first | exact I1.after hq | exact False.elim hq
end
/-! ### on cells -/
theorem tD_mono {K : PySem.W.Frag} {f : M R} (E E' : XK) (σ : L2.St) (H : Hp) (Q Q' : VK) (he : ∀ cls d H', E cls d H' → E' cls d H') (hq : ∀ v H', Q v H' → Q' v H') (h : tD K τ (wE E) f σ H Q) : tD K τ (wE E') f σ H Q' := by
  obtain ⟨Φ, ρ, sr, h⟩ := h
  refine ⟨Φ, ρ, sr, ?_⟩
  cases e : f ρ with
  | ok r ρ' => rw [e] at h; exact fun v H' a b c => hq _ _ (h v H' a b c)
  | er x ρ' => rw [e] at h; exact fun cls d H' a b c => he _ _ _ (h cls d H' a b c)
  | bad => rw [e] at h; exact h
/-- the end of a def that leaves no object behind -/
def GoodV (K : PySem.W.Frag) (τ : Tb) (Φ : Addr → Prop) (H : Hp) (Q : VK) : SO → Prop
  | .ret (.imm d) _ => ∀ v H', Keep (fun _ => False) H H' → (∀ a, H a ≠ none → H' a ≠ none) → Tabs τ H' → DV K H' Φ d v → Q v H'
  | _ => False
/-- what a trying def makes of a lambda: m, told the error, or none -/
def TTm (K : PySem.W.Frag) (τ : Tb) (m : Option Ex → SO) : (XK → Hp → VK → Prop) → Hp → VK → Prop := fun tl H Q =>
  tl (fun cls dd H' => ∃ Φ x, (∀ a, Φ a → Lv H' a) ∧ Tabs τ H' ∧ XV K H' Φ x cls dd ∧ GoodV K τ Φ H' Q (m (some x))) H fun _ H' => ∃ Φ, (∀ a, Φ a → Lv H' a) ∧ Tabs τ H' ∧ GoodV K τ Φ H' Q (m none)
/-- try: a() / except ..; rest -/
noncomputable def metF (T : XT) (l : List (Str × Option Nat × Suite)) (m : MS) (n : Nat) : Option Ex → SO
  | none => m (List.replicate n none)
  | some x => match tryGo T l x (List.replicate n none) with
    | .next ρ => m ρ
    | o => o
section
variable {K : PySem.W.Frag} {H : Hp} {Φ : Addr → Prop} {σ : L2.St} {n : Nat}
theorem no_own {a : Addr} : ¬ Own σ (List.replicate n none) a := fun ⟨j, o, e, _⟩ => by
  rw [List.getElem?_replicate] at e
  split at e <;> cases e
theorem sr_none (hl : σ.length = n) (lv : ∀ a, Φ a → Lv H a) (ht : Tabs τ H) : SR K τ H Φ σ (List.replicate n none) :=
  have no : ∀ {i : Nat} {c : Cell}, (List.replicate n (none : Option Cell))[i]? ≠ some (some c) := fun {i c} e => by
    rw [List.getElem?_replicate] at e
    split at e <;> cases e
  ⟨by simp [hl], fun i c e => (no e).elim, fun i j o u a e => (no e).elim, lv, ht⟩
theorem nn_none {a : Addr} (h : Nn Φ σ (List.replicate n none) a) : Φ a := h.elim id fun z => (no_own z).elim
/-- .. as a statement's end -/
theorem GoodV.s {Q : VK} {o : SO} {D : Ends} (hD : D.rt = Q) (h : GoodV K τ Φ H Q o) : GoodS K τ W0 [] Φ σ (List.replicate n none) H D o := by
  cases o with
  | ret r ρ =>
    cases r with
    | imm d => exact fun v σ' H' st sr rv => by rw [hD]; exact h v H' (fun b o e _ t => st.keep b o e no_own t) st.trk sr.tab (DV.keep (fun _ _ e _ _ => e) (fun a z => .inl (.inl z)) d v rv)
    | _ => exact h.elim
  | _ => exact h.elim
end
section
variable {X : Cx} {T : XT} {l : List (Str × Option Nat × Suite)} {m : MS} {n : Nat} {Ng : List Str} {x a q : Str} {sg : Scope} {g : Addr} {cdg : Value} {h₀ : ExceptHandler} {hds : List ExceptHandler} {rest : List Stmt} {p1 p2 p3 p4 : Pos}
theorem gives_try (o : T.Ok X.K) (hn : Ng.length = n) (hn0 : 0 < n) (hh : ∀ s H, HdsD (gotX X Ng x sg g cdg s H).nox τ [] T (h₀ :: hds) l) (hrest : ∀ s H, PSs (gotX X Ng x sg g cdg s H).nox rest (tS X.K τ W0 [] m))
    (hsw : ∀ s H, swapsWith (.Call (.Name a p1) [] [] p2) none p3.line (gotX X Ng x sg g cdg s H).env = pure false) :
    Gives X Ng x sg g cdg (.Try [.Expr (.Call (.Name a p1) [] [] p2) p3] (h₀ :: hds) [] [] p4 :: rest) a q (TTm X.K τ (metF T l m n)) := by
  intro f c' s H Q tl act mono hc hT
  obtain ⟨hds', hio⟩ := (hh s H).hds
  refine ⟨_, pss_cons (ps_tryC (X := (gotX X Ng x sg g cdg s H).nox) (Wo := W0) (tb := fun W D σ H => σ[0]? = some (some (V.ref f)) ∧ H c' = some (CodeO c' q) ∧ tl (fun cls d H' => W cls d σ H') H fun _ H' => D.nx σ H')
    rfl rfl takes_none5 (fun W pn xe tk _ => pss_one (PS.weak (ps_expr (X := (gotX X Ng x sg g cdg s H).tr pn xe) (act W pn xe p1 p2 tk) (hsw s H)) fun D σ H z => z)) hds') (hrest s H), ?_⟩
  have ln : (L2.start Ng [V.ref f]).length = n := by
    unfold L2.start
    simp
    omega
  refine ⟨rfl, hc, mono _ _ H _ _ (fun cls dd H' ⟨Φ, y, lv, tb, xv, gv⟩ => ?_) (fun _ H' ⟨Φ, lv, tb, gv⟩ => ?_) hT⟩
  · refine try_w (io := []) o hio (sr_none ln lv tb) (xv.less fun a z => nn_none z) ?_
    cases e : tryGo T l y (List.replicate n none) with
    | next ρ =>
      intro σ' H2 st sr
      refine ⟨Φ, ρ, sr, GoodS.shift ?_ st⟩
      have gv : GoodV X.K τ Φ H' Q (m ρ) := by simpa only [metF, e] using gv
      exact gv.s rfl
    | ret r ρ =>
      have gv : GoodV X.K τ Φ H' Q (.ret r ρ) := by simpa only [metF, e] using gv
      exact gv.s rfl
    | brk ρ => have gv : GoodV X.K τ Φ H' Q (.brk ρ) := by simpa only [metF, e] using gv
               exact gv.elim
    | cnt ρ => have gv : GoodV X.K τ Φ H' Q (.cnt ρ) := by simpa only [metF, e] using gv
               exact gv.elim
    | er z ρ => have gv : GoodV X.K τ Φ H' Q (.er z ρ) := by simpa only [metF, e] using gv
                exact gv.elim
    | bad => have gv : GoodV X.K τ Φ H' Q .bad := by simpa only [metF, e] using gv
             exact gv.elim
  · exact ⟨Φ, _, sr_none ln lv tb, gv.s rfl⟩
/-- the call of a trying def with a lambda, on the maker's cells -/
def xLam (f : M R) (m : Option Ex → SO) : M R := fun ρ => match f ρ with
  | .ok _ ρ' => match m none with
    | .ret (.imm d) _ => .ok (.imm d) ρ'
    | _ => .bad
  | .er x ρ' => match m (some x) with
    | .ret (.imm d) _ => .ok (.imm d) ρ'
    | _ => .bad
  | .bad => .bad
theorem lam_w {W : WX} {f : M R} {mm : Option Ex → SO} {σ : L2.St} {H : Hp} {Q : VK} (q : tD X.K τ W (xLam f mm) σ H Q) : tLam2 τ (TTm X.K τ mm) (fun E => tD X.K τ (wE E) f) σ H Q := by
  obtain ⟨Φ, ρ, sr, h⟩ := q
  refine ⟨sr.tab, fun H1 ex tr T1 => ?_⟩
  -- the maker's state, the lambda made
  have s0 : ES σ ρ H ρ H1 := ⟨fun b o e _ nt => ex b o e nt, tr, fun _ z => z, fun i o e => ⟨o, e⟩⟩
  have sr1 : SR X.K τ H1 Φ σ ρ := sr.same (io := []) s0.stp (fun a ⟨i, o, e1, e2⟩ => by
    obtain ⟨v, e3, b, ev, _, ov⟩ := sr.cell i _ e1
    rw [e2] at e3
    cases e3
    cases ev
    obtain ⟨u, e4, nt, _⟩ := ov.at
    rw [e4]
    exact ex _ _ e4 nt) T1
  -- the end, in the maker's state behind the lambda's body
  have fin : ∀ {d : D} {ρ' : Env'} {H2 : Hp}, ES σ ρ H1 ρ' H2 → SR X.K τ H2 Φ σ ρ' → GoodE X.K τ W Φ σ ρ H Q (.ok (.imm d) ρ') → ∀ v H3, Keep (fun _ => False) H2 H3 → (∀ a, H2 a ≠ none → H3 a ≠ none) → Tabs τ H3 → DV X.K H3 (Nn Φ σ ρ') d v → Q v H3 := fun {d ρ' H2} s2 sr2 hk v H3 kp t3 T3 dv => by
    have s3 : ES σ ρ' H2 ρ' H3 := ⟨fun b o e _ nt => kp b o e (fun z => z) nt, t3, fun _ z => z, fun i o e => ⟨o, e⟩⟩
    refine hk v H3 ((s0.trans s2).trans s3) (sr2.same (io := []) s3.stp (fun a ⟨i, o, e1, e2⟩ => ?_) T3) dv
    obtain ⟨v', e3, b, ev, _, ov⟩ := sr2.cell i _ e1
    rw [e2] at e3
    cases e3
    cases ev
    obtain ⟨u, e4, nt, _⟩ := ov.at
    rw [e4]
    exact kp _ _ e4 (fun z => z) nt
  refine ⟨Φ, ρ, sr1, ?_⟩
  unfold xLam at h
  cases e : f ρ with
  | bad => rw [e] at h; exact h
  | ok r ρ' =>
    rw [e] at h
    dsimp only at h
    intro v H2 s2 sr2 rv
    refine ⟨Nn Φ σ ρ', fun a z => sr2.nnLv z, sr2.tab, ?_⟩
    cases em : mm none with
    | ret r' ρ2 =>
      cases r' with
      | imm d => rw [em] at h; exact fin s2 sr2 h
      | _ => rw [em] at h; exact h.elim
    | _ => rw [em] at h; exact h.elim
  | er x ρ' =>
    rw [e] at h
    dsimp only at h
    intro cls dd H2 s2 sr2 xv
    refine ⟨Nn Φ σ ρ', x, fun a z => sr2.nnLv z, sr2.tab, xv, ?_⟩
    cases em : mm (some x) with
    | ret r' ρ2 =>
      cases r' with
      | imm d => rw [em] at h; exact fin s2 sr2 h
      | _ => rw [em] at h; exact h.elim
    | _ => rw [em] at h; exact h.elim
end
/-- the code object and the table of a def's lambdas -/
structure TabAt (K : PySem.W.Frag) (mg : Str → Option Value) (base : Heap) (τ : Tb) (cdv : Value) (q : Str) : Prop where
  at_ : ∃ c P, cdv = .ref c ∧ TabB base mg c P ∧ (P, q) ∈ τ ∧ ∀ p ∈ τ, p.1 = P → p.2 = q
section
variable {X : Cx} {x a : Str} {g : Addr} {k : Nat} {fg : FuncData} {pg : Arguments} {bg : List Stmt} {sg : Scope} {Ng : List Str} {params : Arguments} {body : Expr} {scope : Scope} {p lpos pos : Pos} {W : WX} {f : M R} {mm : Option Ex → SO}
theorem d_lam (hg : Gl X x) (hm : X.mg x = some (.ref g)) (hk : PySem.W.keepIn X.K (.ref g) = true) (F : FunD X.K x x pg bg sg [] [] g fg) (hb : L2.Binds X.K fg [a] []) (Sg : FnScope Ng [a] sg) (hNg : Ng[0]? = some a) (hva : Vis sg a)
    (hG : ∀ cdv, Gives X Ng x sg g cdv bg a (X.env.qual ++ "<lambda>") (TTm X.K τ mm)) (TA : TabAt X.K X.mg X.base τ X.env.code (X.env.qual ++ "<lambda>")) (hr : Room (k + 2) X.A) (hgd : X.A.guards = some []) (L : LamS X.env.scope scope) (hdef : defaultsOf params X.env = ([], []))
    (hbind : ∀ (q : Str) (cl : List (Str × Addr)) (pm cv ctv : Value), bindArgs (PySem.W.kla_fn "<lambda>" q params body scope cl pm cv ctv) ⟨[], []⟩ = pure [])
    (hbody : ∀ (A : Around) (outer : List Env) (s : Shared) (H : Hp) (E : XK) (f' c' : Addr), Room k (A.deeper (lamEnv X scope s.heap.objs.size f' c')) → A.guards = some [] → Takes (lamCx X A outer s H E scope f' c') (wE E) → PE (lamCx X A outer s H E scope f' c') body (tD X.K τ (wE E) f))
    (hdb : (x == ("__debug__" : Str)) = false := by decide) (hd : (a == ("__debug__" : Str)) = false := by decide) (hcd : (a == ("__classdict__" : Str)) = false := by decide) :
    PE X (.Call (.Name x p) [.Lambda params body scope lpos] [] pos) (tD X.K τ W (xLam f mm)) := by
  obtain ⟨oc, od, dV, kV, doc, pm, an, cdv, ct, osl, rfl, lk, hcd', _, _⟩ := F.ex
  obtain ⟨c, P, ec, TB, hmT, hu⟩ := TA.at_
  exact PE.weak (pe_lam2 (k := k) (t := fun E => tD X.K τ (wE E) f) hg hm hk lk hcd' hb Sg hNg hva (hG cdv) TB ec hmT hu hr hgd L hdef hbind (fun A outer s H E f' c' r1 r2 => hbody A outer s H E f' c' r1 r2 (takes_of rfl rfl rfl rfl)) (fun E E' σ H Q Q' => tD_mono E E' σ H Q Q') hdb hd hcd) fun σ H Q q => lam_w q
end
end DL

/-! ## DY -/
set_option Elab.async false
set_option linter.all false
set_option maxRecDepth 100000
set_option maxHeartbeats 4000000
/-! DY: the law's end: from the promise of the law's def to the statement. -/
namespace DL
open PySem L2 PySem.Spec LamX
open PyProof.Rows (AllBare)
/-- the tables of the defs tf that make lambdas -/
def tauOf (K : PySem.W.Frag) (tf : List He.Defn) : Tb := tf.map fun p => ((He.cT K p).2, p.1 ++ ".<locals>." ++ "<lambda>")
def tauB (K : PySem.W.Frag) (tf : List He.Defn) : Bool := tf.all fun p => tf.all fun r => decide ((He.cT K p).2 ≠ (He.cT K r).2) || decide (p.1 = r.1)
/-- what is known of the base heap -/
structure Bx (K : PySem.W.Frag) (mg : Str → Option Value) (base : Heap) (tf : List He.Defn) : Prop where
  sm : SysOk base
  tb : ∀ p ∈ tf, TabB base mg (He.cT K p).1 (He.cT K p).2
theorem tabAt_of {K : PySem.W.Frag} {mg : Str → Option Value} {base : Heap} {tf : List He.Defn} {x : Str} {cdv : Value} (b : Bx K mg base tf) (u : tauB K tf = true) (h : (x, none) ∈ tf) (c : CodeOf K (He.ga K x) cdv x) :
    TabAt K mg base (tauOf K tf) cdv (x ++ ".<locals>." ++ "<lambda>") := by
  obtain ⟨oc, od, fd, osl, lk, rfl, ci⟩ := c
  obtain ⟨c, ec⟩ := He.codeIn_ref ci
  have e1 : (He.cT K (x, none)).1 = c := He.codeOf_eq (p := (x, none)) lk ec
  refine ⟨c, (He.cT K (x, none)).2, ec, e1 ▸ b.tb _ h, List.mem_map.mpr ⟨_, h, rfl⟩, fun p hp e => ?_⟩
  obtain ⟨r, hr, rfl⟩ := List.mem_map.mp hp
  have z := List.all_eq_true.mp (List.all_eq_true.mp u r hr) _ h
  rw [Bool.or_eq_true] at z
  rcases z with z | z
  · exact absurd e (of_decide_eq_true z)
  · have z : r.1 = x := of_decide_eq_true z
    show r.1 ++ ".<locals>." ++ "<lambda>" = _
    rw [z]
section
variable {P : Program} {w : World} {K : PySem.W.Frag} {mg mb : Str → Option Value} {k : Nat} {fa a : Addr} {sp : Sp} {s₁ : Shared} {vs : List Value} {ns : List Int} {tf : List He.Defn}
/-- what is tracked when the law is called: the empty tables, and the script where it is not written -/
def hp0 (K : PySem.W.Frag) (tf : List He.Defn) (a : Addr) (o : Obj) (xs : List V) : Hp := fun b => if b ∈ tf.map (fun p => (He.cT K p).2) then some (.tbl #[]) else if b = a ∧ K.lookup a = none then some (.frz o (.lst xs)) else none
theorem hp0_cases {o : Obj} {xs : List V} {b : Addr} {u : HO} (h : hp0 K tf a o xs b = some u) : (b ∈ tf.map (fun p => (He.cT K p).2) ∧ u = .tbl #[]) ∨ (b = a ∧ K.lookup a = none ∧ u = .frz o (.lst xs)) := by
  unfold hp0 at h
  split at h
  · rename_i m; cases h; exact .inl ⟨m, rfl⟩
  · split at h
    · rename_i q; cases h; exact .inr ⟨q.1, q.2, rfl⟩
    · cases h
/-- THE HEAD -/
theorem law_callV (KX : K.In s₁.heap) (hns : s₁.heap.Ns mainGlobals mg) (hb : s₁.heap.Ns builtinsNs mb) (hbb : ∀ x : Str, x ≠ "__name__" → mb x = bootBuiltins x) (hlim : s₁.heap.NoLimit) (hg : s₁.gens = #[]) (hsm : ∃ mm, s₁.heap.Ns sysModules mm)
    (hT : ∀ p ∈ tf, s₁.heap.get? (He.cT K p).2 = some { cls := .none, data := .fields #[] }) (nT : ∀ p ∈ tf, K.lookup (He.cT K p).2 = none) (C : ∀ p ∈ tf, PySem.W.CodeHd s₁.heap (He.cT K p).1 (He.cT K p).2)
    (hbm : ∃ (bm : Addr) (ob : Obj), mg "__builtins__" = some (.ref bm) ∧ bm ≠ builtinsNs ∧ s₁.heap.get? bm = some ob ∧ ob.cls = .type "module" ∧ ob.dict = some builtinsNs ∧ ob.data = .plain)
    (ha : s₁.heap.get? a = some { cls := .type "list", data := .seq vs.toArray }) (hi : PyProof.Rows.IntsAre vs ns) (hl : ns.length ≤ sizeLine) (hr : Room k callerA)
    (F : ∀ base : Heap, K.In base → base.Ns mainGlobals mg → Bx K mg base tf → FnG P w K mg base k fa sp)
    (hsp : ∀ H : Hp, (∀ p ∈ tf, H (He.cT K p).2 = some (.tbl #[])) → (KLst K a (ns.map V.int) ∨ ∃ o, H a = some (.frz o (.lst (ns.map V.int)))) → sp [.ref a] H (fun v _ => v = .bl true) fun _ _ _ => False) :
    codeAny (model P w) callerA (.call (.ref fa) ⟨[.ref a], []⟩) (fun r s' => r = .ok (.ret (.bool true)) ∧ OldK s₁.heap s'.heap ∧ s'.os = s₁.os ∧ AllBare s'.gens) s₁ := by
  have rv := vals_ints hi
  have isT : ∀ b, b ∈ tf.map (fun p => (He.cT K p).2) → s₁.heap.get? b = some { cls := .none, data := .fields #[] } ∧ K.lookup b = none ∧ isCodeTable s₁.heap b := fun b hb => by
    obtain ⟨p, hp, rfl⟩ := List.mem_map.mp hb
    exact ⟨hT p hp, nT p hp, ((C p hp).tab (hT p hp)).isCodeTable⟩
  generalize hH : hp0 K tf a { cls := .type "list", data := .seq vs.toArray } (ns.map V.int) = H
  have cs : ∀ {b u}, H b = some u → (b ∈ tf.map (fun p => (He.cT K p).2) ∧ u = .tbl #[]) ∨ (b = a ∧ K.lookup a = none ∧ u = .frz { cls := .type "list", data := .seq vs.toArray } (.lst (ns.map V.int))) := fun {b u} e => hp0_cases (hH ▸ e)
  -- all but the script and the tables is untracked
  have free : ∀ {b : Addr} {o : Obj}, s₁.heap.get? b = some o → (∀ xs n, o.data ≠ .seq xs n) → o.data ≠ .fields #[] → H b = none := fun {b o} e h1 h2 => by
    cases q : H b with
    | none => rfl
    | some u =>
      rcases cs q with ⟨m, _⟩ | ⟨rfl, _⟩
      · rw [(isT b m).1] at e; cases e; exact (h2 rfl).elim
      · rw [ha] at e; cases e; exact (h1 _ _ rfl).elim
  have atT : ∀ p ∈ tf, H (He.cT K p).2 = some (.tbl #[]) := fun p hp => by
    rw [← hH]
    exact if_pos (List.mem_map.mpr ⟨p, hp, rfl⟩)
  have noT : a ∉ tf.map (fun p => (He.cT K p).2) := fun m => by
    have e := (isT a m).1
    rw [ha] at e
    cases e
  have hok : HOk P w H s₁.heap := fun b u e => by
    rcases cs e with ⟨m, rfl⟩ | ⟨rfl, _, rfl⟩
    · exact (isT b m).1
    · exact ⟨ha, by rw [List.length_map]; exact hl, vs, _, rv, ha⟩
  have ns_ : ∀ {b : Addr} {m : Str → Option Value}, s₁.heap.Ns b m → (hidT s₁.heap H).Ns b m := fun {b m} ⟨o, es, ep, e, d, r⟩ => ⟨o, es, ep, hidT_get e (free e (fun _ _ z => by rw [d] at z; cases z) fun z => by rw [d] at z; cases z), d, r⟩
  have kb : K.In (hidT s₁.heap H) := fun b o e => hidT_get (KX b o e) (by
    cases q : H b with
    | none => rfl
    | some u =>
      rcases cs q with ⟨m, _⟩ | ⟨rfl, n, _⟩
      · rw [(isT b m).2.1] at e; cases e
      · rw [n] at e; cases e)
  have md : Mod K mg (hidT s₁.heap H) := ⟨kb, ns_ hns, ⟨mb, ns_ hb, hbb⟩, let ⟨mc, h1, h2⟩ := hlim; ⟨mc, ns_ h1, h2⟩⟩
  have bx : Bx K mg (hidT s₁.heap H) tf := by
    refine ⟨let ⟨mm, h⟩ := hsm; let ⟨o, _, _, e, _⟩ := ns_ h; ⟨o, e⟩, fun p hp => ⟨?_, ?_, fun z => ?_⟩⟩
    · obtain ⟨o, us, file, t1, fl, t2, inF, text, t3, e1, r1, r2, r3, rest⟩ := C p hp
      exact ⟨o, us, file, t1, fl, t2, inF, text, t3, hidT_get e1 (free e1 (fun _ _ z => by rw [r2] at z; cases z) fun z => by rw [r2] at z; cases z; simp at r3), r1, r2, r3, rest⟩
    · obtain ⟨bm, ob, b1, b2, b3, b4, b5, b6⟩ := hbm
      refine ⟨bm, ob, b1, b2, fun q => ?_, fun q => ?_, hidT_get b3 (free b3 (fun _ _ z => by rw [b6] at z; cases z) fun z => by rw [b6] at z; cases z), b4, b5, b6⟩
      · obtain ⟨o, _, _, e, hd, _⟩ := hns
        rw [q, e] at b3; cases b3; rw [hd] at b6; cases b6
      · rw [q, hT p hp] at b3; cases b3; cases b6
    · obtain ⟨o, _, _, e, hd, _⟩ := hns
      rw [z, hT p hp] at e; cases e; cases hd
  have e0 : Env0 P w K mg (hidT s₁.heap H) callerA [] s₁ H := ⟨rfl, md, fun b o e => of_hidT e, Nat.le_of_eq (hidT_size _ _), trivial, fun b hb => absurd (show b ∈ ([] : List Addr) from hb) (by simp), hok, .of_eq hg⟩
  have sc : KLst K a (ns.map V.int) ∨ ∃ o, H a = some (.frz o (.lst (ns.map V.int))) := by
    cases hk : K.lookup a with
    | some o =>
      have e := KX a o hk
      rw [ha] at e
      cases e
      exact .inl ⟨_, vs.toArray, _, hk, rfl, rfl, rfl, by rw [List.size_toArray, hi.length]; exact hl, by simpa using rv⟩
    | none =>
      refine .inr ⟨{ cls := .type "list", data := .seq vs.toArray }, ?_⟩
      rw [← hH]
      exact (if_neg noT).trans (if_pos ⟨rfl, hk⟩)
  refine codeAny_mono (F _ kb (ns_ hns) bx callerA [] s₁ H [.ref a] [.ref a] _ _ hr rfl e0 (.cons rfl .nil) (hsp H atT sc)) fun r s' h => ?_
  rcases r with er | fl
  · obtain ⟨_, _, _, _, _, _, _, _, _, _, _, _, z⟩ := h
    exact z.elim
  · rcases fl with _ | _ | _ | u
    · exact False.elim h
    · exact False.elim h
    · exact False.elim h
    · obtain ⟨v, H', os, bare, un, hok', r', q⟩ := h
      cases (show v = V.bl true from q)
      cases (show u = Value.bool true from r')
      -- what stood stands, but for the tables, which grew
      have old : ∀ b o, s₁.heap.get? b = some o → s'.heap.get? b = some o ∨ (b ∈ tf.map (fun p => (He.cT K p).2) ∧ ∃ more : Array Value, s'.heap.get? b = some { cls := .none, data := .fields (#[] ++ more) }) := fun b o e => by
        cases q : H b with
        | none => exact .inl (un.keep b o e q (by intro z; exact absurd (show b ∈ ([] : List Addr) from z) (by simp)) (by simp))
        | some u =>
          rcases cs q with ⟨m, rfl⟩ | ⟨rfl, _, rfl⟩
          · obtain ⟨more, z⟩ := un.tbls b _ q
            exact .inr ⟨m, more, hok' b _ z⟩
          · obtain ⟨e2, _⟩ := hok' b _ (un.frzs b _ _ q)
            rw [ha] at e
            cases e
            exact .inl e2
      refine ⟨rfl, ⟨fun b o e => ?_, fun b o e => ?_⟩, os, bare⟩
      · rcases old b o e with z | ⟨m, more, z⟩
        · exact .inl z
        · obtain ⟨t1, _, t3⟩ := isT b m
          rw [t1] at e
          cases e
          exact .inr (.inl ⟨t3, rfl, #[], more, rfl, z⟩)
      · rcases old b o e with z | ⟨_, _, z⟩
        · exact ⟨o, z⟩
        · exact ⟨_, z⟩
end
/-- from the law's mirror: F gives the written part and the promise over every base -/
theorem walk_ofV {l : PySem.W.OpenLaw} {n k : Nat} {q : Program} {loose : List Str} {XP : (Str → Option Value) → Heap → Prop} {YP : World → Heap → Prop} {d : DefRec} {Fl : List Cell → FO} {tf : List He.Defn}
    (hn : l.most = some n) (hn2 : n ≤ sizeLine) (hdf : d.params.defaults = []) (hr : Room k callerA) (hsr : PyProof.Rows.importsNone q = true)
    (hF : ∀ (w : World) (mg : Str → Option Value) (fa : Addr) (h : Heap), YP w h → h.Ns mainGlobals mg → mg d.name = some (.ref fa) →
      ∃ (K : PySem.W.Frag), K.In h ∧ ((∀ p ∈ tf, h.get? (He.cT K p).2 = some { cls := .none, data := .fields #[] }) ∧ (∀ p ∈ tf, K.lookup (He.cT K p).2 = none) ∧ ∀ p ∈ tf, PySem.W.codeHdIn K (He.cT K p).1 (He.cT K p).2 = true) ∧
        ∀ base : Heap, K.In base → base.Ns mainGlobals mg → Bx K mg base tf → FnG l.prog w K mg base k fa (spD K (tauOf K tf) [Md.d] Fl))
    (hp : ∀ ns : List Int, ns.length ≤ n → (∀ i ∈ ns, Builtin.Int.intBits i ≤ 1048576) → Fl [.imm (.scr (ns.map D.int))] = .ok (.imm (.bl true)) []) :
    PySem.W.WalkO q loose XP YP l.row.toRowW d [] (fun f vs => PySem.call f vs) := by
  refine Att.attach_callB hn hdf fun w s₀ s₁ mg mb fa o pm cd doc a vs ns G Y ho hd hcd hmg hobj hints hlen hbits hg => ?_
  obtain ⟨K, KX, ⟨t1, t2, t3⟩, hF'⟩ := hF w mg fa _ Y G.T.g hmg
  refine law_callV KX G.T.g G.T.b G.T.builtins G.T.nolimit hg (let ⟨mm, z, _⟩ := (G.T.seer hsr).mods; ⟨mm, z⟩) t1 t2 (fun p hp => PySem.W.codeHd_of_K KX (t3 p hp)) G.T.bmain hobj hints (Nat.le_trans hlen hn2) hr hF' fun H hT hS => ?_
  have no : ∀ a, ¬ Own ([V.ref a].map some) ([Cell.imm (.scr (ns.map D.int))].map some) a := fun a ⟨j, o, e, _⟩ => by
    cases j with
    | zero => cases e
    | succ j => simp at e
  have dvI : ∀ (N : Addr → Prop) (l : List Int), DVs K H N (l.map D.int) (l.map V.int) := fun N l => by
    induction l with
    | nil => exact DVs.nil
    | cons i l ih => exact DVs.cons (by simp only [DV]) ih
  have sc : ∀ N : Addr → Prop, (∀ b, ¬ N b) → DV K H N (.scr (ns.map D.int)) (.ref a) := fun N hN => by
    simp only [DV]
    exact ⟨a, ns.map V.int, rfl, hS.elim .inr fun z => .inl ⟨z, hN a⟩, dvI N ns⟩
  have tabs : Tabs (tauOf K tf) H := fun p hp => by
    obtain ⟨r, hr, rfl⟩ := List.mem_map.mp hp
    exact TabS.nil (hT r hr)
  have emp : ∀ b, ¬ Nn (fun _ => False) ([V.ref a].map some) ([Cell.imm (.scr (ns.map D.int))].map some) b := fun b z => z.elim id fun ⟨j, o, e, _⟩ => by
    cases j with
    | zero => cases e
    | succ j => simp at e
  refine ⟨rfl, fun _ => False, [.imm (.scr (ns.map D.int))], rfl, ⟨rfl, fun i c e => ?_, fun i j o u b e => ?_, fun _ z => z.elim, tabs⟩, ?_⟩
  · cases i with
    | zero => cases e; exact ⟨.ref a, rfl, sc _ emp⟩
    | succ i => simp at e
  · cases i with
    | zero => cases e
    | succ i => simp at e
  · rw [hp ns hlen hbits]
    intro v H' _ _ _ rv
    simpa only [RVp, DV] using rv
end DL

/-! ## K89m -/
set_option Elab.async false
set_option linter.all false
set_option maxRecDepth 100000
set_option maxHeartbeats 0
namespace K89
open PySem L2 DL
noncomputable section
/-! the mirrors: what each def does to data -/
def XTT : XT := ⟨["DriveError", "InvalidModulus", "InvalidName", "InvalidVector", "InvalidMatrix", "InvalidPart", "InvalidDiagram", "InvalidEnds", "InvalidRecord", "InvalidGenerators", "InvalidBehaviour", "InvalidMachine", "InvalidOperation", "ParseError", "UnknownName", "InvalidNumber", "TooLarge", "NotDriving", "Impossible", "Conflict"], (([("DriveError", "DriveError", true), ("DriveError", "InvalidModulus", false), ("DriveError", "InvalidName", false), ("DriveError", "InvalidVector", false), ("DriveError", "InvalidMatrix", false), ("DriveError", "InvalidPart", false), ("DriveError", "InvalidDiagram", false), ("DriveError", "InvalidEnds", false), ("DriveError", "InvalidRecord", false), ("DriveError", "InvalidGenerators", false), ("DriveError", "InvalidBehaviour", false), ("DriveError", "InvalidMachine", false), ("DriveError", "InvalidOperation", false), ("DriveError", "ParseError", false), ("DriveError", "UnknownName", false), ("DriveError", "InvalidNumber", false), ("DriveError", "TooLarge", false), ("DriveError", "NotDriving", false), ("DriveError", "Impossible", false), ("DriveError", "Conflict", false), ("InvalidModulus", "DriveError", true), ("InvalidModulus", "InvalidModulus", true), ("InvalidModulus", "InvalidName", false), ("InvalidModulus", "InvalidVector", false), ("InvalidModulus", "InvalidMatrix", false), ("InvalidModulus", "InvalidPart", false), ("InvalidModulus", "InvalidDiagram", false), ("InvalidModulus", "InvalidEnds", false), ("InvalidModulus", "InvalidRecord", false), ("InvalidModulus", "InvalidGenerators", false)] : List (Str × Str × Bool)) ++ ([("InvalidModulus", "InvalidBehaviour", false), ("InvalidModulus", "InvalidMachine", false), ("InvalidModulus", "InvalidOperation", false), ("InvalidModulus", "ParseError", false), ("InvalidModulus", "UnknownName", false), ("InvalidModulus", "InvalidNumber", false), ("InvalidModulus", "TooLarge", false), ("InvalidModulus", "NotDriving", false), ("InvalidModulus", "Impossible", false), ("InvalidModulus", "Conflict", false), ("InvalidName", "DriveError", true), ("InvalidName", "InvalidModulus", false), ("InvalidName", "InvalidName", true), ("InvalidName", "InvalidVector", false), ("InvalidName", "InvalidMatrix", false), ("InvalidName", "InvalidPart", false), ("InvalidName", "InvalidDiagram", false), ("InvalidName", "InvalidEnds", false), ("InvalidName", "InvalidRecord", false), ("InvalidName", "InvalidGenerators", false), ("InvalidName", "InvalidBehaviour", false), ("InvalidName", "InvalidMachine", false), ("InvalidName", "InvalidOperation", false), ("InvalidName", "ParseError", false), ("InvalidName", "UnknownName", false), ("InvalidName", "InvalidNumber", false), ("InvalidName", "TooLarge", false), ("InvalidName", "NotDriving", false), ("InvalidName", "Impossible", false), ("InvalidName", "Conflict", false)] : List (Str × Str × Bool)) ++ ([("InvalidVector", "DriveError", true), ("InvalidVector", "InvalidModulus", false), ("InvalidVector", "InvalidName", false), ("InvalidVector", "InvalidVector", true), ("InvalidVector", "InvalidMatrix", false), ("InvalidVector", "InvalidPart", false), ("InvalidVector", "InvalidDiagram", false), ("InvalidVector", "InvalidEnds", false), ("InvalidVector", "InvalidRecord", false), ("InvalidVector", "InvalidGenerators", false), ("InvalidVector", "InvalidBehaviour", false), ("InvalidVector", "InvalidMachine", false), ("InvalidVector", "InvalidOperation", false), ("InvalidVector", "ParseError", false), ("InvalidVector", "UnknownName", false), ("InvalidVector", "InvalidNumber", false), ("InvalidVector", "TooLarge", false), ("InvalidVector", "NotDriving", false), ("InvalidVector", "Impossible", false), ("InvalidVector", "Conflict", false), ("InvalidMatrix", "DriveError", true), ("InvalidMatrix", "InvalidModulus", false), ("InvalidMatrix", "InvalidName", false), ("InvalidMatrix", "InvalidVector", false), ("InvalidMatrix", "InvalidMatrix", true), ("InvalidMatrix", "InvalidPart", false), ("InvalidMatrix", "InvalidDiagram", false), ("InvalidMatrix", "InvalidEnds", false), ("InvalidMatrix", "InvalidRecord", false), ("InvalidMatrix", "InvalidGenerators", false)] : List (Str × Str × Bool)) ++ ([("InvalidMatrix", "InvalidBehaviour", false), ("InvalidMatrix", "InvalidMachine", false), ("InvalidMatrix", "InvalidOperation", false), ("InvalidMatrix", "ParseError", false), ("InvalidMatrix", "UnknownName", false), ("InvalidMatrix", "InvalidNumber", false), ("InvalidMatrix", "TooLarge", false), ("InvalidMatrix", "NotDriving", false), ("InvalidMatrix", "Impossible", false), ("InvalidMatrix", "Conflict", false), ("InvalidPart", "DriveError", true), ("InvalidPart", "InvalidModulus", false), ("InvalidPart", "InvalidName", false), ("InvalidPart", "InvalidVector", false), ("InvalidPart", "InvalidMatrix", false), ("InvalidPart", "InvalidPart", true), ("InvalidPart", "InvalidDiagram", false), ("InvalidPart", "InvalidEnds", false), ("InvalidPart", "InvalidRecord", false), ("InvalidPart", "InvalidGenerators", false), ("InvalidPart", "InvalidBehaviour", false), ("InvalidPart", "InvalidMachine", false), ("InvalidPart", "InvalidOperation", false), ("InvalidPart", "ParseError", false), ("InvalidPart", "UnknownName", false), ("InvalidPart", "InvalidNumber", false), ("InvalidPart", "TooLarge", false), ("InvalidPart", "NotDriving", false), ("InvalidPart", "Impossible", false), ("InvalidPart", "Conflict", false)] : List (Str × Str × Bool)) ++ ([("InvalidDiagram", "DriveError", true), ("InvalidDiagram", "InvalidModulus", false), ("InvalidDiagram", "InvalidName", false), ("InvalidDiagram", "InvalidVector", false), ("InvalidDiagram", "InvalidMatrix", false), ("InvalidDiagram", "InvalidPart", false), ("InvalidDiagram", "InvalidDiagram", true), ("InvalidDiagram", "InvalidEnds", false), ("InvalidDiagram", "InvalidRecord", false), ("InvalidDiagram", "InvalidGenerators", false), ("InvalidDiagram", "InvalidBehaviour", false), ("InvalidDiagram", "InvalidMachine", false), ("InvalidDiagram", "InvalidOperation", false), ("InvalidDiagram", "ParseError", false), ("InvalidDiagram", "UnknownName", false), ("InvalidDiagram", "InvalidNumber", false), ("InvalidDiagram", "TooLarge", false), ("InvalidDiagram", "NotDriving", false), ("InvalidDiagram", "Impossible", false), ("InvalidDiagram", "Conflict", false), ("InvalidEnds", "DriveError", true), ("InvalidEnds", "InvalidModulus", false), ("InvalidEnds", "InvalidName", false), ("InvalidEnds", "InvalidVector", false), ("InvalidEnds", "InvalidMatrix", false), ("InvalidEnds", "InvalidPart", false), ("InvalidEnds", "InvalidDiagram", false), ("InvalidEnds", "InvalidEnds", true), ("InvalidEnds", "InvalidRecord", false), ("InvalidEnds", "InvalidGenerators", false)] : List (Str × Str × Bool)) ++ ([("InvalidEnds", "InvalidBehaviour", false), ("InvalidEnds", "InvalidMachine", false), ("InvalidEnds", "InvalidOperation", false), ("InvalidEnds", "ParseError", false), ("InvalidEnds", "UnknownName", false), ("InvalidEnds", "InvalidNumber", false), ("InvalidEnds", "TooLarge", false), ("InvalidEnds", "NotDriving", false), ("InvalidEnds", "Impossible", false), ("InvalidEnds", "Conflict", false), ("InvalidRecord", "DriveError", true), ("InvalidRecord", "InvalidModulus", false), ("InvalidRecord", "InvalidName", false), ("InvalidRecord", "InvalidVector", false), ("InvalidRecord", "InvalidMatrix", false), ("InvalidRecord", "InvalidPart", false), ("InvalidRecord", "InvalidDiagram", false), ("InvalidRecord", "InvalidEnds", false), ("InvalidRecord", "InvalidRecord", true), ("InvalidRecord", "InvalidGenerators", false), ("InvalidRecord", "InvalidBehaviour", false), ("InvalidRecord", "InvalidMachine", false), ("InvalidRecord", "InvalidOperation", false), ("InvalidRecord", "ParseError", false), ("InvalidRecord", "UnknownName", false), ("InvalidRecord", "InvalidNumber", false), ("InvalidRecord", "TooLarge", false), ("InvalidRecord", "NotDriving", false), ("InvalidRecord", "Impossible", false), ("InvalidRecord", "Conflict", false)] : List (Str × Str × Bool)) ++ ([("InvalidGenerators", "DriveError", true), ("InvalidGenerators", "InvalidModulus", false), ("InvalidGenerators", "InvalidName", false), ("InvalidGenerators", "InvalidVector", false), ("InvalidGenerators", "InvalidMatrix", false), ("InvalidGenerators", "InvalidPart", false), ("InvalidGenerators", "InvalidDiagram", false), ("InvalidGenerators", "InvalidEnds", false), ("InvalidGenerators", "InvalidRecord", false), ("InvalidGenerators", "InvalidGenerators", true), ("InvalidGenerators", "InvalidBehaviour", false), ("InvalidGenerators", "InvalidMachine", false), ("InvalidGenerators", "InvalidOperation", false), ("InvalidGenerators", "ParseError", false), ("InvalidGenerators", "UnknownName", false), ("InvalidGenerators", "InvalidNumber", false), ("InvalidGenerators", "TooLarge", false), ("InvalidGenerators", "NotDriving", false), ("InvalidGenerators", "Impossible", false), ("InvalidGenerators", "Conflict", false), ("InvalidBehaviour", "DriveError", true), ("InvalidBehaviour", "InvalidModulus", false), ("InvalidBehaviour", "InvalidName", false), ("InvalidBehaviour", "InvalidVector", false), ("InvalidBehaviour", "InvalidMatrix", false), ("InvalidBehaviour", "InvalidPart", false), ("InvalidBehaviour", "InvalidDiagram", false), ("InvalidBehaviour", "InvalidEnds", false), ("InvalidBehaviour", "InvalidRecord", false), ("InvalidBehaviour", "InvalidGenerators", false)] : List (Str × Str × Bool)) ++ ([("InvalidBehaviour", "InvalidBehaviour", true), ("InvalidBehaviour", "InvalidMachine", false), ("InvalidBehaviour", "InvalidOperation", false), ("InvalidBehaviour", "ParseError", false), ("InvalidBehaviour", "UnknownName", false), ("InvalidBehaviour", "InvalidNumber", false), ("InvalidBehaviour", "TooLarge", false), ("InvalidBehaviour", "NotDriving", false), ("InvalidBehaviour", "Impossible", false), ("InvalidBehaviour", "Conflict", false), ("InvalidMachine", "DriveError", true), ("InvalidMachine", "InvalidModulus", false), ("InvalidMachine", "InvalidName", false), ("InvalidMachine", "InvalidVector", false), ("InvalidMachine", "InvalidMatrix", false), ("InvalidMachine", "InvalidPart", false), ("InvalidMachine", "InvalidDiagram", false), ("InvalidMachine", "InvalidEnds", false), ("InvalidMachine", "InvalidRecord", false), ("InvalidMachine", "InvalidGenerators", false), ("InvalidMachine", "InvalidBehaviour", false), ("InvalidMachine", "InvalidMachine", true), ("InvalidMachine", "InvalidOperation", false), ("InvalidMachine", "ParseError", false), ("InvalidMachine", "UnknownName", false), ("InvalidMachine", "InvalidNumber", false), ("InvalidMachine", "TooLarge", false), ("InvalidMachine", "NotDriving", false), ("InvalidMachine", "Impossible", false), ("InvalidMachine", "Conflict", false)] : List (Str × Str × Bool)) ++ ([("InvalidOperation", "DriveError", true), ("InvalidOperation", "InvalidModulus", false), ("InvalidOperation", "InvalidName", false), ("InvalidOperation", "InvalidVector", false), ("InvalidOperation", "InvalidMatrix", false), ("InvalidOperation", "InvalidPart", false), ("InvalidOperation", "InvalidDiagram", false), ("InvalidOperation", "InvalidEnds", false), ("InvalidOperation", "InvalidRecord", false), ("InvalidOperation", "InvalidGenerators", false), ("InvalidOperation", "InvalidBehaviour", false), ("InvalidOperation", "InvalidMachine", false), ("InvalidOperation", "InvalidOperation", true), ("InvalidOperation", "ParseError", false), ("InvalidOperation", "UnknownName", false), ("InvalidOperation", "InvalidNumber", false), ("InvalidOperation", "TooLarge", false), ("InvalidOperation", "NotDriving", false), ("InvalidOperation", "Impossible", false), ("InvalidOperation", "Conflict", false), ("ParseError", "DriveError", true), ("ParseError", "InvalidModulus", false), ("ParseError", "InvalidName", false), ("ParseError", "InvalidVector", false), ("ParseError", "InvalidMatrix", false), ("ParseError", "InvalidPart", false), ("ParseError", "InvalidDiagram", false), ("ParseError", "InvalidEnds", false), ("ParseError", "InvalidRecord", false), ("ParseError", "InvalidGenerators", false)] : List (Str × Str × Bool)) ++ ([("ParseError", "InvalidBehaviour", false), ("ParseError", "InvalidMachine", false), ("ParseError", "InvalidOperation", false), ("ParseError", "ParseError", true), ("ParseError", "UnknownName", false), ("ParseError", "InvalidNumber", false), ("ParseError", "TooLarge", false), ("ParseError", "NotDriving", false), ("ParseError", "Impossible", false), ("ParseError", "Conflict", false), ("UnknownName", "DriveError", false), ("UnknownName", "InvalidModulus", false), ("UnknownName", "InvalidName", false), ("UnknownName", "InvalidVector", false), ("UnknownName", "InvalidMatrix", false), ("UnknownName", "InvalidPart", false), ("UnknownName", "InvalidDiagram", false), ("UnknownName", "InvalidEnds", false), ("UnknownName", "InvalidRecord", false), ("UnknownName", "InvalidGenerators", false), ("UnknownName", "InvalidBehaviour", false), ("UnknownName", "InvalidMachine", false), ("UnknownName", "InvalidOperation", false), ("UnknownName", "ParseError", false), ("UnknownName", "UnknownName", true), ("UnknownName", "InvalidNumber", false), ("UnknownName", "TooLarge", false), ("UnknownName", "NotDriving", false), ("UnknownName", "Impossible", false), ("UnknownName", "Conflict", false)] : List (Str × Str × Bool)) ++ ([("InvalidNumber", "DriveError", false), ("InvalidNumber", "InvalidModulus", false), ("InvalidNumber", "InvalidName", false), ("InvalidNumber", "InvalidVector", false), ("InvalidNumber", "InvalidMatrix", false), ("InvalidNumber", "InvalidPart", false), ("InvalidNumber", "InvalidDiagram", false), ("InvalidNumber", "InvalidEnds", false), ("InvalidNumber", "InvalidRecord", false), ("InvalidNumber", "InvalidGenerators", false), ("InvalidNumber", "InvalidBehaviour", false), ("InvalidNumber", "InvalidMachine", false), ("InvalidNumber", "InvalidOperation", false), ("InvalidNumber", "ParseError", false), ("InvalidNumber", "UnknownName", false), ("InvalidNumber", "InvalidNumber", true), ("InvalidNumber", "TooLarge", false), ("InvalidNumber", "NotDriving", false), ("InvalidNumber", "Impossible", false), ("InvalidNumber", "Conflict", false), ("TooLarge", "DriveError", false), ("TooLarge", "InvalidModulus", false), ("TooLarge", "InvalidName", false), ("TooLarge", "InvalidVector", false), ("TooLarge", "InvalidMatrix", false), ("TooLarge", "InvalidPart", false), ("TooLarge", "InvalidDiagram", false), ("TooLarge", "InvalidEnds", false), ("TooLarge", "InvalidRecord", false), ("TooLarge", "InvalidGenerators", false)] : List (Str × Str × Bool)) ++ ([("TooLarge", "InvalidBehaviour", false), ("TooLarge", "InvalidMachine", false), ("TooLarge", "InvalidOperation", false), ("TooLarge", "ParseError", false), ("TooLarge", "UnknownName", false), ("TooLarge", "InvalidNumber", false), ("TooLarge", "TooLarge", true), ("TooLarge", "NotDriving", false), ("TooLarge", "Impossible", false), ("TooLarge", "Conflict", false), ("NotDriving", "DriveError", false), ("NotDriving", "InvalidModulus", false), ("NotDriving", "InvalidName", false), ("NotDriving", "InvalidVector", false), ("NotDriving", "InvalidMatrix", false), ("NotDriving", "InvalidPart", false), ("NotDriving", "InvalidDiagram", false), ("NotDriving", "InvalidEnds", false), ("NotDriving", "InvalidRecord", false), ("NotDriving", "InvalidGenerators", false), ("NotDriving", "InvalidBehaviour", false), ("NotDriving", "InvalidMachine", false), ("NotDriving", "InvalidOperation", false), ("NotDriving", "ParseError", false), ("NotDriving", "UnknownName", false), ("NotDriving", "InvalidNumber", false), ("NotDriving", "TooLarge", false), ("NotDriving", "NotDriving", true), ("NotDriving", "Impossible", false), ("NotDriving", "Conflict", false)] : List (Str × Str × Bool)) ++ ([("Impossible", "DriveError", false), ("Impossible", "InvalidModulus", false), ("Impossible", "InvalidName", false), ("Impossible", "InvalidVector", false), ("Impossible", "InvalidMatrix", false), ("Impossible", "InvalidPart", false), ("Impossible", "InvalidDiagram", false), ("Impossible", "InvalidEnds", false), ("Impossible", "InvalidRecord", false), ("Impossible", "InvalidGenerators", false), ("Impossible", "InvalidBehaviour", false), ("Impossible", "InvalidMachine", false), ("Impossible", "InvalidOperation", false), ("Impossible", "ParseError", false), ("Impossible", "UnknownName", false), ("Impossible", "InvalidNumber", false), ("Impossible", "TooLarge", false), ("Impossible", "NotDriving", false), ("Impossible", "Impossible", true), ("Impossible", "Conflict", false), ("Conflict", "DriveError", false), ("Conflict", "InvalidModulus", false), ("Conflict", "InvalidName", false), ("Conflict", "InvalidVector", false), ("Conflict", "InvalidMatrix", false), ("Conflict", "InvalidPart", false), ("Conflict", "InvalidDiagram", false), ("Conflict", "InvalidEnds", false), ("Conflict", "InvalidRecord", false), ("Conflict", "InvalidGenerators", false)] : List (Str × Str × Bool)) ++ ([("Conflict", "InvalidBehaviour", false), ("Conflict", "InvalidMachine", false), ("Conflict", "InvalidOperation", false), ("Conflict", "ParseError", false), ("Conflict", "UnknownName", false), ("Conflict", "InvalidNumber", false), ("Conflict", "TooLarge", false), ("Conflict", "NotDriving", false), ("Conflict", "Impossible", false), ("Conflict", "Conflict", true)] : List (Str × Str × Bool))), (([("DriveError", "ArithmeticError", false), ("DriveError", "IndexError", false), ("DriveError", "KeyError", false), ("DriveError", "LookupError", false), ("DriveError", "OverflowError", false), ("DriveError", "RuntimeError", false), ("DriveError", "ValueError", true), ("InvalidModulus", "ArithmeticError", false), ("InvalidModulus", "IndexError", false), ("InvalidModulus", "KeyError", false), ("InvalidModulus", "LookupError", false), ("InvalidModulus", "OverflowError", false), ("InvalidModulus", "RuntimeError", false), ("InvalidModulus", "ValueError", true), ("InvalidName", "ArithmeticError", false), ("InvalidName", "IndexError", false), ("InvalidName", "KeyError", false), ("InvalidName", "LookupError", false), ("InvalidName", "OverflowError", false), ("InvalidName", "RuntimeError", false), ("InvalidName", "ValueError", true), ("InvalidVector", "ArithmeticError", false), ("InvalidVector", "IndexError", false), ("InvalidVector", "KeyError", false), ("InvalidVector", "LookupError", false), ("InvalidVector", "OverflowError", false), ("InvalidVector", "RuntimeError", false), ("InvalidVector", "ValueError", true), ("InvalidMatrix", "ArithmeticError", false), ("InvalidMatrix", "IndexError", false)] : List (Str × String × Bool)) ++ ([("InvalidMatrix", "KeyError", false), ("InvalidMatrix", "LookupError", false), ("InvalidMatrix", "OverflowError", false), ("InvalidMatrix", "RuntimeError", false), ("InvalidMatrix", "ValueError", true), ("InvalidPart", "ArithmeticError", false), ("InvalidPart", "IndexError", false), ("InvalidPart", "KeyError", false), ("InvalidPart", "LookupError", false), ("InvalidPart", "OverflowError", false), ("InvalidPart", "RuntimeError", false), ("InvalidPart", "ValueError", true), ("InvalidDiagram", "ArithmeticError", false), ("InvalidDiagram", "IndexError", false), ("InvalidDiagram", "KeyError", false), ("InvalidDiagram", "LookupError", false), ("InvalidDiagram", "OverflowError", false), ("InvalidDiagram", "RuntimeError", false), ("InvalidDiagram", "ValueError", true), ("InvalidEnds", "ArithmeticError", false), ("InvalidEnds", "IndexError", false), ("InvalidEnds", "KeyError", false), ("InvalidEnds", "LookupError", false), ("InvalidEnds", "OverflowError", false), ("InvalidEnds", "RuntimeError", false), ("InvalidEnds", "ValueError", true), ("InvalidRecord", "ArithmeticError", false), ("InvalidRecord", "IndexError", false), ("InvalidRecord", "KeyError", false), ("InvalidRecord", "LookupError", false)] : List (Str × String × Bool)) ++ ([("InvalidRecord", "OverflowError", false), ("InvalidRecord", "RuntimeError", false), ("InvalidRecord", "ValueError", true), ("InvalidGenerators", "ArithmeticError", false), ("InvalidGenerators", "IndexError", false), ("InvalidGenerators", "KeyError", false), ("InvalidGenerators", "LookupError", false), ("InvalidGenerators", "OverflowError", false), ("InvalidGenerators", "RuntimeError", false), ("InvalidGenerators", "ValueError", true), ("InvalidBehaviour", "ArithmeticError", false), ("InvalidBehaviour", "IndexError", false), ("InvalidBehaviour", "KeyError", false), ("InvalidBehaviour", "LookupError", false), ("InvalidBehaviour", "OverflowError", false), ("InvalidBehaviour", "RuntimeError", false), ("InvalidBehaviour", "ValueError", true), ("InvalidMachine", "ArithmeticError", false), ("InvalidMachine", "IndexError", false), ("InvalidMachine", "KeyError", false), ("InvalidMachine", "LookupError", false), ("InvalidMachine", "OverflowError", false), ("InvalidMachine", "RuntimeError", false), ("InvalidMachine", "ValueError", true), ("InvalidOperation", "ArithmeticError", false), ("InvalidOperation", "IndexError", false), ("InvalidOperation", "KeyError", false), ("InvalidOperation", "LookupError", false), ("InvalidOperation", "OverflowError", false), ("InvalidOperation", "RuntimeError", false)] : List (Str × String × Bool)) ++ ([("InvalidOperation", "ValueError", true), ("ParseError", "ArithmeticError", false), ("ParseError", "IndexError", false), ("ParseError", "KeyError", false), ("ParseError", "LookupError", false), ("ParseError", "OverflowError", false), ("ParseError", "RuntimeError", false), ("ParseError", "ValueError", true), ("UnknownName", "ArithmeticError", false), ("UnknownName", "IndexError", false), ("UnknownName", "KeyError", true), ("UnknownName", "LookupError", true), ("UnknownName", "OverflowError", false), ("UnknownName", "RuntimeError", false), ("UnknownName", "ValueError", false), ("InvalidNumber", "ArithmeticError", false), ("InvalidNumber", "IndexError", true), ("InvalidNumber", "KeyError", false), ("InvalidNumber", "LookupError", true), ("InvalidNumber", "OverflowError", false), ("InvalidNumber", "RuntimeError", false), ("InvalidNumber", "ValueError", false), ("TooLarge", "ArithmeticError", true), ("TooLarge", "IndexError", false), ("TooLarge", "KeyError", false), ("TooLarge", "LookupError", false), ("TooLarge", "OverflowError", true), ("TooLarge", "RuntimeError", false), ("TooLarge", "ValueError", false), ("NotDriving", "ArithmeticError", true)] : List (Str × String × Bool)) ++ ([("NotDriving", "IndexError", false), ("NotDriving", "KeyError", false), ("NotDriving", "LookupError", false), ("NotDriving", "OverflowError", false), ("NotDriving", "RuntimeError", false), ("NotDriving", "ValueError", false), ("Impossible", "ArithmeticError", false), ("Impossible", "IndexError", false), ("Impossible", "KeyError", false), ("Impossible", "LookupError", false), ("Impossible", "OverflowError", false), ("Impossible", "RuntimeError", true), ("Impossible", "ValueError", false), ("Conflict", "ArithmeticError", false), ("Conflict", "IndexError", false), ("Conflict", "KeyError", false), ("Conflict", "LookupError", true), ("Conflict", "OverflowError", false), ("Conflict", "RuntimeError", false), ("Conflict", "ValueError", false)] : List (Str × String × Bool))), (([("DriveError", "limit"), ("DriveError", "name"), ("DriveError", "paper"), ("DriveError", "time"), ("DriveError", "value"), ("InvalidModulus", "limit"), ("InvalidModulus", "name"), ("InvalidModulus", "paper"), ("InvalidModulus", "time"), ("InvalidModulus", "value"), ("InvalidName", "limit"), ("InvalidName", "name"), ("InvalidName", "paper"), ("InvalidName", "time"), ("InvalidName", "value"), ("InvalidVector", "limit"), ("InvalidVector", "name"), ("InvalidVector", "paper"), ("InvalidVector", "time"), ("InvalidVector", "value"), ("InvalidMatrix", "limit"), ("InvalidMatrix", "name"), ("InvalidMatrix", "paper"), ("InvalidMatrix", "time"), ("InvalidMatrix", "value"), ("InvalidPart", "limit"), ("InvalidPart", "name"), ("InvalidPart", "paper"), ("InvalidPart", "time"), ("InvalidPart", "value")] : List (Str × Str)) ++ ([("InvalidDiagram", "limit"), ("InvalidDiagram", "name"), ("InvalidDiagram", "paper"), ("InvalidDiagram", "time"), ("InvalidDiagram", "value"), ("InvalidEnds", "limit"), ("InvalidEnds", "name"), ("InvalidEnds", "paper"), ("InvalidEnds", "time"), ("InvalidEnds", "value"), ("InvalidRecord", "limit"), ("InvalidRecord", "name"), ("InvalidRecord", "paper"), ("InvalidRecord", "time"), ("InvalidRecord", "value"), ("InvalidGenerators", "limit"), ("InvalidGenerators", "name"), ("InvalidGenerators", "paper"), ("InvalidGenerators", "time"), ("InvalidGenerators", "value"), ("InvalidBehaviour", "limit"), ("InvalidBehaviour", "name"), ("InvalidBehaviour", "paper"), ("InvalidBehaviour", "time"), ("InvalidBehaviour", "value"), ("InvalidMachine", "limit"), ("InvalidMachine", "name"), ("InvalidMachine", "paper"), ("InvalidMachine", "time"), ("InvalidMachine", "value")] : List (Str × Str)) ++ ([("InvalidOperation", "limit"), ("InvalidOperation", "name"), ("InvalidOperation", "paper"), ("InvalidOperation", "time"), ("InvalidOperation", "value"), ("ParseError", "limit"), ("ParseError", "name"), ("ParseError", "paper"), ("ParseError", "time"), ("ParseError", "value"), ("UnknownName", "limit"), ("UnknownName", "name"), ("UnknownName", "paper"), ("UnknownName", "time"), ("UnknownName", "value"), ("InvalidNumber", "limit"), ("InvalidNumber", "name"), ("InvalidNumber", "paper"), ("InvalidNumber", "time"), ("InvalidNumber", "value"), ("TooLarge", "limit"), ("TooLarge", "name"), ("TooLarge", "paper"), ("TooLarge", "time"), ("TooLarge", "value"), ("NotDriving", "limit"), ("NotDriving", "name"), ("NotDriving", "paper"), ("NotDriving", "time"), ("NotDriving", "value")] : List (Str × Str)) ++ ([("Impossible", "limit"), ("Impossible", "name"), ("Impossible", "paper"), ("Impossible", "time"), ("Impossible", "value"), ("Conflict", "limit"), ("Conflict", "name"), ("Conflict", "paper"), ("Conflict", "time"), ("Conflict", "value")] : List (Str × Str)))⟩
def m__law_pot : MS := (sSeq (sSet 2 (xBin opAdd (xBin opMul (xC (.int 6)) (xVar 1)) (xC (.int 1))))
  (sSeq (sIf (xAsB (xBin (opCmp fun i j => decide (i < j)) (xVar 1) (xCall (one opLen) (aCons (xVar 0) aNil)))) (sSet 2 (xBin opAdd (xBin opMul (xBin opMod (xCall (one opAbs) (aCons (xBin opIx (xVar 0) (xVar 1)) aNil)) (xBin opPow (xBin opPow (xC (.int 10)) (xC (.int 60))) (xC (.int 14)))) (xC (.int 2))) (xCall (one opInt) (aCons (xBin (opCmp fun i j => decide (i < j)) (xBin opIx (xVar 0) (xVar 1)) (xC (.int 0))) aNil)))) sNil)
  (sSeq (sSet 3 (xBin opMod (xBin opPow (xBin opAdd (xBin opAdd (xBin opMod (xVar 2) (xC (.int 2305843009213693967))) (xBin opMul (xC (.int 130363)) (xVar 1))) (xC (.int 29))) (xC (.int 3))) (xC (.int 2305843009213693951))))
  (sRet (xLst (aCons (xBin opMul (xBin opDiv (xVar 2) (xBin opPow (xC (.int 10)) (xC (.int 18)))) (xCall (one opInt) (aCons (xBin (opCmp fun i j => decide (j ≤ i)) (xVar 2) (xBin opPow (xC (.int 10)) (xC (.int 18)))) aNil))) (aCons (xVar 3) (aCons (xC (.int 0)) aNil))))))))
def F__law_pot (cs : List Cell) : FO := outF [Md.d, Md.d] (m__law_pot (cs.map some ++ List.replicate 2 none))
def m__law_take : MS := (sSeq (sIf (xAsB (xBin (opCmp fun i j => decide (j < i)) (xBin opIx (xVar 0) (xC (.int 0))) (xC (.int 0)))) (sSeq (sSet 2 (xBin opMod (xBin opIx (xVar 0) (xC (.int 0))) (xVar 1)))
  (sSeq (sSetIx 0 (xBin opDiv (xBin opIx (xVar 0) (xC (.int 0))) (xVar 1)) (xC (.int 0)))
  (sRet (xVar 2)))) sNil)
  (sSeq (sSetIx 0 (xBin opAdd (xBin opIx (xVar 0) (xC (.int 2))) (xC (.int 1))) (xC (.int 2)))
  (sSeq (sSet 3 (xBin opMod (xBin opPow (xBin opAdd (xBin opIx (xVar 0) (xC (.int 1))) (xBin opMul (xC (.int 67867967)) (xBin opIx (xVar 0) (xC (.int 2))))) (xC (.int 3))) (xC (.int 2305843009213693921))))
  (sSeq (sSet 4 (xBin opMod (xBin opPow (xBin opAdd (xBin opAdd (xVar 3) (xBin opMod (xBin opIx (xVar 0) (xC (.int 1))) (xC (.int 1000033)))) (xBin opMul (xC (.int 41)) (xBin opIx (xVar 0) (xC (.int 2))))) (xC (.int 5))) (xC (.int 2305843009213693951))))
  (sRet (xBin opMod (xBin opDiv (xVar 4) (xC (.int 8192))) (xVar 1)))))))
def F__law_take (cs : List Cell) : FO := outF [Md.x, Md.d] (m__law_take (cs.map some ++ List.replicate 3 none))
def m__law_message_kinds : MS := (sSeq (sSet 1 (xLst (aCons (xUn (opIsV XTT "InvalidModulus") (xVar 0)) (aCons (xUn (opIsV XTT "InvalidName") (xVar 0)) aNil))))
  (sSeq (sSet 1 (xBin opAdd (xVar 1) (xLst (aCons (xUn (opIsV XTT "InvalidVector") (xVar 0)) (aCons (xUn (opIsV XTT "InvalidMatrix") (xVar 0)) aNil)))))
  (sSeq (sSet 1 (xBin opAdd (xVar 1) (xLst (aCons (xUn (opIsV XTT "InvalidPart") (xVar 0)) (aCons (xUn (opIsV XTT "InvalidDiagram") (xVar 0)) aNil)))))
  (sSeq (sSet 1 (xBin opAdd (xVar 1) (xLst (aCons (xUn (opIsV XTT "InvalidEnds") (xVar 0)) (aCons (xUn (opIsV XTT "InvalidRecord") (xVar 0)) aNil)))))
  (sSeq (sSet 1 (xBin opAdd (xVar 1) (xLst (aCons (xUn (opIsV XTT "InvalidGenerators") (xVar 0)) (aCons (xUn (opIsV XTT "InvalidBehaviour") (xVar 0)) aNil)))))
  (sSeq (sSet 1 (xBin opAdd (xVar 1) (xLst (aCons (xUn (opIsV XTT "InvalidMachine") (xVar 0)) (aCons (xUn (opIsV XTT "InvalidOperation") (xVar 0)) aNil)))))
  (sSeq (sSet 1 (xBin opAdd (xVar 1) (xLst (aCons (xUn (opIsV XTT "ParseError") (xVar 0)) aNil))))
  (sRet (xVar 1)))))))))
def F__law_message_kinds (cs : List Cell) : FO := outF [Md.d] (m__law_message_kinds (cs.map some ++ List.replicate 1 none))
def m__law_value_kinds : MS := (sSeq (sSet 1 (xLst (aCons (xUn (opIsV XTT "UnknownName") (xVar 0)) (aCons (xUn (opIsV XTT "InvalidNumber") (xVar 0)) (aCons (xUn (opIsV XTT "TooLarge") (xVar 0)) aNil)))))
  (sRet (xBin opAdd (xVar 1) (xLst (aCons (xUn (opIsV XTT "NotDriving") (xVar 0)) (aCons (xUn (opIsV XTT "Impossible") (xVar 0)) (aCons (xUn (opIsV XTT "Conflict") (xVar 0)) aNil)))))))
def F__law_value_kinds (cs : List Cell) : FO := outF [Md.d] (m__law_value_kinds (cs.map some ++ List.replicate 1 none))
def m__law_outer_kinds : MS := (sSeq (sSet 1 (xLst (aCons (xUn (opIsVt XTT "ValueError") (xVar 0)) (aCons (xUn (opIsVt XTT "KeyError") (xVar 0)) (aCons (xUn (opIsVt XTT "IndexError") (xVar 0)) aNil)))))
  (sSeq (sSet 1 (xBin opAdd (xVar 1) (xLst (aCons (xUn (opIsVt XTT "LookupError") (xVar 0)) (aCons (xUn (opIsVt XTT "OverflowError") (xVar 0)) aNil)))))
  (sRet (xBin opAdd (xVar 1) (xLst (aCons (xUn (opIsVt XTT "ArithmeticError") (xVar 0)) (aCons (xUn (opIsVt XTT "RuntimeError") (xVar 0)) aNil)))))))
def F__law_outer_kinds (cs : List Cell) : FO := outF [Md.d] (m__law_outer_kinds (cs.map some ++ List.replicate 1 none))
def m__law_with_messages : MS := (sSeq (sSet 1 (xLst (aCons (xExM "InvalidModulus" (xVar 0)) (aCons (xExM "InvalidName" (xVar 0)) (aCons (xExM "InvalidVector" (xVar 0)) (aCons (xExM "InvalidMatrix" (xVar 0)) (aCons (xExM "InvalidPart" (xVar 0)) aNil)))))))
  (sSeq (sSet 1 (xBin opAdd (xVar 1) (xLst (aCons (xExM "InvalidDiagram" (xVar 0)) (aCons (xExM "InvalidEnds" (xVar 0)) (aCons (xExM "InvalidRecord" (xVar 0)) (aCons (xExM "InvalidGenerators" (xVar 0)) aNil)))))))
  (sRet (xBin opAdd (xVar 1) (xLst (aCons (xExM "InvalidBehaviour" (xVar 0)) (aCons (xExM "InvalidMachine" (xVar 0)) (aCons (xExM "InvalidOperation" (xVar 0)) (aCons (xExM "ParseError" (xVar 0)) aNil)))))))))
def F__law_with_messages (cs : List Cell) : FO := outF [Md.d] (m__law_with_messages (cs.map some ++ List.replicate 1 none))
def m__law_one : MS := (sRet (xBin opIx (xVar 1) (xFn [.x, .d] F__law_take (aCons (xVar 0) (aCons (xCall (one opLen) (aCons (xVar 1) aNil)) aNil)))))
def F__law_one (cs : List Cell) : FO := outF [Md.x, Md.d] (m__law_one (cs.map some ++ List.replicate 0 none))
def m__law_messages_right_1 : M R := (xBin opEq (xVar 2) (xVar 5))
def m__law_messages_right_2 : MS := (sSeq (sIf (xOr (xAsB (xBin opNe (xFn [.d] F__law_message_kinds (aCons (xVar 3) aNil)) (xLc [5] (xRng1 (aCons (xC (.int 13)) aNil)) (asg1 5) (mr true) m__law_messages_right_1))) (xAsB (xBin opNe (xFn [.d] F__law_value_kinds (aCons (xVar 3) aNil)) (xVar 1)))) (sRet (xC (.bl false))) sNil)
  (sIf (xOr (xNot (xAsB (xUn (opIsV XTT "DriveError") (xVar 3)))) (xAsB (xBin opNe (xFn [.d] F__law_outer_kinds (aCons (xVar 3) aNil)) (xBin opAdd (xLst (aCons (xC (.bl true)) aNil)) (xVar 1))))) (sRet (xC (.bl false))) sNil))
def m__law_messages_right : MS := (sSeq (sSet 1 (xBin opMul (xLst (aCons (xC (.bl false)) aNil)) (xC (.int 6))))
  (sSeq (sFor (xEnum2 (aCons (xFn [.d] F__law_with_messages (aCons (xVar 0) aNil)) aNil)) (asgT 2 (asgC (asg1 2) (asgC (asg1 3) asgN))) m__law_messages_right_2)
  (sSeq (sSet 4 (xExM "DriveError" (xVar 0)))
  (sSeq (sIf (xOr (xAsB (xBin opNe (xFn [.d] F__law_message_kinds (aCons (xVar 4) aNil)) (xBin opMul (xLst (aCons (xC (.bl false)) aNil)) (xC (.int 13))))) (xAsB (xBin opNe (xFn [.d] F__law_value_kinds (aCons (xVar 4) aNil)) (xVar 1)))) (sRet (xC (.bl false))) sNil)
  (sRet (xBin opEq (xFn [.d] F__law_outer_kinds (aCons (xVar 4) aNil)) (xBin opAdd (xLst (aCons (xC (.bl true)) aNil)) (xVar 1))))))))
def F__law_messages_right (cs : List Cell) : FO := outF [Md.d] (m__law_messages_right (cs.map some ++ List.replicate 5 none))
def m__law_values_right_1 : M R := (xBin opEq (xVar 4) (xVar 6))
def m__law_values_right_2 : M R := (xBin opIn (xVar 6) (xBin opIx (xVar 3) (xVar 4)))
def m__law_values_right_3 : MS := (sSeq (sIf (xOr (xAsB (xBin opNe (xFn [.d] F__law_value_kinds (aCons (xVar 5) aNil)) (xLc [6] (xRng1 (aCons (xC (.int 6)) aNil)) (asg1 6) (mr true) m__law_values_right_1))) (xAsB (xUn (opIsV XTT "DriveError") (xVar 5)))) (sRet (xC (.bl false))) sNil)
  (sSeq (sIf (xAsB (xBin opNe (xFn [.d] F__law_message_kinds (aCons (xVar 5) aNil)) (xBin opMul (xLst (aCons (xC (.bl false)) aNil)) (xC (.int 13))))) (sRet (xC (.bl false))) sNil)
  (sIf (xAsB (xBin opNe (xFn [.d] F__law_outer_kinds (aCons (xVar 5) aNil)) (xLc [6] (xRng1 (aCons (xC (.int 7)) aNil)) (asg1 6) (mr true) m__law_values_right_2))) (sRet (xC (.bl false))) sNil)))
def m__law_values_right : MS := (sSeq (sSet 1 (xLst (aCons (xExF "UnknownName" "name" (xBin opIx (xVar 0) (xC (.int 0)))) (aCons (xExF "InvalidNumber" "value" (xBin opIx (xVar 0) (xC (.int 1)))) (aCons (xExF "TooLarge" "limit" (xBin opIx (xVar 0) (xC (.int 2)))) aNil)))))
  (sSeq (sSet 1 (xBin opAdd (xVar 1) (xLst (aCons (xExF "NotDriving" "paper" (xBin opIx (xVar 0) (xC (.int 3)))) (aCons (xExF "Impossible" "time" (xBin opIx (xVar 0) (xC (.int 4)))) (aCons (xExF "Conflict" "name" (xBin opIx (xVar 0) (xC (.int 5)))) aNil))))))
  (sSeq (sSet 2 (xLst (aCons (xUn (opAtV XTT "name") (xBin opIx (xVar 1) (xC (.int 0)))) (aCons (xUn (opAtV XTT "value") (xBin opIx (xVar 1) (xC (.int 1)))) (aCons (xUn (opAtV XTT "limit") (xBin opIx (xVar 1) (xC (.int 2)))) (aCons (xUn (opAtV XTT "paper") (xBin opIx (xVar 1) (xC (.int 3)))) (aCons (xUn (opAtV XTT "time") (xBin opIx (xVar 1) (xC (.int 4)))) (aCons (xUn (opAtV XTT "name") (xBin opIx (xVar 1) (xC (.int 5)))) aNil))))))))
  (sSeq (sIf (xAsB (xBin opNe (xCall (one opRepr) (aCons (xVar 2) aNil)) (xCall (one opRepr) (aCons (xVar 0) aNil)))) (sRet (xC (.bl false))) sNil)
  (sSeq (sSet 3 (xLst (aCons (xLst (aCons (xC (.int 1)) (aCons (xC (.int 3)) aNil))) (aCons (xLst (aCons (xC (.int 2)) (aCons (xC (.int 3)) aNil))) (aCons (xLst (aCons (xC (.int 4)) (aCons (xC (.int 5)) aNil))) (aCons (xLst (aCons (xC (.int 5)) aNil)) (aCons (xLst (aCons (xC (.int 6)) aNil)) (aCons (xLst (aCons (xC (.int 3)) aNil)) aNil))))))))
  (sSeq (sFor (xEnum2 (aCons (xVar 1) aNil)) (asgT 2 (asgC (asg1 4) (asgC (asg1 5) asgN))) m__law_values_right_3)
  (sRet (xC (.bl true)))))))))
def F__law_values_right (cs : List Cell) : FO := outF [Md.d] (m__law_values_right (cs.map some ++ List.replicate 6 none))
def m__law_met_1 : Suite := fun a d c => (sRet (xIf (xAsB (xBin opEq (xCall (one opRepr) (aCons (xUn (opExF a d c "name") (xVar 3)) aNil)) (xCall (one opRepr) (aCons (xBin opIx (xVar 1) (xC (.int 5))) aNil)))) (xC (.str "conflict")) (xC (.str "odd"))))
def m__law_met_2 : Suite := fun a d c => (sRet (xIf (xAsB (xBin opEq (xCall (one opRepr) (aCons (xUn (opExF a d c "time") (xVar 3)) aNil)) (xCall (one opRepr) (aCons (xBin opIx (xVar 1) (xC (.int 4))) aNil)))) (xC (.str "time")) (xC (.str "odd"))))
def m__law_met_3 : Suite := fun a d c => (sRet (xIf (xAsB (xBin opEq (xCall (one opRepr) (aCons (xUn (opExF a d c "paper") (xVar 3)) aNil)) (xCall (one opRepr) (aCons (xBin opIx (xVar 1) (xC (.int 3))) aNil)))) (xC (.str "paper")) (xC (.str "odd"))))
def m__law_met_4 : Suite := fun a d c => (sRet (xIf (xAsB (xBin opEq (xCall (one opRepr) (aCons (xUn (opExF a d c "limit") (xVar 3)) aNil)) (xCall (one opRepr) (aCons (xBin opIx (xVar 1) (xC (.int 2))) aNil)))) (xC (.str "limit")) (xC (.str "odd"))))
def m__law_met_5 : Suite := fun a d c => (sRet (xIf (xAsB (xBin opEq (xCall (one opRepr) (aCons (xUn (opExF a d c "value") (xVar 3)) aNil)) (xCall (one opRepr) (aCons (xBin opIx (xVar 1) (xC (.int 1))) aNil)))) (xC (.str "number")) (xC (.str "odd"))))
def m__law_met_6 : Suite := fun a d c => (sRet (xIf (xAsB (xBin opEq (xCall (one opRepr) (aCons (xUn (opExF a d c "name") (xVar 3)) aNil)) (xCall (one opRepr) (aCons (xBin opIx (xVar 1) (xC (.int 0))) aNil)))) (xC (.str "name")) (xC (.str "odd"))))
def m__law_met_7 : Suite := fun a d c => (sRet (xC (.str "drive")))
def m__law_met_8 : MS := (sSeq (sIf (xAsB (xBin opEq (xVar 0) (xC (.int 0)))) (sRaiseF "UnknownName" "name" (xBin opIx (xVar 1) (xC (.int 0)))) sNil)
  (sSeq (sIf (xAsB (xBin opEq (xVar 0) (xC (.int 1)))) (sRaiseF "InvalidNumber" "value" (xBin opIx (xVar 1) (xC (.int 1)))) sNil)
  (sSeq (sIf (xAsB (xBin opEq (xVar 0) (xC (.int 2)))) (sRaiseF "TooLarge" "limit" (xBin opIx (xVar 1) (xC (.int 2)))) sNil)
  (sSeq (sIf (xAsB (xBin opEq (xVar 0) (xC (.int 3)))) (sRaiseF "NotDriving" "paper" (xBin opIx (xVar 1) (xC (.int 3)))) sNil)
  (sSeq (sIf (xAsB (xBin opEq (xVar 0) (xC (.int 4)))) (sRaiseF "Impossible" "time" (xBin opIx (xVar 1) (xC (.int 4)))) sNil)
  (sSeq (sIf (xAsB (xBin opEq (xVar 0) (xC (.int 5)))) (sRaiseF "Conflict" "name" (xBin opIx (xVar 1) (xC (.int 5)))) sNil)
  (sRaiseM "ParseError" (xVar 2))))))))
def m__law_met : MS := (sTry XTT m__law_met_8 (("DriveError", none, m__law_met_7) :: (("UnknownName", some 3, m__law_met_6) :: (("InvalidNumber", some 3, m__law_met_5) :: (("TooLarge", some 3, m__law_met_4) :: (("NotDriving", some 3, m__law_met_3) :: (("Impossible", some 3, m__law_met_2) :: (("Conflict", some 3, m__law_met_1) :: []))))))))
def F__law_met (cs : List Cell) : FO := outF [Md.d, Md.d, Md.d] (m__law_met (cs.map some ++ List.replicate 1 none))
def m__law_some_values : MS := (sSeq (sSet 2 (xLst (aCons (xC .non) (aCons (xC (.int 0)) (aCons (xUn opNeg (xC (.int 1))) (aCons (xBin opPow (xC (.int 10)) (xC (.int 39))) (aCons (xC (.str "")) (aCons (xC (.str "a")) (aCons (xTup aNil) (aCons (xTup (aCons (xC (.str "late")) (aCons (xTup (aCons (xTup (aCons (xC (.int 1)) (aCons (xC (.int 0)) aNil))) aNil)) aNil))) (aCons (xNew (.dct [(Sum.inr "a")] [(.int 1)])) (aCons (xLst aNil) (aCons (xLst (aCons (xVar 1) aNil)) (aCons (xTup (aCons (xVar 1) (aCons (xC (.int 5)) aNil))) aNil))))))))))))))
  (sSeq (sOwn 3 (xLst (aCons (xFn [.x, .d] F__law_one (aCons (xVar 0) (aCons (xVar 2) aNil))) (aCons (xFn [.x, .d] F__law_one (aCons (xVar 0) (aCons (xVar 2) aNil))) (aCons (xFn [.x, .d] F__law_one (aCons (xVar 0) (aCons (xLst (aCons (xC (.int 2)) (aCons (xC (.int 6)) (aCons (xC (.int 8)) (aCons (xC (.int 12)) (aCons (xC (.int 40)) (aCons (xC (.int 60)) (aCons (xC (.int 100)) (aCons (xC (.int 200)) (aCons (xC (.int 400)) (aCons (xC (.int 1000)) (aCons (xC (.int 5000)) aNil)))))))))))) aNil))) aNil)))))
  (sSeq (sSet 4 (xLst (aCons (xTup (aCons (xC (.str "late")) (aCons (xTup (aCons (xTup (aCons (xC (.int 1)) (aCons (xC (.int 0)) aNil))) aNil)) aNil))) (aCons (xTup (aCons (xC (.str "late")) (aCons (xTup (aCons (xTup (aCons (xC (.int 0)) (aCons (xC (.int 0)) aNil))) (aCons (xTup (aCons (xC (.int 0)) (aCons (xC (.int 1)) aNil))) aNil))) aNil))) (aCons (xTup (aCons (xC (.str "tied")) (aCons (xNew (.dct [(Sum.inr "a")] [(.int 1)])) aNil))) (aCons (xTup (aCons (xC (.str "tied")) (aCons (xNew (.dct [(Sum.inr "a"), (Sum.inr "b")] [(.int 2), (.int 4)])) aNil))) aNil))))))
  (sSeq (sApp 3 (xFn [.x, .d] F__law_one (aCons (xVar 0) (aCons (xVar 4) aNil))))
  (sRet (xBin opAdd (xVar 3) (xLst (aCons (xFn [.x, .d] F__law_take (aCons (xVar 0) (aCons (xC (.int 200)) aNil))) (aCons (xFn [.x, .d] F__law_one (aCons (xVar 0) (aCons (xLst (aCons (xC (.str "a")) (aCons (xC (.str "ab")) (aCons (xC (.str "abcdefgh")) (aCons (xC (.str "z")) aNil))))) aNil))) aNil)))))))))
def F__law_some_values (cs : List Cell) : FO := outF [Md.x, Md.d] (m__law_some_values (cs.map some ++ List.replicate 3 none))
def m_law_1 : M R := (xFn [.x, .d] F__law_one (aCons (xVar 3) (aCons (xC (.str "ab c:1")) aNil)))
def m_law_2 : M R := (xFn [.d, .d, .d] F__law_met (aCons (xVar 7) (aCons (xVar 5) (aCons (xVar 4) aNil))))
def m_law_3 : MS := (sSeq (sOwn 3 (xFn [.d, .d] F__law_pot (aCons (xVar 0) (aCons (xVar 2) aNil))))
  (sSeq (sSet 4 (xMt "str" opJoin (xC (.str "")) (aCons (xLc [6] (xRng1 (aCons (xFn [.x, .d] F__law_take (aCons (xVar 3) (aCons (xC (.int 9)) aNil))) aNil)) (asg1 6) (mr true) m_law_1) aNil)))
  (sSeq (sSet 5 (xFn [.x, .d] F__law_some_values (aCons (xVar 3) (aCons (xVar 4) aNil))))
  (sSeq (sIf (xOr (xNot (xAsB (xFn [.d] F__law_messages_right (aCons (xVar 4) aNil)))) (xNot (xAsB (xFn [.d] F__law_values_right (aCons (xVar 5) aNil))))) (sRet (xC (.bl false))) sNil)
  (sIf (xAsB (xBin opNe (xLc [7] (xRng1 (aCons (xC (.int 7)) aNil)) (asg1 7) (mr true) m_law_2) (xVar 1))) (sRet (xC (.bl false))) sNil)))))
def m_law : MS := (sSeq (sSet 1 (xLst (aCons (xC (.str "name")) (aCons (xC (.str "number")) (aCons (xC (.str "limit")) (aCons (xC (.str "paper")) (aCons (xC (.str "time")) (aCons (xC (.str "conflict")) (aCons (xC (.str "drive")) aNil)))))))))
  (sSeq (sFor (xRng1 (aCons (xCall (two opMax) (aCons (xC (.int 1)) (aCons (xCall (two opMin) (aCons (xC (.int 8)) (aCons (xCall (one opLen) (aCons (xVar 0) aNil)) aNil))) aNil))) aNil)) (asg1 2) m_law_3)
  (sRet (xC (.bl true)))))
def F_law (cs : List Cell) : FO := outF [Md.d] (m_law (cs.map some ++ List.replicate 7 none))
end
end K89

/-! ## K03q -/
set_option Elab.async false
set_option linter.all false
set_option maxRecDepth 100000
set_option maxHeartbeats 1000000
/-! plain: sums, combinations, products of matrices modulo p, in lists. -/
namespace LinZ
def S : Nat → (Nat → Int) → Int
  | 0, _ => 0
  | n + 1, f => S n f + f n
theorem S_congr {f g : Nat → Int} : ∀ {n : Nat}, (∀ k, k < n → f k = g k) → S n f = S n g
  | 0, _ => rfl
  | n + 1, h => by
    unfold S
    rw [S_congr fun k hk => h k (by omega), h n (by omega)]
theorem S_add (f g : Nat → Int) : ∀ n : Nat, S n (fun k => f k + g k) = S n f + S n g
  | 0 => rfl
  | n + 1 => by
    show S n (fun k => f k + g k) + (f n + g n) = (S n f + f n) + (S n g + g n)
    rw [S_add f g n]
    omega
theorem S_zero : ∀ n : Nat, S n (fun _ => 0) = 0
  | 0 => rfl
  | n + 1 => by unfold S; rw [S_zero n]; rfl
theorem S_mul (c : Int) (f : Nat → Int) : ∀ n : Nat, S n (fun k => c * f k) = c * S n f
  | 0 => by simp [S]
  | n + 1 => by unfold S; rw [S_mul c f n, Int.mul_add]
theorem S_mulr (c : Int) (f : Nat → Int) (n : Nat) : S n (fun k => f k * c) = S n f * c := by
  rw [Int.mul_comm, ← S_mul]
  exact S_congr fun k _ => Int.mul_comm _ _
theorem S_swap (f : Nat → Nat → Int) (m : Nat) : ∀ n : Nat, S n (fun i => S m (f i)) = S m (fun k => S n (fun i => f i k))
  | 0 => by rw [show (fun k => S 0 fun i => f i k) = fun _ => (0 : Int) from rfl, S_zero]; rfl
  | n + 1 => by
    show S n (fun i => S m (f i)) + S m (f n) = _
    rw [S_swap f m n, ← S_add]
    rfl
theorem S_mod {p : Int} {f g : Nat → Int} : ∀ {n : Nat}, (∀ k, k < n → f k % p = g k % p) → S n f % p = S n g % p
  | 0, _ => rfl
  | n + 1, h => by
    unfold S
    rw [Int.add_emod, S_mod fun k hk => h k (by omega), h n (by omega), ← Int.add_emod]
def gI (l : List Int) (k : Nat) : Int := l.getD k 0
def gV (l : List (List Int)) (k : Nat) : List Int := l.getD k []
theorem gI_map {n k : Nat} {f : Nat → Int} (h : k < n) : gI ((List.range n).map f) k = f k := by
  unfold gI
  rw [List.getD_eq_getElem?_getD, List.getElem?_map, List.getElem?_range h]
  rfl
theorem ext_gI {l m : List Int} (h : l.length = m.length) (e : ∀ k, k < l.length → gI l k = gI m k) : l = m := by
  apply List.ext_getElem h
  intro k h1 h2
  have q := e k h1
  unfold gI at q
  rw [List.getD_eq_getElem?_getD, List.getD_eq_getElem?_getD, List.getElem?_eq_getElem h1, List.getElem?_eq_getElem h2] at q
  exact q
theorem map_gI {l : List Int} : (List.range l.length).map (gI l) = l := by
  refine ext_gI (by simp) fun k hk => ?_
  exact gI_map (by simpa using hk)
theorem map_gV {α : Type} {l : List (List Int)} {f : List Int → α} : (List.range l.length).map (fun k => f (gV l k)) = l.map f := by
  apply List.ext_getElem (by simp)
  intro k h1 h2
  have hk : k < l.length := by simpa using h2
  simp [gV, List.getElem?_eq_getElem hk]
/-- the step of a combination -/
def stp (acc : List Int) (q : Int × List Int) : List Int := List.zipWith (fun t e => t + q.1 * e) acc q.2
def lin (w : Nat) (l : List (Int × List Int)) : List Int := l.foldl stp (List.replicate w 0)
def stpm (p : Int) (acc : List Int) (q : Int × List Int) : List Int := List.zipWith (fun t e => (t + q.1 * e) % p) acc q.2
def linm (p : Int) (w : Nat) (l : List (Int × List Int)) : List Int := l.foldl (stpm p) (List.replicate w 0)
theorem stp_mod {p : Int} : ∀ (acc : List Int) (f : Int) (v : List Int), stpm p (acc.map (· % p)) (f, v) = (stp acc (f, v)).map (· % p)
  | [], f, v => by simp [stpm, stp]
  | a :: acc, f, [] => by simp [stpm, stp]
  | a :: acc, f, e :: v => by
    have ih := stp_mod (p := p) acc f v
    unfold stpm stp at ih ⊢
    simp only [List.map_cons, List.zipWith_cons_cons, List.cons.injEq]
    exact ⟨by rw [Int.add_emod, Int.emod_emod, ← Int.add_emod], ih⟩
theorem fold_mod {p : Int} : ∀ (l : List (Int × List Int)) (acc : List Int), l.foldl (stpm p) (acc.map (· % p)) = (l.foldl stp acc).map (· % p)
  | [], acc => rfl
  | (f, v) :: l, acc => by
    rw [List.foldl_cons, List.foldl_cons, stp_mod, fold_mod l]
theorem linm_eq {p : Int} (w : Nat) (l : List (Int × List Int)) : linm p w l = (lin w l).map (· % p) := by
  unfold linm lin
  rw [← fold_mod]
  congr 1
  rw [List.map_replicate, Int.zero_emod]
theorem fold_length {w : Nat} : ∀ (l : List (Int × List Int)) (acc : List Int), acc.length = w → (∀ q ∈ l, q.2.length = w) → (l.foldl stp acc).length = w
  | [], acc, h, _ => h
  | q :: l, acc, h, hl => by
    rw [List.foldl_cons]
    refine fold_length l _ ?_ fun r hr => hl r (List.mem_cons_of_mem _ hr)
    unfold stp
    rw [List.length_zipWith, h, hl q List.mem_cons_self, Nat.min_self]
theorem stp_get {acc : List Int} {q : Int × List Int} {j : Nat} (h1 : j < acc.length) (h2 : j < q.2.length) : gI (stp acc q) j = gI acc j + q.1 * gI q.2 j := by
  unfold stp gI
  simp [List.getElem?_zipWith, List.getElem?_eq_getElem h1, List.getElem?_eq_getElem h2]
theorem fold_get {w : Nat} {j : Nat} (hj : j < w) : ∀ (fs : List Int) (vs : List (List Int)) (acc : List Int), fs.length = vs.length → acc.length = w → (∀ v ∈ vs, v.length = w) →
    gI ((fs.zip vs).foldl stp acc) j = gI acc j + S vs.length fun k => gI fs k * gI (gV vs k) j
  | [], [], acc, _, _, _ => by simp [S]
  | f :: fs, v :: vs, acc, hl, ha, hv => by
    have hvw := hv v List.mem_cons_self
    rw [List.zip_cons_cons, List.foldl_cons, fold_get hj fs vs _ (by simpa using hl) (by unfold stp; rw [List.length_zipWith, ha, hvw, Nat.min_self]) fun u hu => hv u (List.mem_cons_of_mem _ hu), stp_get (by omega) (by show j < v.length; omega)]
    have e : ∀ n, S (n + 1) (fun k => gI (f :: fs) k * gI (gV (v :: vs) k) j) = f * gI v j + S n fun k => gI fs k * gI (gV vs k) j := fun n => by
      induction n with
      | zero => simp [S, gI, gV]
      | succ n ih =>
        show S (n + 1) _ + _ = _
        rw [ih]
        show _ = _ + (S n _ + _)
        have : gI (f :: fs) (n + 1) * gI (gV (v :: vs) (n + 1)) j = gI fs n * gI (gV vs n) j := by simp [gI, gV]
        show _ + gI (f :: fs) (n + 1) * gI (gV (v :: vs) (n + 1)) j = _ + (_ + gI fs n * gI (gV vs n) j)
        rw [this]
        omega
    rw [List.length_cons, e]
    show gI acc j + f * gI v j + _ = _
    omega
  | [], _ :: _, _, h, _, _ => by simp at h
  | _ :: _, [], _, h, _, _ => by simp at h
/-- the combination of vs by fs -/
def comb (p : Int) (w : Nat) (vs : List (List Int)) (fs : List Int) : List Int := (lin w (fs.zip vs)).map (· % p)
theorem comb_eq {p : Int} {w : Nat} {vs : List (List Int)} {fs : List Int} (hl : fs.length = vs.length) (hv : ∀ v ∈ vs, v.length = w) :
    comb p w vs fs = (List.range w).map fun j => (S vs.length fun k => gI fs k * gI (gV vs k) j) % p := by
  have hq : ∀ q ∈ fs.zip vs, q.2.length = w := fun q hq => hv q.2 (List.of_mem_zip hq).2
  have hlen : (lin w (fs.zip vs)).length = w := fold_length _ _ (by simp) hq
  refine ext_gI (by simp [comb, hlen]) fun j hj => ?_
  have hj : j < w := by simpa [comb, hlen] using hj
  rw [gI_map hj]
  have e : gI (comb p w vs fs) j = gI (lin w (fs.zip vs)) j % p := by
    unfold comb gI
    simp [List.getElem?_map, List.getElem?_eq_getElem (show j < (lin w (fs.zip vs)).length by omega)]
  rw [e]
  unfold lin
  rw [fold_get hj fs vs _ hl (by simp) hv]
  have z : gI (List.replicate w (0 : Int)) j = 0 := by simp [gI, List.getElem?_replicate, hj]
  rw [z, Int.zero_add]
/-- m is h rows of w entries of 0..p-1 -/
structure Mt (p : Int) (h w : Nat) (m : List (List Int)) : Prop where
  rows : m.length = h
  row : ∀ v ∈ m, v.length = w
  rng : ∀ v ∈ m, ∀ x ∈ v, 0 ≤ x ∧ x < p
structure Vc (p : Int) (w : Nat) (v : List Int) : Prop where
  len : v.length = w
  rng : ∀ x ∈ v, 0 ≤ x ∧ x < p
theorem Mt.vc {p : Int} {h w : Nat} {m : List (List Int)} (a : Mt p h w m) {v : List Int} (hv : v ∈ m) : Vc p w v := ⟨a.row v hv, a.rng v hv⟩
theorem Mt.mk' {p : Int} {h w : Nat} {m : List (List Int)} (hl : m.length = h) (r : ∀ v ∈ m, Vc p w v) : Mt p h w m := ⟨hl, fun v hv => (r v hv).len, fun v hv => (r v hv).rng⟩
theorem gV_mem {m : List (List Int)} {k : Nat} (h : k < m.length) : gV m k ∈ m := by
  unfold gV
  rw [List.getD_eq_getElem?_getD, List.getElem?_eq_getElem h]
  exact List.getElem_mem h
theorem comb_vc {p : Int} (hp : 0 < p) {w : Nat} {vs : List (List Int)} {fs : List Int} (hv : ∀ v ∈ vs, v.length = w) : Vc p w (comb p w vs fs) := by
  have hq : ∀ q ∈ fs.zip vs, q.2.length = w := fun q hq => hv q.2 (List.of_mem_zip hq).2
  refine ⟨by unfold comb; rw [List.length_map]; exact fold_length _ _ (by simp) hq, fun x hx => ?_⟩
  obtain ⟨y, _, e⟩ := List.mem_map.mp hx
  rw [← e]
  exact ⟨Int.emod_nonneg _ (by omega), Int.emod_lt_of_pos _ hp⟩
def prod (p : Int) (w : Nat) (one other : List (List Int)) : List (List Int) := one.map (comb p w other)
def trp (w : Nat) (m : List (List Int)) : List (List Int) := (List.range w).map fun c => m.map fun v => gI v c
theorem prod_mt {p : Int} (hp : 0 < p) {h l w : Nat} {one other : List (List Int)} (a : Mt p h l one) (b : Mt p l w other) : Mt p h w (prod p w one other) :=
  .mk' (by unfold prod; rw [List.length_map]; exact a.rows) fun v hv => by
    obtain ⟨x, _, e⟩ := List.mem_map.mp hv
    rw [← e]
    exact comb_vc hp b.row
theorem gI_rng {p : Int} {v : List Int} {w c : Nat} (h : Vc p w v) (hc : c < w) : 0 ≤ gI v c ∧ gI v c < p := by
  have hc' : c < v.length := by rw [h.len]; exact hc
  have : gI v c ∈ v := by
    unfold gI
    rw [List.getD_eq_getElem?_getD, List.getElem?_eq_getElem hc']
    exact List.getElem_mem hc'
  exact h.rng _ this
theorem trp_mt {p : Int} {h w : Nat} {m : List (List Int)} (a : Mt p h w m) : Mt p w h (trp w m) :=
  .mk' (by simp [trp]) fun v hv => by
    obtain ⟨c, hc, e⟩ := List.mem_map.mp hv
    have hc : c < w := by simpa using hc
    rw [← e]
    refine ⟨by rw [List.length_map]; exact a.rows, fun x hx => ?_⟩
    obtain ⟨u, hu, e⟩ := List.mem_map.mp hx
    rw [← e]
    exact gI_rng (a.vc hu) hc
theorem prod_assoc {p : Int} (hp : 0 < p) {h l r w : Nat} {one two three : List (List Int)} (a : Mt p h l one) (b : Mt p l r two) (c : Mt p r w three) :
    prod p w (prod p r one two) three = prod p w one (prod p w two three) := by
  unfold prod
  rw [List.map_map]
  apply List.map_congr_left
  intro x hx
  have hxl : x.length = two.length := by rw [a.row x hx, b.rows]
  show comb p w three (comb p r two x) = comb p w (prod p w two three) x
  have d := prod_mt hp b c
  rw [comb_eq (by rw [(comb_vc hp b.row).len, c.rows]) c.row, comb_eq (fs := x) (by rw [hxl, d.rows, b.rows]) d.row]
  apply List.map_congr_left
  intro j hj
  have hj : j < w := by simpa using hj
  rw [c.rows, d.rows]
  -- both sides as one double sum
  have e1 : (S r fun k => gI (comb p r two x) k * gI (gV three k) j) % p = (S r fun k => S l fun i => gI x i * gI (gV two i) k * gI (gV three k) j) % p := by
    apply S_mod
    intro k hk
    rw [comb_eq hxl b.row, gI_map hk, Int.mul_emod, Int.emod_emod, ← Int.mul_emod, b.rows, S_mulr]
  have e2 : (S l fun i => gI x i * gI (gV (prod p w two three) i) j) % p = (S l fun i => S r fun k => gI x i * gI (gV two i) k * gI (gV three k) j) % p := by
    apply S_mod
    intro i hi
    have hi2 : i < two.length := by rw [b.rows]; exact hi
    have g : gV (prod p w two three) i = comb p w three (gV two i) := by
      unfold gV prod
      simp [List.getElem?_eq_getElem hi2]
    have hrow := gV_mem hi2
    rw [g, comb_eq (by rw [b.row _ hrow, c.rows]) c.row, gI_map hj, Int.mul_emod, Int.emod_emod, ← Int.mul_emod, c.rows, ← S_mul]
    congr 1
    exact S_congr fun k _ => (Int.mul_assoc _ _ _).symm
  rw [e1, e2, S_swap]
theorem trp_trp {p : Int} {h w : Nat} {m : List (List Int)} (a : Mt p h w m) : trp h (trp w m) = m := by
  unfold trp
  have e : ∀ k, k < h → (List.map (fun v => gI v k) (List.map (fun c => List.map (fun v => gI v c) m) (List.range w))) = gV m k := fun k hk => by
    have hk' : k < m.length := by rw [a.rows]; exact hk
    rw [List.map_map]
    have hrow := a.row _ (gV_mem hk')
    refine Eq.trans ?_ (map_gI (l := gV m k))
    rw [hrow]
    apply List.map_congr_left
    intro c hc
    show gI (List.map (fun v => gI v c) m) k = gI (gV m k) c
    unfold gI gV
    simp [List.getElem?_eq_getElem hk']
  have e2 : (List.range h).map (fun k => gV m k) = m := by
    have := map_gV (l := m) (f := id)
    rw [a.rows, List.map_id] at this
    exact this
  refine Eq.trans ?_ e2
  apply List.map_congr_left
  intro k hk
  exact e k (by simpa using hk)
theorem trp_prod {p : Int} (hp : 0 < p) {h l r : Nat} {one two : List (List Int)} (a : Mt p h l one) (b : Mt p l r two) :
    trp r (prod p r one two) = prod p h (trp r two) (trp l one) := by
  have ft := trp_mt a
  have tt := trp_mt b
  unfold prod
  unfold trp
  rw [List.map_map]
  apply List.map_congr_left
  intro c hc
  have hc : c < r := by simpa using hc
  show List.map (fun v => gI v c) (List.map (comb p r two) one) = comb p h (trp l one) (two.map fun v => gI v c)
  rw [comb_eq (by rw [List.length_map, ft.rows, b.rows]) ft.row, List.map_map]
  have := map_gV (l := one) (f := fun v => gI (comb p r two v) c)
  rw [a.rows] at this
  refine Eq.trans this.symm ?_
  apply List.map_congr_left
  intro j hj
  have hj : j < h := by simpa using hj
  have hj' : j < one.length := by rw [a.rows]; exact hj
  rw [comb_eq (by rw [a.row _ (gV_mem hj'), b.rows]) b.row, gI_map hc, b.rows, ft.rows]
  congr 1
  apply S_congr
  intro k hk
  have hk2 : k < two.length := by rw [b.rows]; exact hk
  have g1 : gI (two.map fun v => gI v c) k = gI (gV two k) c := by
    unfold gI gV
    simp [List.getElem?_eq_getElem hk2]
  have g2 : gI (gV (trp l one) k) j = gI (gV one j) k := by
    unfold trp gV gI
    simp [hk, List.getElem?_eq_getElem hj']
  rw [g1, g2, Int.mul_comm]
end LinZ

/-! ## DP -/
set_option Elab.async false
set_option linter.all false
set_option maxRecDepth 100000
set_option maxHeartbeats 1000000
/-! DP: the mirrors computed: loops, comprehensions, names of data. -/
namespace DL
open PySem L2
/-- a turn of a comprehension -/
def turn (vs : List Nat) (asg : Asg) (t : M Bool) (f : M R) (x : D) (ρ : Env') : Option (Option D × Env') := match asg x ρ with
  | none => none
  | some ρ1 => match t ρ1 with
    | .ok true ρ2 => match f ρ2 with
      | .ok r ρ3 => match toI r ρ3 with
        | .ok d ρ4 => some (some d, wipeC ρ4 vs)
        | _ => none
      | _ => none
    | .ok false ρ2 => some (none, wipeC ρ2 vs)
    | _ => none
section
variable {vs : List Nat} {asg : Asg} {t : M Bool} {f : M R}
theorem lcGo_turn {x : D} {d : D} {xs acc : List D} {ρ ρ' : Env'} (h : turn vs asg t f x ρ = some (some d, ρ')) (hz : acc.length + 1 ≤ 16777216) : lcGo vs asg t f (x :: xs) acc ρ = lcGo vs asg t f xs (acc ++ [d]) ρ' := by
  have hz : szB (acc.length + 1) = true := decide_eq_true hz
  unfold turn at h
  show (match asg x ρ with
   | none => Out.bad
   | some ρ1 => match t ρ1 with
     | .ok true ρ2 => match f ρ2 with
        | .ok r ρ3 => match toI r ρ3 with
           | .ok d ρ4 => if szB (acc.length + 1) then lcGo vs asg t f xs (acc ++ [d]) (wipeC ρ4 vs) else .bad
           | _ => .bad
        | _ => .bad
     | .ok false ρ2 => lcGo vs asg t f xs acc (wipeC ρ2 vs)
     | _ => .bad) = _
  cases ea : asg x ρ with
  | none => rw [ea] at h; cases h
  | some ρ1 =>
    rw [ea] at h
    dsimp only at h ⊢
    cases et : t ρ1 with
    | bad => rw [et] at h; cases h
    | er y ρ2 => rw [et] at h; cases h
    | ok b ρ2 =>
      rw [et] at h
      cases b with
      | false => cases h
      | true =>
        dsimp only at h ⊢
        cases ef : f ρ2 with
        | bad => rw [ef] at h; cases h
        | er y ρ3 => rw [ef] at h; cases h
        | ok r ρ3 =>
          rw [ef] at h
          dsimp only at h ⊢
          cases ei : toI r ρ3 with
          | bad => rw [ei] at h; cases h
          | er y ρ4 => rw [ei] at h; cases h
          | ok d' ρ4 =>
            rw [ei] at h
            cases h
            dsimp only
            rw [if_pos hz]
theorem lcGo_skip {x : D} {xs acc : List D} {ρ ρ' : Env'} (h : turn vs asg t f x ρ = some (none, ρ')) : lcGo vs asg t f (x :: xs) acc ρ = lcGo vs asg t f xs acc ρ' := by
  unfold turn at h
  show (match asg x ρ with
   | none => Out.bad
   | some ρ1 => match t ρ1 with
     | .ok true ρ2 => match f ρ2 with
        | .ok r ρ3 => match toI r ρ3 with
           | .ok d ρ4 => if szB (acc.length + 1) then lcGo vs asg t f xs (acc ++ [d]) (wipeC ρ4 vs) else .bad
           | _ => .bad
        | _ => .bad
     | .ok false ρ2 => lcGo vs asg t f xs acc (wipeC ρ2 vs)
     | _ => .bad) = _
  cases ea : asg x ρ with
  | none => rw [ea] at h; cases h
  | some ρ1 =>
    rw [ea] at h
    dsimp only at h ⊢
    cases et : t ρ1 with
    | bad => rw [et] at h; cases h
    | er y ρ2 => rw [et] at h; cases h
    | ok b ρ2 =>
      rw [et] at h
      cases b with
      | false => cases h; rfl
      | true =>
        dsimp only at h
        cases ef : f ρ2 with
        | bad => rw [ef] at h; cases h
        | er y ρ3 => rw [ef] at h; cases h
        | ok r ρ3 =>
          rw [ef] at h
          dsimp only at h
          cases ei : toI r ρ3 with
          | bad => rw [ei] at h; cases h
          | er y ρ4 => rw [ei] at h; cases h
          | ok d' ρ4 => rw [ei] at h; cases h
/-- each item by itself, nothing changed -/
theorem lcGo_map {α : Type} {mk g : α → D} {ρ : Env'} : ∀ {l : List α} {acc : List D}, (∀ a ∈ l, turn vs asg t f (mk a) ρ = some (some (g a), ρ)) → acc.length + l.length ≤ 16777216 → lcGo vs asg t f (l.map mk) acc ρ = .ok (acc ++ l.map g) ρ
  | [], acc, _, _ => by
    rw [List.map_nil, List.map_nil, List.append_nil]
    rfl
  | a :: l, acc, h, hz => by
    have hz : acc.length + (l.length + 1) ≤ 16777216 := hz
    rw [List.map_cons, lcGo_turn (h a List.mem_cons_self) (by omega), lcGo_map (fun b hb => h b (List.mem_cons_of_mem _ hb)) (by rw [List.length_append, List.length_singleton]; omega)]
    rw [List.append_assoc]
    rfl
/-- with a state, each answer some one of P -/
theorem lcGo_ex {S : Type} {st : S → Env'} {Inv : Nat → S → Prop} {P : D → Prop} {k T : Nat} : ∀ {xs : List D}, (∀ x ∈ xs, ∀ t' s, t' + k ≤ T → Inv t' s → ∃ d s', turn vs asg t f x (st s) = some (some d, st s') ∧ Inv (t' + k) s' ∧ P d) →
    ∀ {acc : List D} {t' : Nat} {s : S}, t' + k * xs.length ≤ T → Inv t' s → acc.length + xs.length ≤ 16777216 → ∃ ds s', lcGo vs asg t f xs acc (st s) = .ok (acc ++ ds) (st s') ∧ ds.length = xs.length ∧ (∀ d ∈ ds, P d) ∧ Inv (t' + k * xs.length) s'
  | [], _, acc, t', s, _, i, _ => ⟨[], s, by rw [List.append_nil]; rfl, rfl, (fun d h => nomatch h), i⟩
  | x :: xs, h, acc, t', s, hT, i, hz => by
    have e : k * (x :: xs).length = k + k * xs.length := by rw [List.length_cons, Nat.mul_succ, Nat.add_comm]
    have hz : acc.length + (xs.length + 1) ≤ 16777216 := hz
    rw [e] at hT ⊢
    obtain ⟨d, s1, e1, i1, p1⟩ := h x List.mem_cons_self t' s (by omega) i
    obtain ⟨ds, s2, e2, l2, p2, i2⟩ := lcGo_ex (xs := xs) (fun y hy => h y (List.mem_cons_of_mem _ hy)) (acc := acc ++ [d]) (t' := t' + k) (s := s1) (by omega) i1 (by rw [List.length_append, List.length_singleton]; omega)
    refine ⟨d :: ds, s2, ?_, by rw [List.length_cons, List.length_cons, l2], fun y hy => ?_, by rw [← Nat.add_assoc]; exact i2⟩
    · rw [lcGo_turn e1 (by omega), e2, List.append_assoc]
      rfl
    · rcases List.mem_cons.mp hy with z | z
      · rw [z]; exact p1
      · exact p2 y z
end
/-- a loop by an invariant -/
theorem forGo_inv {asg : Asg} {body : MS} {Inv : Nat → Env' → Prop} : ∀ {xs : List D} {i : Nat} {ρ : Env'}, (∀ k x ρ, xs[k]? = some x → Inv (i + k) ρ → ∃ ρ1 ρ2, asg x ρ = some ρ1 ∧ (body ρ1 = .next ρ2 ∨ body ρ1 = .cnt ρ2) ∧ Inv (i + k + 1) ρ2) → Inv i ρ →
    ∃ ρ', forGo asg body xs ρ = .next ρ' ∧ Inv (i + xs.length) ρ'
  | [], i, ρ, _, h => ⟨ρ, rfl, h⟩
  | x :: xs, i, ρ, step, h => by
    obtain ⟨ρ1, ρ2, e1, e2, h2⟩ := step 0 x ρ rfl h
    obtain ⟨ρ', e3, h3⟩ := forGo_inv (xs := xs) (i := i + 1) (ρ := ρ2) (fun k y ρ e q => by
      obtain ⟨a, b, c1, c2, c3⟩ := step (k + 1) y ρ (by simpa using e) (by rw [show i + (k + 1) = i + 1 + k by omega]; exact q)
      exact ⟨a, b, c1, c2, by rw [show i + 1 + k + 1 = i + (k + 1) + 1 by omega]; exact c3⟩) h2
    refine ⟨ρ', ?_, by rw [List.length_cons, show i + (xs.length + 1) = i + 1 + xs.length by omega]; exact h3⟩
    unfold forGo
    rw [e1]
    rcases e2 with e2 | e2 <;> (dsimp only; rw [e2]; exact e3)
/-- .. by a fold -/
theorem forGo_fold {α β : Type} {asg : Asg} {body : MS} {mk : α → D} {I : β → Env' → Prop} {step : β → α → β} : ∀ {l : List α} {b : β} {ρ : Env'}, (∀ a ∈ l, ∀ b ρ, I b ρ → ∃ ρ1 ρ2, asg (mk a) ρ = some ρ1 ∧ (body ρ1 = .next ρ2 ∨ body ρ1 = .cnt ρ2) ∧ I (step b a) ρ2) → I b ρ →
    ∃ ρ', forGo asg body (l.map mk) ρ = .next ρ' ∧ I (l.foldl step b) ρ'
  | [], b, ρ, _, h => ⟨ρ, rfl, h⟩
  | a :: l, b, ρ, st, h => by
    obtain ⟨ρ1, ρ2, e1, e2, h2⟩ := st a List.mem_cons_self b ρ h
    obtain ⟨ρ', e3, h3⟩ := forGo_fold (l := l) (fun x hx => st x (List.mem_cons_of_mem _ hx)) h2
    refine ⟨ρ', ?_, h3⟩
    rw [List.map_cons]
    unfold forGo
    rw [e1]
    rcases e2 with e2 | e2 <;> (dsimp only; rw [e2]; exact e3)
/-! ### names of data -/
abbrev vI (v : List Int) : D := .tup (v.map .int)
abbrev mI (m : List (List Int)) : D := .tup (m.map vI)
theorem zip_ii : ∀ (a b : List Int), zipD (a.map .int) (b.map .int) = (a.zip b).map fun q => .tup [.int q.1, .int q.2]
  | [], _ => by simp [zipD]
  | _ :: _, [] => by simp [zipD]
  | x :: a, y :: b => by simp only [List.map_cons, zipD, List.zip_cons_cons, zip_ii a b]
theorem zip_iv : ∀ (a : List Int) (b : List (List Int)), zipD (a.map .int) (b.map vI) = (a.zip b).map fun q => .tup [.int q.1, vI q.2]
  | [], _ => by simp [zipD]
  | _ :: _, [] => by simp [zipD]
  | x :: a, y :: b => by simp only [List.map_cons, zipD, List.zip_cons_cons, zip_iv a b]
theorem boolsOf_map : ∀ (l : List Bool), boolsOf (l.map .bl) = some l
  | [] => rfl
  | b :: l => by simp [boolsOf, boolsOf_map l]
theorem intsOf_map : ∀ (l : List Int), intsOf (l.map .int) = some l
  | [] => rfl
  | b :: l => by simp [intsOf, intsOf_map l]
/-! ### small data: == and repr -/
/-- depth at most k, weight at most n, ints of at most eight signs -/
def Sm (k n : Nat) (d : D) : Prop := ∃ p, toPy d = some p ∧ p.canLay0 = true ∧ p.showable = true ∧ p.depth ≤ k ∧ p.leavesShort 8 = true ∧ p.weight ≤ n
def shD (d : D) : Str := match toPy d with
  | some p => p.shown
  | none => ""
theorem Sm.mono {k n k' n' : Nat} {d : D} (h : Sm k n d) (a : k ≤ k') (b : n ≤ n') : Sm k' n' d := by
  obtain ⟨p, h1, h2, h3, h4, h5, h6⟩ := h
  exact ⟨p, h1, h2, h3, by omega, h5, by omega⟩
theorem short_all : ∀ i : Nat, i < 1000 → ((PyData.shown (.int (i : Int))).length ≤ 8) := by
  have h : (List.range 1000).all (fun i => decide ((PyData.shown (.int (i : Int))).length ≤ 8)) = true := by decide +kernel
  intro i hi
  exact of_decide_eq_true (List.all_eq_true.mp h i (List.mem_range.mpr hi))
theorem sm_int {i : Int} (h : 0 ≤ i ∧ i < 1000) : Sm 0 20 (.int i) := by
  obtain ⟨n, rfl⟩ := Int.eq_ofNat_of_zero_le h.1
  have hn : n < 1000 := by omega
  refine ⟨.int n, rfl, rfl, ?_, Nat.le_refl _, ?_, ?_⟩
  · have h2 := Nat.log2_le_self n
    exact decide_eq_true (show ((n : Int).natAbs).log2 < 1920 by simp; omega)
  · exact decide_eq_true (short_all n hn)
  · simp [PyData.weight]
    split
    · omega
    · rename_i h0
      have : n.log2 < 10 := (Nat.log2_lt h0).mpr (by omega)
      omega
theorem sm_all {k n : Nat} : ∀ {xs : List D}, (∀ x ∈ xs, Sm k n x) → ∃ ps, toPys xs = some ps ∧ PyData.canLayAll0 ps = true ∧ PyData.showableAll ps = true ∧ PyData.depthAll ps ≤ k ∧ PyData.leavesShortAll 8 ps = true ∧ PyData.weightAll ps ≤ xs.length * (n + 1)
  | [], _ => ⟨[], rfl, rfl, rfl, Nat.zero_le _, rfl, by simp [PyData.weightAll]⟩
  | x :: xs, h => by
    obtain ⟨p, a1, a2, a3, a4, a5, a6⟩ := h x List.mem_cons_self
    obtain ⟨ps, b1, b2, b3, b4, b5, b6⟩ := sm_all (xs := xs) fun y hy => h y (List.mem_cons_of_mem _ hy)
    refine ⟨p :: ps, by simp [toPys, a1, b1], by simp [PyData.canLayAll0, a2, b2], by simp [PyData.showableAll, a3, b3], ?_, by simp [PyData.leavesShortAll, a5, b5], ?_⟩
    · simp only [PyData.depthAll]; omega
    · simp only [PyData.weightAll, List.length_cons, Nat.add_mul, Nat.one_mul]; omega
theorem sm_tup {k n m : Nat} {xs : List D} (h : ∀ x ∈ xs, Sm k n x) (hm : xs.length * (n + 1) ≤ m) : Sm (k + 1) m (.tup xs) := by
  obtain ⟨ps, b1, b2, b3, b4, b5, b6⟩ := sm_all h
  exact ⟨.tuple ps, by simp [toPy, b1], by simpa [PyData.canLay0] using b2, by simpa [PyData.showable] using b3, by simp only [PyData.depth]; omega, by simpa [PyData.leavesShort] using b5, by simp only [PyData.weight]; omega⟩
theorem sm_lst {k n m : Nat} {xs : List D} (h : ∀ x ∈ xs, Sm k n x) (hm : xs.length * (n + 1) ≤ m) : Sm (k + 1) m (.lst xs) := by
  obtain ⟨ps, b1, b2, b3, b4, b5, b6⟩ := sm_all h
  exact ⟨.list ps, by simp [toPy, b1], by simpa [PyData.canLay0] using b2, by simpa [PyData.showable] using b3, by simp only [PyData.depth]; omega, by simpa [PyData.leavesShort] using b5, by simp only [PyData.weight]; omega⟩
theorem Sm.repr {k n : Nat} {d : D} (h : Sm k n d) (hk : k ≤ 64) (hn : n ≤ 1048576) : opRepr d = some (.d (.str (shD d))) := by
  obtain ⟨p, h1, h2, h3, h4, h5, h6⟩ := h
  have b : reprB p = true := by
    unfold reprB
    rw [h3, PyData.hasDict_of_canLay p h2]
    have f := PyData.shown_fits (B := 8) (by omega) (by omega) h5 (by omega)
    rw [sizeLine_eq] at f
    simp [szB, f, show p.depth ≤ 64 by omega]
  unfold opRepr shD
  rw [h1]
  simp [b]
theorem Sm.eqD {k n : Nat} {d : D} (h : Sm k n d) (hk : k ≤ 64) : eqD d d = some true := by
  obtain ⟨p, h1, h2, h3, h4, h5, h6⟩ := h
  have s : SeqAt.shaped p = true := by
    unfold SeqAt.shaped
    rw [h2]
    simp [show p.depth ≤ 64 by omega]
  unfold DL.eqD
  rw [h1]
  simp [s, SeqAt.eqv_refl p h2]
theorem opEq_int (i j : Int) : opEq (.int i) (.int j) = some (.d (.bl (i == j))) := rfl
theorem opNe_int (i j : Int) : opNe (.int i) (.int j) = some (.d (.bl (!(i == j)))) := rfl
theorem opEq_str (i j : Str) : opEq (.str i) (.str j) = some (.d (.bl (i == j))) := rfl
theorem opNe_str (i j : Str) : opNe (.str i) (.str j) = some (.d (.bl (!(i == j)))) := rfl
theorem Sm.tne {k n : Nat} {xs : List D} (h : Sm k n (.tup xs)) (hk : k ≤ 64) : opNe (.tup xs) (.tup xs) = some (.d (.bl false)) := by
  show (DL.eqD _ _).map _ = _
  rw [h.eqD hk]
  rfl
theorem rngOk_s {i : Int} (h1 : -1000000 ≤ i) (h2 : i ≤ 1000000) : rngOk i = true := by
  cases i with
  | ofNat n =>
    have h : (n : Int) ≤ 1000000 := h2
    exact Nat.ble_eq_true_of_le (by omega)
  | negSucc n => exact Nat.ble_eq_true_of_le (by omega)
theorem rng1_n {w : Nat} (h : w ≤ 1000000) : rng1 [.int w] = some ((List.range w).map fun (k : Nat) => .int (k : Int)) := by
  show (if rngOk w then some ((List.range (w : Int).toNat).map fun (k : Nat) => D.int (0 + (k : Int))) else none) = _
  rw [if_pos (rngOk_s (by omega) (by omega)), Int.toNat_natCast]
  simp only [Int.zero_add]
theorem rng1_i {w : Int} (h0 : 0 ≤ w) (h : w ≤ 1000000) : rng1 [.int w] = some ((List.range w.toNat).map fun (k : Nat) => .int (k : Int)) := by
  obtain ⟨n, rfl⟩ := Int.eq_ofNat_of_zero_le h0
  exact rng1_n (w := n) (by omega)
theorem szB_le {n : Nat} (h : n ≤ 16777216) : szB n = true := decide_eq_true h
end DL

/-! ## DQ -/
set_option Elab.async false
set_option linter.all false
set_option maxRecDepth 100000
set_option maxHeartbeats 1000000
/-! DQ: plain facts that the laws share: sizes, the pot of draws, lists of data. -/
namespace DL
open PySem L2
theorem mulB_s {a b : Int} (h : 0 ≤ a ∧ a < 1000) (g : 0 ≤ b ∧ b < 1000) : mulB a b = true := by
  unfold mulB
  have h1 := Nat.log2_le_self a.natAbs
  have h2 := Nat.log2_le_self b.natAbs
  have h3 : a.natAbs < 1000 := by omega
  have h4 : b.natAbs < 1000 := by omega
  exact decide_eq_true (by omega)
theorem log2_lt' {i : Int} {k : Nat} (h : i.natAbs < 2 ^ k) (hk : 0 < k) : i.natAbs.log2 < k := by
  by_cases z : i.natAbs = 0
  · rw [z]
    simpa using hk
  · exact (Nat.log2_lt z).mpr h
theorem mulB_k {i j : Int} (h : i.natAbs < 2 ^ 4000) (g : j.natAbs < 2 ^ 4000) : mulB i j = true := by
  have h1 := log2_lt' h (by decide)
  have h2 := log2_lt' g (by decide)
  exact decide_eq_true (by omega)
theorem opDiv_k {i j : Int} (h0 : 0 < j) (h : j.natAbs < 2 ^ 4000) : opDiv (.int i) (.int j) = some (.d (.int (i / j))) := by
  have h1 := log2_lt' h (by decide)
  exact if_pos (decide_eq_true ⟨h0, by omega⟩)
theorem opPow_k {i : Int} {n : Nat} (h1 : -(2 ^ 64) < i) (h2 : i < 2 ^ 64) (hn : n ≤ 1000) : opPow (.int i) (.int n) = some (.d (.int (i ^ n))) := by
  have h := intBits_le_64 h1 h2
  have b : powB i (n : Int) = true := Nat.ble_eq_true_of_le (by
    have : Builtin.Int.intBits i * n ≤ 64 * 1000 := Nat.mul_le_mul h hn
    omega)
  show (if powB i (n : Int) then some (P.d (.int (i ^ (n : Int).toNat))) else none) = _
  rw [if_pos b, Int.toNat_natCast]
/-- the pot behind at most t draws -/
def Pot (t : Nat) (o : O) : Prop := ∃ a b c : Int, o = .lst [.int a, .int b, .int c] ∧ 0 ≤ b ∧ b < 2305843009213693951 ∧ 0 ≤ c ∧ c ≤ t
theorem small_4000 {i : Int} (h1 : -(2 ^ 64) < i) (h2 : i < 2 ^ 64) : i.natAbs < 2 ^ 4000 := by
  have h : i.natAbs < 2 ^ 64 := by omega
  have : (2 : Nat) ^ 64 < 2 ^ 4000 := Nat.pow_lt_pow_right (by decide) (by decide)
  omega
theorem ints_of {Q : Int → Prop} : ∀ {ds : List D}, (∀ d ∈ ds, ∃ x, d = .int x ∧ Q x) → ∃ v : List Int, ds = v.map .int ∧ ∀ x ∈ v, Q x
  | [], _ => ⟨[], rfl, fun x h => nomatch h⟩
  | d :: ds, h => by
    obtain ⟨x, e, q⟩ := h d List.mem_cons_self
    obtain ⟨v, e2, q2⟩ := ints_of (ds := ds) fun y hy => h y (List.mem_cons_of_mem _ hy)
    exact ⟨x :: v, by rw [e, e2]; rfl, fun y hy => (List.mem_cons.mp hy).elim (fun z => by rw [z]; exact q) (q2 y)⟩
theorem vecs_of {Q : List Int → Prop} : ∀ {ds : List D}, (∀ d ∈ ds, ∃ x, d = vI x ∧ Q x) → ∃ v : List (List Int), ds = v.map vI ∧ ∀ x ∈ v, Q x
  | [], _ => ⟨[], rfl, fun x h => nomatch h⟩
  | d :: ds, h => by
    obtain ⟨x, e, q⟩ := h d List.mem_cons_self
    obtain ⟨v, e2, q2⟩ := vecs_of (ds := ds) fun y hy => h y (List.mem_cons_of_mem _ hy)
    exact ⟨x :: v, by rw [e, e2]; rfl, fun y hy => (List.mem_cons.mp hy).elim (fun z => by rw [z]; exact q) (q2 y)⟩
theorem powers : ∃ T Mo E : Int, opPow (.int 10) (.int 60) = some (.d (.int T)) ∧ opPow (.int T) (.int 14) = some (.d (.int Mo)) ∧ 0 < Mo ∧ Mo.natAbs < 2 ^ 3998 ∧ opPow (.int 10) (.int 18) = some (.d (.int E)) ∧ 0 < E ∧ E.natAbs < 2 ^ 64 :=
  ⟨10 ^ 60, (10 ^ 60) ^ 14, 10 ^ 18, by kernel_rfl, by kernel_rfl, by decide +kernel, by decide +kernel, by kernel_rfl, by decide +kernel, by decide +kernel⟩
theorem seq_next {s t : MS} {ρ ρ' : Env'} (h : s ρ = .next ρ') : sSeq s t ρ = t ρ' := by
  unfold sSeq
  rw [h]
theorem mn_8 (n : Nat) : opMin (.int 8) (.int (n : Int)) = some (.d (.int ((min 8 n : Nat) : Int))) := by
  show some (P.d (.int (if (n : Int) < 8 then (n : Int) else 8))) = _
  congr 3
  split <;> omega
theorem mx_1 (n : Nat) : opMax (.int 1) (.int (n : Int)) = some (.d (.int ((max 1 n : Nat) : Int))) := by
  show some (P.d (.int (if (n : Int) > 1 then (n : Int) else 1))) = _
  congr 3
  split <;> omega
theorem rng2_i {i j : Int} (h1 : -1000000 ≤ i) (h2 : i ≤ 1000000) (h3 : -1000000 ≤ j) (h4 : j ≤ 1000000) : rng2 [.int i, .int j] = some ((List.range (j - i).toNat).map fun (k : Nat) => .int (i + (k : Int))) := by
  show (if rngOk i && rngOk j then _ else _) = _
  rw [rngOk_s h1 h2, rngOk_s h3 h4]
  rfl
theorem lcGo_skips {vs : List Nat} {asg : Asg} {t : M Bool} {f : M R} {ρ : Env'} {acc : List D} : ∀ {xs : List D}, (∀ x ∈ xs, turn vs asg t f x ρ = some (none, ρ)) → lcGo vs asg t f xs acc ρ = .ok acc ρ
  | [], _ => rfl
  | x :: xs, h => by rw [lcGo_skip (h x List.mem_cons_self), lcGo_skips fun y hy => h y (List.mem_cons_of_mem _ hy)]
theorem in_i (v : Int) (ns : List Int) : opIn (.int v) (.lst (ns.map .int)) = some (.d (.bl (ns.any fun n => n == v))) := by
  show ((intsOf (ns.map .int)).map fun l => l.any fun n => n == v).map _ = _
  rw [intsOf_map]
  rfl
theorem rep_b (b : Bool) : opRepr (.bl b) = some (.d (.str (if b then "True" else "False"))) := by cases b <;> kernel_rfl
theorem isi_ii (i : Int) : opIsi (.int i) (.ty "int") = some (.d (.bl true)) := rfl
theorem isi_ib (i : Int) : opIsi (.int i) (.ty "bool") = some (.d (.bl false)) := rfl
theorem isi_bi (b : Bool) : opIsi (.bl b) (.ty "int") = some (.d (.bl true)) := rfl
theorem isi_bb (b : Bool) : opIsi (.bl b) (.ty "bool") = some (.d (.bl true)) := rfl
theorem isi_tt (xs : List D) : opIsi (.tup xs) (.ty "tuple") = some (.d (.bl true)) := rfl
theorem isi_ll (xs : List D) : opIsi (.lst xs) (.ty "list") = some (.d (.bl true)) := rfl
theorem isi_it (i : Int) : opIsi (.int i) (.ty "tuple") = some (.d (.bl false)) := rfl
theorem isi_lt (xs : List D) : opIsi (.lst xs) (.ty "tuple") = some (.d (.bl false)) := rfl
theorem isi_ti (xs : List D) : opIsi (.tup xs) (.ty "int") = some (.d (.bl false)) := rfl
theorem isi_li (xs : List D) : opIsi (.lst xs) (.ty "int") = some (.d (.bl false)) := rfl
theorem isi_ss (x : Str) : opIsi (.str x) (.ty "str") = some (.d (.bl true)) := rfl
end DL

/-! ## DW -/
set_option Elab.async false
set_option linter.all false
set_option maxRecDepth 100000
set_option maxHeartbeats 1000000
/-! DW: comprehensions with a test; data that can be shown; lists of texts; draws from written lists. -/
namespace DL
open PySem L2
theorem lcGo_filter {α : Type} {vs : List Nat} {asg : Asg} {t : M Bool} {f : M R} {mk g : α → D} {q : α → Bool} {ρ : Env'} : ∀ {l : List α} {acc : List D}, (∀ a ∈ l, turn vs asg t f (mk a) ρ = some (if q a then some (g a) else none, ρ)) → acc.length + l.length ≤ 16777216 →
    lcGo vs asg t f (l.map mk) acc ρ = .ok (acc ++ (l.filter q).map g) ρ
  | [], acc, _, _ => by
    rw [List.map_nil, List.filter_nil, List.map_nil, List.append_nil]
    rfl
  | a :: l, acc, h, hz => by
    have hz : acc.length + (l.length + 1) ≤ 16777216 := hz
    have h0 := h a List.mem_cons_self
    have hr := fun b hb => h b (List.mem_cons_of_mem _ hb)
    rw [List.map_cons]
    cases e : q a with
    | true =>
      rw [e] at h0
      rw [lcGo_turn h0 (by omega), lcGo_filter hr (by rw [List.length_append, List.length_singleton]; omega), List.filter_cons_of_pos e, List.map_cons, List.append_assoc]
      rfl
    | false =>
      rw [e] at h0
      rw [lcGo_skip h0, lcGo_filter hr (by omega), List.filter_cons_of_neg (by rw [e]; exact Bool.false_ne_true)]
/-! ### what can be shown -/
mutual
theorem toPy_R : ∀ (d : D) (p : PyData), toPy d = some p → toPyR d = some p ∧ p.hasDict = false
  | .non, p, h => by simp only [toPy] at h; cases h; exact ⟨by simp only [toPyR], rfl⟩
  | .bl b, p, h => by simp only [toPy] at h; cases h; exact ⟨by simp only [toPyR], rfl⟩
  | .int b, p, h => by simp only [toPy] at h; cases h; exact ⟨by simp only [toPyR], rfl⟩
  | .str b, p, h => by simp only [toPy] at h; cases h; exact ⟨by simp only [toPyR], rfl⟩
  | .tup xs, p, h => by
    simp only [toPy] at h
    obtain ⟨ps, e, rfl⟩ := Option.map_eq_some_iff.mp h
    obtain ⟨a, b⟩ := toPys_R xs ps e
    exact ⟨by simp only [toPyR, a, Option.map_some], b⟩
  | .lst xs, p, h => by
    simp only [toPy] at h
    obtain ⟨ps, e, rfl⟩ := Option.map_eq_some_iff.mp h
    obtain ⟨a, b⟩ := toPys_R xs ps e
    exact ⟨by simp only [toPyR, a, Option.map_some], b⟩
  | .fn a, p, h => by simp only [toPy] at h; cases h
  | .ty a, p, h => by simp only [toPy] at h; cases h
  | .scr a, p, h => by simp only [toPy] at h; cases h
  | .dct a b, p, h => by simp only [toPy] at h; cases h
  | .ins a b c, p, h => by simp only [toPy] at h; cases h
  | .exh a b c d e, p, h => by simp only [toPy] at h; cases h
  | .obj a b, p, h => by simp only [toPy] at h; cases h
  | .cl a, p, h => by simp only [toPy] at h; cases h
  | .exv a b c, p, h => by simp only [toPy] at h; cases h
theorem toPys_R : ∀ (xs : List D) (ps : List PyData), toPys xs = some ps → toPyRs xs = some ps ∧ PyData.hasDictAll ps = false
  | [], ps, h => by simp only [toPys] at h; cases h; exact ⟨by simp only [toPyRs], rfl⟩
  | x :: xs, ps, h => by
    simp only [toPys] at h
    cases e1 : toPy x with
    | none => simp only [e1] at h; cases h
    | some p =>
      cases e2 : toPys xs with
      | none => simp only [e1, e2] at h; cases h
      | some qs =>
        simp only [e1, e2] at h
        cases h
        obtain ⟨a1, a2⟩ := toPy_R x p e1
        obtain ⟨b1, b2⟩ := toPys_R xs qs e2
        exact ⟨by simp only [toPyRs, a1, b1], by simp only [PyData.hasDictAll, a2, b2, Bool.or_self]⟩
end
/-- data that repr shows: depth at most k, weight at most n -/
def Rp (k n : Nat) (d : D) : Prop := ∃ p, toPyR d = some p ∧ p.showable = true ∧ p.depth ≤ k ∧ p.leavesShort 64 = true ∧ p.weight ≤ n
def shR (d : D) : Str := match toPyR d with
  | some p => p.shown
  | none => ""
theorem Rp.mono {k n k' n' : Nat} {d : D} (h : Rp k n d) (a : k ≤ k') (b : n ≤ n') : Rp k' n' d := by
  obtain ⟨p, h1, h3, h4, h5, h6⟩ := h
  exact ⟨p, h1, h3, by omega, h5, by omega⟩
theorem Rp.repr {k n : Nat} {d : D} (h : Rp k n d) (hk : k ≤ 64) (hn : n ≤ 200000) : opRepr d = some (.d (.str (shR d))) ∧ (shR d).length ≤ 66 * n + 64 := by
  obtain ⟨p, h1, h3, h4, h5, h6⟩ := h
  have f := PyData.shown_le 64 (by omega) p h5
  have f2 : p.shown.length ≤ 66 * n + 64 := by omega
  have hs : shR d = p.shown := by unfold shR; rw [h1]
  rw [hs]
  refine ⟨?_, f2⟩
  unfold opRepr
  cases e : toPy d with
  | some q =>
    obtain ⟨a, b⟩ := toPy_R d q e
    cases h1.symm.trans a
    have : reprB p = true := by
      unfold reprB
      rw [h3, b]
      simp [szB, show p.shown.length ≤ 16777216 by omega, show p.depth ≤ 64 by omega]
    dsimp only
    rw [if_pos this]
  | none =>
    dsimp only
    rw [h1]
    have : reprC p = true := by
      unfold reprC
      rw [h3]
      simp [szB, show p.shown.length ≤ 16777216 by omega, show p.depth ≤ 64 by omega]
    dsimp only
    rw [if_pos this]
theorem rp_all {k n : Nat} : ∀ {xs : List D}, (∀ x ∈ xs, Rp k n x) → ∃ ps, toPyRs xs = some ps ∧ PyData.showableAll ps = true ∧ PyData.depthAll ps ≤ k ∧ PyData.leavesShortAll 64 ps = true ∧ PyData.weightAll ps ≤ xs.length * (n + 1)
  | [], _ => ⟨[], by simp only [toPyRs], rfl, Nat.zero_le _, rfl, by simp [PyData.weightAll]⟩
  | x :: xs, h => by
    obtain ⟨p, a1, a3, a4, a5, a6⟩ := h x List.mem_cons_self
    obtain ⟨ps, b1, b3, b4, b5, b6⟩ := rp_all (xs := xs) fun y hy => h y (List.mem_cons_of_mem _ hy)
    refine ⟨p :: ps, by simp only [toPyRs, a1, b1], by simp [PyData.showableAll, a3, b3], ?_, by simp [PyData.leavesShortAll, a5, b5], ?_⟩
    · simp only [PyData.depthAll]; omega
    · simp only [PyData.weightAll, List.length_cons, Nat.add_mul, Nat.one_mul]; omega
theorem rp_tup {k n m : Nat} {xs : List D} (h : ∀ x ∈ xs, Rp k n x) (hm : xs.length * (n + 1) ≤ m) : Rp (k + 1) m (.tup xs) := by
  obtain ⟨ps, b1, b3, b4, b5, b6⟩ := rp_all h
  exact ⟨.tuple ps, by simp only [toPyR, b1, Option.map_some], by simpa [PyData.showable] using b3, by simp only [PyData.depth]; omega, by simpa [PyData.leavesShort] using b5, by simp only [PyData.weight]; omega⟩
theorem rp_lst {k n m : Nat} {xs : List D} (h : ∀ x ∈ xs, Rp k n x) (hm : xs.length * (n + 1) ≤ m) : Rp (k + 1) m (.lst xs) := by
  obtain ⟨ps, b1, b3, b4, b5, b6⟩ := rp_all h
  exact ⟨.list ps, by simp only [toPyR, b1, Option.map_some], by simpa [PyData.showable] using b3, by simp only [PyData.depth]; omega, by simpa [PyData.leavesShort] using b5, by simp only [PyData.weight]; omega⟩
theorem Sm.rp {k n : Nat} {d : D} (h : ∃ i : Int, d = .int i ∧ 0 ≤ i ∧ i < 1000) : Rp 0 20 d := by
  obtain ⟨i, rfl, hi⟩ := h
  obtain ⟨p, h1, h2, h3, h4, h5, h6⟩ := sm_int hi
  cases h1
  refine ⟨.int i, by simp only [toPyR], h3, h4, ?_, h6⟩
  have : (PyData.shown (.int i)).length ≤ 8 := of_decide_eq_true h5
  exact decide_eq_true (by omega)
theorem rp_int {i : Int} (h : 0 ≤ i ∧ i < 1000) : Rp 0 20 (.int i) := Sm.rp (k := 0) (n := 0) ⟨i, rfl, h⟩
def rpB (k n : Nat) (d : D) : Bool := match toPyR d with
  | some p => p.showable && decide (p.depth ≤ k) && p.leavesShort 64 && decide (p.weight ≤ n)
  | none => false
theorem rpB_ok {k n : Nat} {d : D} (h : rpB k n d = true) : Rp k n d := by
  unfold rpB at h
  cases e : toPyR d with
  | none => rw [e] at h; cases h
  | some p =>
    rw [e] at h
    simp only [Bool.and_eq_true, decide_eq_true_eq] at h
    exact ⟨p, e, h.1.1.1, h.1.1.2, h.1.2, h.2⟩
theorem big40 : ∃ B : Int, opPow (.int 10) (.int 40) = some (.d (.int B)) ∧ 1000 < B ∧ Rp 0 200 (.int B) ∧ PyData.strOk (shR (.int B)) = true :=
  ⟨10 ^ 40, by kernel_rfl, by decide +kernel, rpB_ok (by decide +kernel), by decide +kernel⟩
/-! ### lists of texts -/
theorem toPys_strs : ∀ l : List Str, toPys (l.map .str) = some (l.map .str)
  | [] => rfl
  | x :: l => by simp only [List.map_cons, toPys, toPy, toPys_strs l]
theorem lay_strs : ∀ l : List Str, (∀ x ∈ l, PyData.strOk x = true) → PyData.canLayAll0 (l.map .str) = true ∧ PyData.depthAll (l.map .str) = 0
  | [], _ => ⟨rfl, rfl⟩
  | x :: l, h => by
    obtain ⟨a, b⟩ := lay_strs l fun y hy => h y (List.mem_cons_of_mem _ hy)
    exact ⟨by simp [PyData.canLayAll0, PyData.canLay0, a, h x List.mem_cons_self], by simp [PyData.depthAll, PyData.depth, b]⟩
theorem eq_strs {l : List Str} (h : ∀ x ∈ l, PyData.strOk x = true) : opEq (.lst (l.map .str)) (.lst (l.map .str)) = some (.d (.bl true)) := by
  show (eqD _ _).map _ = _
  obtain ⟨a, b⟩ := lay_strs l h
  have t : toPy (.lst (l.map .str)) = some (.list (l.map .str)) := by simp only [toPy, toPys_strs, Option.map_some]
  have cl : (PyData.list (l.map .str)).canLay0 = true := by simpa [PyData.canLay0] using a
  have s : SeqAt.shaped (PyData.list (l.map .str)) = true := by
    unfold SeqAt.shaped
    rw [cl]
    simp [PyData.depth, b]
  unfold eqD
  rw [t]
  simp [s, SeqAt.eqv_refl _ cl]
theorem strOk_app {x y : Str} (h : PyData.strOk x = true) (g : PyData.strOk y = true) : PyData.strOk (x ++ y) = true := by
  show (x.cps ++ y.cps).all _ = true
  unfold PyData.strOk at h g
  rw [Array.all_append, h, g]
  rfl
theorem ix_mem {xs : List D} {n : Int} (h0 : 0 ≤ n) (h1 : n < (xs.length : Int)) : ∃ d ∈ xs, opIx (.lst xs) (.int n) = some (.d d) := by
  obtain ⟨k, rfl⟩ := Int.eq_ofNat_of_zero_le h0
  have hk : k < xs.length := by omega
  refine ⟨xs[k], List.getElem_mem hk, ?_⟩
  simp [opIx, atI, ixN, h1, hk]
theorem add_str {x y : Str} (h1 : x.length ≤ 1000000) (h2 : y.length ≤ 10000000) : opAdd (.str x) (.str y) = some (.d (.str (x ++ y))) := if_pos (szB_le (by omega))
end DL

/-! ## DB -/
set_option Elab.async false
set_option linter.all false
set_option maxRecDepth 100000
set_option maxHeartbeats 1000000
/-! DB: == of vectors and matrices of whole numbers. -/
namespace DL
open PySem L2
theorem toPys_ints : ∀ l : List Int, toPys (l.map .int) = some (l.map PyData.int)
  | [] => rfl
  | i :: l => by simp only [List.map_cons, toPys, toPy, toPys_ints l]
theorem lay_ints : ∀ l : List Int, PyData.canLayAll0 (l.map .int) = true ∧ PyData.depthAll (l.map .int) = 0
  | [] => ⟨rfl, rfl⟩
  | i :: l => by
    obtain ⟨a, b⟩ := lay_ints l
    exact ⟨by simp [PyData.canLayAll0, PyData.canLay0, a], by simp [PyData.depthAll, PyData.depth, b]⟩
theorem eqvAll_ints : ∀ l m : List Int, PyData.eqvAll (l.map .int) (m.map .int) = (l == m)
  | [], [] => rfl
  | [], _ :: _ => rfl
  | _ :: _, [] => rfl
  | i :: l, j :: m => by simp only [List.map_cons, PyData.eqvAll, PyData.eqv, eqvAll_ints l m, List.cons_beq_cons]
theorem toPy_vec (l : List Int) : toPy (vI l) = some (.tuple (l.map .int)) := by
  show (toPys (l.map .int)).map _ = _
  rw [toPys_ints]
  rfl
theorem lay_vec (l : List Int) : PyData.canLay0 (.tuple (l.map .int)) = true ∧ PyData.depth (.tuple (l.map .int)) = 1 := by
  obtain ⟨a, b⟩ := lay_ints l
  exact ⟨by simp [PyData.canLay0, a], by simp [PyData.depth, b]⟩
theorem shaped_of {p : PyData} (h1 : PyData.canLay0 p = true) (h2 : PyData.depth p ≤ 64) : SeqAt.shaped p = true := by
  unfold SeqAt.shaped
  rw [h1, decide_eq_true h2]
  rfl
theorem eqD_vec (a b : List Int) : eqD (vI a) (vI b) = some (a == b) := by
  unfold eqD
  rw [toPy_vec, toPy_vec]
  obtain ⟨a1, a2⟩ := lay_vec a
  obtain ⟨b1, b2⟩ := lay_vec b
  dsimp only
  rw [shaped_of a1 (by omega), shaped_of b1 (by omega)]
  show some (PyData.eqvAll _ _) = _
  rw [eqvAll_ints]
theorem opEq_vec (a b : List Int) : opEq (vI a) (vI b) = some (.d (.bl (a == b))) := by
  show (eqD _ _).map _ = _
  rw [eqD_vec]
  rfl
theorem opNe_vec (a b : List Int) : opNe (vI a) (vI b) = some (.d (.bl (!(a == b)))) := by
  show (eqD _ _).map _ = _
  rw [eqD_vec]
  rfl
theorem toPys_vecs : ∀ l : List (List Int), toPys (l.map vI) = some (l.map fun v => PyData.tuple (v.map .int))
  | [] => rfl
  | v :: l => by simp only [List.map_cons, toPys, toPy_vec, toPys_vecs l]
theorem lay_vecs : ∀ l : List (List Int), PyData.canLayAll0 (l.map fun v => PyData.tuple (v.map .int)) = true ∧ PyData.depthAll (l.map fun v => PyData.tuple (v.map .int)) ≤ 1
  | [] => ⟨rfl, by simp [PyData.depthAll]⟩
  | v :: l => by
    obtain ⟨a, b⟩ := lay_vecs l
    obtain ⟨c, d⟩ := lay_vec v
    refine ⟨by simp only [List.map_cons, PyData.canLayAll0, a, c, Bool.and_self], ?_⟩
    simp only [List.map_cons, PyData.depthAll]
    rw [d]
    omega
theorem eqvAll_vecs : ∀ l m : List (List Int), PyData.eqvAll (l.map fun v => PyData.tuple (v.map .int)) (m.map fun v => PyData.tuple (v.map .int)) = (l == m)
  | [], [] => rfl
  | [], _ :: _ => rfl
  | _ :: _, [] => rfl
  | i :: l, j :: m => by
    simp only [List.map_cons, PyData.eqvAll, eqvAll_vecs l m, List.cons_beq_cons]
    congr 1
    exact eqvAll_ints i j
theorem toPy_mat (l : List (List Int)) : toPy (mI l) = some (.tuple (l.map fun v => PyData.tuple (v.map .int))) := by
  show (toPys (l.map vI)).map _ = _
  rw [toPys_vecs]
  rfl
theorem eqD_mat (a b : List (List Int)) : eqD (mI a) (mI b) = some (a == b) := by
  unfold eqD
  rw [toPy_mat, toPy_mat]
  obtain ⟨a1, a2⟩ := lay_vecs a
  obtain ⟨b1, b2⟩ := lay_vecs b
  dsimp only
  rw [shaped_of (by simp [PyData.canLay0, a1]) (by simp only [PyData.depth]; omega), shaped_of (by simp [PyData.canLay0, b1]) (by simp only [PyData.depth]; omega)]
  show some (PyData.eqvAll _ _) = _
  rw [eqvAll_vecs]
theorem opEq_mat (a b : List (List Int)) : opEq (mI a) (mI b) = some (.d (.bl (a == b))) := by
  show (eqD _ _).map _ = _
  rw [eqD_mat]
  rfl
theorem opNe_mat (a b : List (List Int)) : opNe (mI a) (mI b) = some (.d (.bl (!(a == b)))) := by
  show (eqD _ _).map _ = _
  rw [eqD_mat]
  rfl
theorem ne_nilV (l : List (List Int)) : opNe (.lst (l.map vI)) (.lst []) = some (.d (.bl (!l.isEmpty))) := by
  show (eqD _ _).map _ = _
  unfold eqD
  have t1 : toPy (.lst (l.map vI)) = some (.list (l.map fun v => PyData.tuple (v.map .int))) := by
    show (toPys (l.map vI)).map _ = _
    rw [toPys_vecs]
    rfl
  have t0 : toPy (.lst []) = some (.list []) := rfl
  rw [t1, t0]
  obtain ⟨a1, a2⟩ := lay_vecs l
  dsimp only
  rw [shaped_of (by simp [PyData.canLay0, a1]) (by simp only [PyData.depth]; omega), shaped_of (by decide) (by decide)]
  cases l <;> rfl
end DL

/-! ## DEn -/
set_option Elab.async false
set_option linter.all false
set_option maxRecDepth 100000
set_option maxHeartbeats 1000000
/-! DEn: == and != of nested data, by what it stands for. -/
namespace DL
open PySem L2
structure Enc {α : Type} [BEq α] (mk : α → D) (py : α → PyData) (k : Nat) : Prop where
  epy : ∀ a, toPy (mk a) = some (py a)
  lay : ∀ a, PyData.canLay0 (py a) = true
  dep : ∀ a, PyData.depth (py a) ≤ k
  eqv : ∀ a b, PyData.eqv (py a) (py b) = (a == b)
section
variable {α : Type} [BEq α] {mk : α → D} {py : α → PyData} {k : Nat}
theorem Enc.pys (h : Enc mk py k) : ∀ l : List α, toPys (l.map mk) = some (l.map py)
  | [] => rfl
  | a :: l => by
    have ih := Enc.pys h l
    simp only [List.map_cons, toPys, ih, h.epy a]
theorem Enc.lays (h : Enc mk py k) : ∀ l : List α, PyData.canLayAll0 (l.map py) = true ∧ PyData.depthAll (l.map py) ≤ k
  | [] => ⟨rfl, by simp [PyData.depthAll]⟩
  | a :: l => by
    obtain ⟨i1, i2⟩ := Enc.lays h l
    refine ⟨by simp only [List.map_cons, PyData.canLayAll0, i1, h.lay a, Bool.and_self], ?_⟩
    have := h.dep a
    simp only [List.map_cons, PyData.depthAll]
    omega
theorem Enc.eqvs (h : Enc mk py k) : ∀ l m : List α, PyData.eqvAll (l.map py) (m.map py) = (l == m)
  | [], [] => rfl
  | [], _ :: _ => rfl
  | _ :: _, [] => rfl
  | a :: l, b :: m => by simp only [List.map_cons, PyData.eqvAll, Enc.eqvs h l m, h.eqv a b, List.cons_beq_cons]
theorem Enc.tup (h : Enc mk py k) : Enc (fun l : List α => D.tup (l.map mk)) (fun l => .tuple (l.map py)) (k + 1) where
  epy l := by
    show (toPys (l.map mk)).map _ = _
    rw [h.pys]
    rfl
  lay l := by simp [PyData.canLay0, (h.lays l).1]
  dep l := by
    have := (h.lays l).2
    simp only [PyData.depth]
    omega
  eqv l m := h.eqvs l m
theorem Enc.lst (h : Enc mk py k) : Enc (fun l : List α => D.lst (l.map mk)) (fun l => .list (l.map py)) (k + 1) where
  epy l := by
    show (toPys (l.map mk)).map _ = _
    rw [h.pys]
    rfl
  lay l := by simp [PyData.canLay0, (h.lays l).1]
  dep l := by
    have := (h.lays l).2
    simp only [PyData.depth]
    omega
  eqv l m := h.eqvs l m
theorem Enc.eqD (h : Enc mk py k) (hk : k ≤ 64) (a b : α) : DL.eqD (mk a) (mk b) = some (a == b) := by
  unfold DL.eqD
  rw [h.epy, h.epy]
  have := h.dep a
  have := h.dep b
  dsimp only
  rw [shaped_of (h.lay a) (by omega), shaped_of (h.lay b) (by omega)]
  show some (PyData.eqv _ _) = _
  rw [h.eqv]
theorem Enc.teq (h : Enc mk py k) (hk : k < 64) (a b : List α) : opEq (.tup (a.map mk)) (.tup (b.map mk)) = some (.d (.bl (a == b))) := by
  show (DL.eqD _ _).map _ = _
  rw [h.tup.eqD (by omega) a b]
  rfl
theorem Enc.tne (h : Enc mk py k) (hk : k < 64) (a b : List α) : opNe (.tup (a.map mk)) (.tup (b.map mk)) = some (.d (.bl (!(a == b)))) := by
  show (DL.eqD _ _).map _ = _
  rw [h.tup.eqD (by omega) a b]
  rfl
theorem Enc.leq (h : Enc mk py k) (hk : k < 64) (a b : List α) : opEq (.lst (a.map mk)) (.lst (b.map mk)) = some (.d (.bl (a == b))) := by
  show (DL.eqD _ _).map _ = _
  rw [h.lst.eqD (by omega) a b]
  rfl
theorem Enc.lne (h : Enc mk py k) (hk : k < 64) (a b : List α) : opNe (.lst (a.map mk)) (.lst (b.map mk)) = some (.d (.bl (!(a == b)))) := by
  show (DL.eqD _ _).map _ = _
  rw [h.lst.eqD (by omega) a b]
  rfl
end
theorem enc_int : Enc D.int PyData.int 0 where
  epy _ := rfl
  lay _ := rfl
  dep _ := by simp [PyData.depth]
  eqv a b := by
    have := eqvAll_ints [a] [b]
    simpa [PyData.eqvAll] using this
theorem enc_vec : Enc vI (fun v => .tuple (v.map .int)) 1 := enc_int.tup
theorem enc_mat : Enc mI (fun m => .tuple (m.map fun v => .tuple (v.map .int))) 2 := enc_vec.tup
end DL

/-! ## K89p1 -/
set_option Elab.async false
set_option linter.all false
set_option maxRecDepth 100000
set_option maxHeartbeats 1000000
namespace K89
open PySem L2 DL LinZ
/-! the classes -/
def mN : List Str := ["InvalidModulus", "InvalidName", "InvalidVector", "InvalidMatrix", "InvalidPart", "InvalidDiagram", "InvalidEnds", "InvalidRecord", "InvalidGenerators", "InvalidBehaviour", "InvalidMachine", "InvalidOperation", "ParseError"]
def vN : List Str := ["UnknownName", "InvalidNumber", "TooLarge", "NotDriving", "Impossible", "Conflict"]
def oN : List String := ["ValueError", "KeyError", "IndexError", "LookupError", "OverflowError", "ArithmeticError", "RuntimeError"]
section
variable {c : Str} {fs : List Str} {ds : List D}
theorem isV_at {x : Str} {b : Bool} (hc : XTT.cls.contains c = true) (h : XTT.isSub c x = some b) : opIsV XTT x (.exv c fs ds) = some (.d (.bl b)) := by
  simp only [opIsV, hc, h, if_true, Option.map_some]
theorem isVt_at {t : String} {b : Bool} (hc : XTT.cls.contains c = true) (h : XTT.isBsub c t = some b) : opIsVt XTT t (.exv c fs ds) = some (.d (.bl b)) := by
  simp only [opIsVt, hc, h, if_true, Option.map_some]
theorem e_mk {bs : List Bool} (hc : XTT.cls.contains c = true) (h : mN.map (XTT.isSub c) = bs.map some) : F__law_message_kinds [.imm (.exv c fs ds)] = .ok (.imm (.lst (bs.map .bl))) [] := by
  have hl : bs.length = 13 := by have := congrArg List.length h; simpa [mN] using this.symm
  match bs, hl with
  | [b0, b1, b2, b3, b4, b5, b6, b7, b8, b9, b10, b11, b12], _ =>
    simp only [mN, List.map_cons, List.map_nil, List.cons.injEq, and_true] at h
    obtain ⟨h0, h1, h2, h3, h4, h5, h6, h7, h8, h9, h10, h11, h12⟩ := h
    have i0 := isV_at (fs := fs) (ds := ds) hc h0
    have i1 := isV_at (fs := fs) (ds := ds) hc h1
    have i2 := isV_at (fs := fs) (ds := ds) hc h2
    have i3 := isV_at (fs := fs) (ds := ds) hc h3
    have i4 := isV_at (fs := fs) (ds := ds) hc h4
    have i5 := isV_at (fs := fs) (ds := ds) hc h5
    have i6 := isV_at (fs := fs) (ds := ds) hc h6
    have i7 := isV_at (fs := fs) (ds := ds) hc h7
    have i8 := isV_at (fs := fs) (ds := ds) hc h8
    have i9 := isV_at (fs := fs) (ds := ds) hc h9
    have i10 := isV_at (fs := fs) (ds := ds) hc h10
    have i11 := isV_at (fs := fs) (ds := ds) hc h11
    have i12 := isV_at (fs := fs) (ds := ds) hc h12
    simp [F__law_message_kinds, m__law_message_kinds, i0, i1, i2, i3, i4, i5, i6, i7, i8, i9, i10, i11, i12, frO, opIsB, opNotB, xNew, xMt, tyD, opExF, opIsE, opIsEt, sRaise, sRaiseF, outF, rdO, sSeq, sIf, sb, sRet, sRetN, sSet, sOwn, sApp, sSetIx, isOwn, sAsg, asg1, asgT, asgC, asgN, sExpr, sNil, sBad, sFor, xOr, xAnd, xNot, xAsB, xAndV, xOrV, xNotV, xIf, xChain, xCall, xBin, xUn, xFn, xLc, cellsOf, backC, mb, mr, mo, aCons, aNil, xVar, xC, rdI, rdC, rdIs, two, one, isi_ii, isi_ib, isi_bi, isi_bb, isi_tt, isi_ll, isi_it, isi_lt, isi_ti, isi_li, isi_ss, opNotN, opIsN, isNonD, opLen, mP, opAdd, opSub, opMul, opMod, opCmp, opNe_int, opEq_int, toI, toIs, xTup, xLst, xIter, xZip, zip2, seqD, xRng1, xRng2, itemsD, opIx, atI, ixN, opTuple, opList, opSum, opAll, opInt, vsOk, wipeC, rsC, turn, szB]
theorem e_vk {bs : List Bool} (hc : XTT.cls.contains c = true) (h : vN.map (XTT.isSub c) = bs.map some) : F__law_value_kinds [.imm (.exv c fs ds)] = .ok (.new (.lst (bs.map .bl))) [] := by
  have hl : bs.length = 6 := by have := congrArg List.length h; simpa [vN] using this.symm
  match bs, hl with
  | [b0, b1, b2, b3, b4, b5], _ =>
    simp only [vN, List.map_cons, List.map_nil, List.cons.injEq, and_true] at h
    obtain ⟨h0, h1, h2, h3, h4, h5⟩ := h
    have i0 := isV_at (fs := fs) (ds := ds) hc h0
    have i1 := isV_at (fs := fs) (ds := ds) hc h1
    have i2 := isV_at (fs := fs) (ds := ds) hc h2
    have i3 := isV_at (fs := fs) (ds := ds) hc h3
    have i4 := isV_at (fs := fs) (ds := ds) hc h4
    have i5 := isV_at (fs := fs) (ds := ds) hc h5
    simp [F__law_value_kinds, m__law_value_kinds, i0, i1, i2, i3, i4, i5, frO, opIsB, opNotB, xNew, xMt, tyD, opExF, opIsE, opIsEt, sRaise, sRaiseF, outF, rdO, sSeq, sIf, sb, sRet, sRetN, sSet, sOwn, sApp, sSetIx, isOwn, sAsg, asg1, asgT, asgC, asgN, sExpr, sNil, sBad, sFor, xOr, xAnd, xNot, xAsB, xAndV, xOrV, xNotV, xIf, xChain, xCall, xBin, xUn, xFn, xLc, cellsOf, backC, mb, mr, mo, aCons, aNil, xVar, xC, rdI, rdC, rdIs, two, one, isi_ii, isi_ib, isi_bi, isi_bb, isi_tt, isi_ll, isi_it, isi_lt, isi_ti, isi_li, isi_ss, opNotN, opIsN, isNonD, opLen, mP, opAdd, opSub, opMul, opMod, opCmp, opNe_int, opEq_int, toI, toIs, xTup, xLst, xIter, xZip, zip2, seqD, xRng1, xRng2, itemsD, opIx, atI, ixN, opTuple, opList, opSum, opAll, opInt, vsOk, wipeC, rsC, turn, szB]
theorem e_okk {bs : List Bool} (hc : XTT.cls.contains c = true) (h : oN.map (XTT.isBsub c) = bs.map some) : F__law_outer_kinds [.imm (.exv c fs ds)] = .ok (.new (.lst (bs.map .bl))) [] := by
  have hl : bs.length = 7 := by have := congrArg List.length h; simpa [oN] using this.symm
  match bs, hl with
  | [b0, b1, b2, b3, b4, b5, b6], _ =>
    simp only [oN, List.map_cons, List.map_nil, List.cons.injEq, and_true] at h
    obtain ⟨h0, h1, h2, h3, h4, h5, h6⟩ := h
    have i0 := isVt_at (fs := fs) (ds := ds) hc h0
    have i1 := isVt_at (fs := fs) (ds := ds) hc h1
    have i2 := isVt_at (fs := fs) (ds := ds) hc h2
    have i3 := isVt_at (fs := fs) (ds := ds) hc h3
    have i4 := isVt_at (fs := fs) (ds := ds) hc h4
    have i5 := isVt_at (fs := fs) (ds := ds) hc h5
    have i6 := isVt_at (fs := fs) (ds := ds) hc h6
    simp [F__law_outer_kinds, m__law_outer_kinds, i0, i1, i2, i3, i4, i5, i6, frO, opIsB, opNotB, xNew, xMt, tyD, opExF, opIsE, opIsEt, sRaise, sRaiseF, outF, rdO, sSeq, sIf, sb, sRet, sRetN, sSet, sOwn, sApp, sSetIx, isOwn, sAsg, asg1, asgT, asgC, asgN, sExpr, sNil, sBad, sFor, xOr, xAnd, xNot, xAsB, xAndV, xOrV, xNotV, xIf, xChain, xCall, xBin, xUn, xFn, xLc, cellsOf, backC, mb, mr, mo, aCons, aNil, xVar, xC, rdI, rdC, rdIs, two, one, isi_ii, isi_ib, isi_bi, isi_bb, isi_tt, isi_ll, isi_it, isi_lt, isi_ti, isi_li, isi_ss, opNotN, opIsN, isNonD, opLen, mP, opAdd, opSub, opMul, opMod, opCmp, opNe_int, opEq_int, toI, toIs, xTup, xLst, xIter, xZip, zip2, seqD, xRng1, xRng2, itemsD, opIx, atI, ixN, opTuple, opList, opSum, opAll, opInt, vsOk, wipeC, rsC, turn, szB]
end
theorem enc_bl : Enc D.bl PyData.bool 0 where
  epy _ := rfl
  lay _ := rfl
  dep _ := by simp [PyData.depth]
  eqv a b := by cases a <;> cases b <;> rfl
/-! with a message -/
theorem e_with (z : Str) : F__law_with_messages [.imm (.str z)] = .ok (.new (.lst (mN.map fun c => .exv c [] []))) [] := by
  simp [F__law_with_messages, m__law_with_messages, mN, xExM, frO, opIsB, opNotB, xNew, xMt, tyD, opExF, opIsE, opIsEt, sRaise, sRaiseF, outF, rdO, sSeq, sIf, sb, sRet, sRetN, sSet, sOwn, sApp, sSetIx, isOwn, sAsg, asg1, asgT, asgC, asgN, sExpr, sNil, sBad, sFor, xOr, xAnd, xNot, xAsB, xAndV, xOrV, xNotV, xIf, xChain, xCall, xBin, xUn, xFn, xLc, cellsOf, backC, mb, mr, mo, aCons, aNil, xVar, xC, rdI, rdC, rdIs, two, one, isi_ii, isi_ib, isi_bi, isi_bb, isi_tt, isi_ll, isi_it, isi_lt, isi_ti, isi_li, isi_ss, opNotN, opIsN, isNonD, opLen, mP, opAdd, opSub, opMul, opMod, opCmp, opNe_int, opEq_int, toI, toIs, xTup, xLst, xIter, xZip, zip2, seqD, xRng1, xRng2, itemsD, opIx, atI, ixN, opTuple, opList, opSum, opAll, opInt, vsOk, wipeC, rsC, turn, szB]
/-- of each class just itself -/
theorem kinds_m : ∀ a, a < 13 → XTT.cls.contains (mN.getD a "") = true ∧ mN.map (XTT.isSub (mN.getD a "")) = ((List.range 13).map fun j => decide (a = j)).map some ∧ vN.map (XTT.isSub (mN.getD a "")) = (List.replicate 6 false).map some ∧
    oN.map (XTT.isBsub (mN.getD a "")) = (true :: List.replicate 6 false).map some ∧ XTT.isSub (mN.getD a "") "DriveError" = some true := by decide +kernel
theorem kinds_b : XTT.cls.contains "DriveError" = true ∧ mN.map (XTT.isSub "DriveError") = (List.replicate 13 false).map some ∧ vN.map (XTT.isSub "DriveError") = (List.replicate 6 false).map some ∧ oN.map (XTT.isBsub "DriveError") = (true :: List.replicate 6 false).map some := by decide +kernel
def dueO : List (List Int) := [[1, 3], [2, 3], [4, 5], [5], [6], [3]]
theorem kinds_v : ∀ a, a < 6 → XTT.cls.contains (vN.getD a "") = true ∧ mN.map (XTT.isSub (vN.getD a "")) = (List.replicate 13 false).map some ∧ vN.map (XTT.isSub (vN.getD a "")) = ((List.range 6).map fun j => decide (a = j)).map some ∧
    oN.map (XTT.isBsub (vN.getD a "")) = ((List.range 7).map fun (j : Nat) => (dueO.getD a []).contains (j : Int)).map some ∧ XTT.isSub (vN.getD a "") "DriveError" = some false := by decide +kernel
end K89

/-! ## K89p2 -/
set_option Elab.async false
set_option linter.all false
set_option maxRecDepth 100000
set_option maxHeartbeats 1000000
namespace K89
open PySem L2 DL LinZ
/-- which of so many -/
def oneOf (n a : Nat) : List Bool := (List.range n).map fun j => decide (a = j)
theorem range_k {n : Nat} (hn : n ≤ 1000) (ρ : Env') : xRng1 (aCons (xC (.int (n : Int))) aNil) ρ = .ok ((List.range n).map fun (k : Nat) => D.int (k : Int)) ρ := by
  have rg := rng1_n (w := n) (by omega)
  simp [rg, frO, opIsB, opNotB, xNew, xMt, tyD, opExF, opIsE, opIsEt, sRaise, sRaiseF, outF, rdO, sSeq, sIf, sb, sRet, sRetN, sSet, sOwn, sApp, sSetIx, isOwn, sAsg, asg1, asgT, asgC, asgN, sExpr, sNil, sBad, sFor, xOr, xAnd, xNot, xAsB, xAndV, xOrV, xNotV, xIf, xChain, xCall, xBin, xUn, xFn, xLc, cellsOf, backC, mb, mr, mo, aCons, aNil, xVar, xC, rdI, rdC, rdIs, two, one, isi_ii, isi_ib, isi_bi, isi_bb, isi_tt, isi_ll, isi_it, isi_lt, isi_ti, isi_li, isi_ss, opNotN, opIsN, isNonD, opLen, mP, opAdd, opSub, opMul, opMod, opCmp, opNe_int, opEq_int, toI, toIs, xTup, xLst, xIter, xZip, zip2, seqD, xRng1, xRng2, itemsD, opIx, atI, ixN, opTuple, opList, opSum, opAll, opInt, vsOk, wipeC, rsC, turn, szB]
theorem ne_bl (a b : List Bool) : opNe (.lst (a.map .bl)) (.lst (b.map .bl)) = some (.d (.bl (!(a == b)))) := enc_bl.lne (by decide) a b
theorem eq_bl (a b : List Bool) : opEq (.lst (a.map .bl)) (.lst (b.map .bl)) = some (.d (.bl (a == b))) := enc_bl.leq (by decide) a b
theorem eq_k (a j : Nat) : opEq (.int (a : Int)) (.int (j : Int)) = some (.d (.bl (decide (a = j)))) := by
  rw [opEq_int]
  have : ((a : Int) == (j : Int)) = decide (a = j) := by
    by_cases h : a = j
    · simp [h]
    · have h2 : ¬ (a : Int) = (j : Int) := by omega
      simp [h, h2]
  rw [this]
theorem mess_1 {a : Nat} (r0 r1 r3 r4 : Option Cell) : xLc [5] (xRng1 (aCons (xC (.int 13)) aNil)) (asg1 5) (mr true) m__law_messages_right_1 [r0, r1, some (.imm (.int (a : Int))), r3, r4, none] = .ok (.new (.lst ((oneOf 13 a).map .bl))) [r0, r1, some (.imm (.int (a : Int))), r3, r4, none] := by
  have lc := lcGo_map (vs := [5]) (asg := asg1 5) (t := mr true) (f := m__law_messages_right_1) (mk := fun (k : Nat) => D.int (k : Int)) (g := fun (k : Nat) => D.bl (decide (a = k))) (ρ := [r0, r1, some (.imm (.int (a : Int))), r3, r4, none]) (l := List.range 13) (acc := [])
    (fun k hk => by
      have e := eq_k a k
      generalize (k : Int) = K at *
      generalize (a : Int) = A at *
      generalize decide (a = k) = B at *
      simp [m__law_messages_right_1, e, frO, opIsB, opNotB, xNew, xMt, tyD, opExF, opIsE, opIsEt, sRaise, sRaiseF, outF, rdO, sSeq, sIf, sb, sRet, sRetN, sSet, sOwn, sApp, sSetIx, isOwn, sAsg, asg1, asgT, asgC, asgN, sExpr, sNil, sBad, sFor, xOr, xAnd, xNot, xAsB, xAndV, xOrV, xNotV, xIf, xChain, xCall, xBin, xUn, xFn, xLc, cellsOf, backC, mb, mr, mo, aCons, aNil, xVar, xC, rdI, rdC, rdIs, two, one, isi_ii, isi_ib, isi_bi, isi_bb, isi_tt, isi_ll, isi_it, isi_lt, isi_ti, isi_li, isi_ss, opNotN, opIsN, isNonD, opLen, mP, opAdd, opSub, opMul, opMod, opCmp, opNe_int, opEq_int, toI, toIs, xTup, xLst, xIter, xZip, zip2, seqD, xRng1, xRng2, itemsD, opIx, atI, ixN, opTuple, opList, opSum, opAll, opInt, vsOk, wipeC, rsC, turn, szB, -opEq_int]) (by simp)
  have rg := range_k (n := 13) (by omega) [r0, r1, some (.imm (.int (a : Int))), r3, r4, none]
  have rg : xRng1 (aCons (xC (.int 13)) aNil) [r0, r1, some (.imm (.int (a : Int))), r3, r4, none] = .ok ((List.range 13).map fun (k : Nat) => D.int (k : Int)) [r0, r1, some (.imm (.int (a : Int))), r3, r4, none] := rg
  have e2 : (oneOf 13 a).map D.bl = (List.range 13).map fun (k : Nat) => D.bl (decide (a = k)) := by
    unfold oneOf
    rw [List.map_map]
    rfl
  rw [e2]
  rw [List.nil_append] at lc
  generalize (List.range 13).map (fun (k : Nat) => D.bl (decide (a = k))) = L2 at *
  generalize (List.range 13).map (fun (k : Nat) => D.int (k : Int)) = L at *
  generalize xRng1 (aCons (xC (.int 13)) aNil) = G at *
  generalize m__law_messages_right_1 = B at *
  generalize (a : Int) = A at *
  simp [rg, lc, xLc, mb, mo, mr, vsOk, wipeC, rsC]
theorem mess_2 {a : Nat} (ha : a < 13) {r0 r4 : Option Cell} : m__law_messages_right_2 [r0, some (.imm (.lst ((List.replicate 6 false).map .bl))), some (.imm (.int (a : Int))), some (.imm (.exv (mN.getD a "") [] [])), r4, none] =
    .next [r0, some (.imm (.lst ((List.replicate 6 false).map .bl))), some (.imm (.int (a : Int))), some (.imm (.exv (mN.getD a "") [] [])), r4, none] := by
  obtain ⟨k0, k1, k2, k3, k4⟩ := kinds_m a ha
  have e1 := e_mk (fs := []) (ds := []) k0 (bs := oneOf 13 a) k1
  have e2 := e_vk (fs := []) (ds := []) k0 k2
  have e3 := e_okk (fs := []) (ds := []) k0 k3
  have e4 := isV_at (fs := []) (ds := []) k0 k4
  have lc := mess_1 (a := a) r0 (some (.imm (.lst ((List.replicate 6 false).map .bl)))) (some (.imm (.exv (mN.getD a "") [] []))) r4
  have n1 := ne_bl (oneOf 13 a) (oneOf 13 a)
  have n2 := ne_bl (List.replicate 6 false) (List.replicate 6 false)
  have n3 := ne_bl (true :: List.replicate 6 false) (true :: List.replicate 6 false)
  have ad : opAdd (.lst [.bl true]) (.lst ((List.replicate 6 false).map .bl)) = some (.l ((true :: List.replicate 6 false).map .bl)) := rfl
  simp only [BEq.rfl, Bool.not_true] at n1 n2 n3
  unfold m__law_messages_right_2
  generalize (oneOf 13 a).map D.bl = L13 at *
  generalize (List.replicate 6 false).map D.bl = L6 at *
  generalize (true :: List.replicate 6 false).map D.bl = L7 at *
  generalize (D.exv (mN.getD a "") [] []) = T at *
  generalize xLc [5] (xRng1 (aCons (xC (.int 13)) aNil)) (asg1 5) (mr true) m__law_messages_right_1 = C at *
  generalize F__law_message_kinds = F1 at *
  generalize F__law_value_kinds = F2 at *
  generalize F__law_outer_kinds = F3 at *
  generalize (a : Int) = A at *
  simp [e1, e2, e3, e4, lc, n1, n2, n3, ad, frO, opIsB, opNotB, xNew, xMt, tyD, opExF, opIsE, opIsEt, sRaise, sRaiseF, outF, rdO, sSeq, sIf, sb, sRet, sRetN, sSet, sOwn, sApp, sSetIx, isOwn, sAsg, asg1, asgT, asgC, asgN, sExpr, sNil, sBad, sFor, xOr, xAnd, xNot, xAsB, xAndV, xOrV, xNotV, xIf, xChain, xCall, xBin, xUn, xFn, xLc, cellsOf, backC, mb, mr, mo, aCons, aNil, xVar, xC, rdI, rdC, rdIs, two, one, isi_ii, isi_ib, isi_bi, isi_bb, isi_tt, isi_ll, isi_it, isi_lt, isi_ti, isi_li, isi_ss, opNotN, opIsN, isNonD, opLen, mP, opAdd, opSub, opMul, opMod, opCmp, opNe_int, opEq_int, toI, toIs, xTup, xLst, xIter, xZip, zip2, seqD, xRng1, xRng2, itemsD, opIx, atI, ixN, opTuple, opList, opSum, opAll, opInt, vsOk, wipeC, rsC, turn, szB, -opAdd]
theorem enumD_map {α : Type} (f : α → D) : ∀ (i : Nat) (l : List α), enumD i (l.map f) = (l.zipIdx i).map fun q => D.tup [.int (q.2 : Int), f q.1]
  | _, [] => rfl
  | i, x :: l => by
    rw [List.map_cons, List.zipIdx_cons, List.map_cons, ← enumD_map f (i + 1) l]
    rfl
theorem enum_of : enumD 0 (mN.map fun c => D.exv c [] []) = (List.range 13).map fun (k : Nat) => D.tup [.int (k : Int), .exv (mN.getD k "") [] []] := rfl
theorem messages_ok (z : Str) : F__law_messages_right [.imm (.str z)] = .ok (.imm (.bl true)) [] := by
  have r6 : opMul (.lst [.bl false]) (.int 6) = some (.l ((List.replicate 6 false).map .bl)) := rfl
  have r13 : opMul (.lst [.bl false]) (.int 13) = some (.l ((List.replicate 13 false).map .bl)) := rfl
  have ew := e_with z
  have en := enum_of
  obtain ⟨k0, k1, k2, k3⟩ := kinds_b
  have e1 := e_mk (fs := []) (ds := []) k0 k1
  have e2 := e_vk (fs := []) (ds := []) k0 k2
  have e3 := e_okk (fs := []) (ds := []) k0 k3
  have n1 := ne_bl (List.replicate 13 false) (List.replicate 13 false)
  have n2 := ne_bl (List.replicate 6 false) (List.replicate 6 false)
  have n3 := eq_bl (true :: List.replicate 6 false) (true :: List.replicate 6 false)
  have ad : opAdd (.lst [.bl true]) (.lst ((List.replicate 6 false).map .bl)) = some (.l ((true :: List.replicate 6 false).map .bl)) := rfl
  simp only [BEq.rfl, Bool.not_true] at n1 n2 n3
  obtain ⟨ρ', f, u2, u3, e⟩ := forGo_fold (asg := asgT 2 (asgC (asg1 2) (asgC (asg1 3) asgN))) (body := m__law_messages_right_2) (mk := fun (k : Nat) => D.tup [.int (k : Int), .exv (mN.getD k "") [] []]) (l := List.range 13) (b := ()) (step := fun _ _ => ())
    (I := fun _ ρ => ∃ u2 u3, ρ = [some (.imm (.str z)), some (.imm (.lst ((List.replicate 6 false).map .bl))), u2, u3, none, none]) (ρ := [some (.imm (.str z)), some (.imm (.lst ((List.replicate 6 false).map .bl))), none, none, none, none])
    (fun a ha b ρ ⟨u2, u3, e⟩ => by
      have ha : a < 13 := by simpa using ha
      subst e
      exact ⟨_, _, by simp [frO, opIsB, opNotB, xNew, xMt, tyD, opExF, opIsE, opIsEt, sRaise, sRaiseF, outF, rdO, sSeq, sIf, sb, sRet, sRetN, sSet, sOwn, sApp, sSetIx, isOwn, sAsg, asg1, asgT, asgC, asgN, sExpr, sNil, sBad, sFor, xOr, xAnd, xNot, xAsB, xAndV, xOrV, xNotV, xIf, xChain, xCall, xBin, xUn, xFn, xLc, cellsOf, backC, mb, mr, mo, aCons, aNil, xVar, xC, rdI, rdC, rdIs, two, one, isi_ii, isi_ib, isi_bi, isi_bb, isi_tt, isi_ll, isi_it, isi_lt, isi_ti, isi_li, isi_ss, opNotN, opIsN, isNonD, opLen, mP, opAdd, opSub, opMul, opMod, opCmp, opNe_int, opEq_int, toI, toIs, xTup, xLst, xIter, xZip, zip2, seqD, xRng1, xRng2, itemsD, opIx, atI, ixN, opTuple, opList, opSum, opAll, opInt, vsOk, wipeC, rsC, turn, szB], .inl (mess_2 ha), _, _, rfl⟩) ⟨none, none, rfl⟩
  subst e
  show outF [Md.d] (m__law_messages_right [some (.imm (.str z)), none, none, none, none, none]) = _
  unfold m__law_messages_right
  generalize (List.range 13).map (fun (k : Nat) => D.tup [.int (k : Int), .exv (mN.getD k "") [] []]) = EN at *
  generalize mN.map (fun c => D.exv c [] []) = MN at *
  generalize (List.replicate 13 false).map D.bl = L13 at *
  generalize (List.replicate 6 false).map D.bl = L6 at *
  generalize (true :: List.replicate 6 false).map D.bl = L7 at *
  generalize asgT 2 (asgC (asg1 2) (asgC (asg1 3) asgN)) = AS at *
  generalize m__law_messages_right_2 = BD at *
  generalize F__law_message_kinds = F1 at *
  generalize F__law_value_kinds = F2 at *
  generalize F__law_outer_kinds = F3 at *
  generalize F__law_with_messages = F4 at *
  simp [r6, r13, ew, en, e1, e2, e3, n1, n2, n3, ad, f, xEnum2, enum2, xExM, frO, opIsB, opNotB, xNew, xMt, tyD, opExF, opIsE, opIsEt, sRaise, sRaiseF, outF, rdO, sSeq, sIf, sb, sRet, sRetN, sSet, sOwn, sApp, sSetIx, isOwn, sAsg, asg1, asgT, asgC, asgN, sExpr, sNil, sBad, sFor, xOr, xAnd, xNot, xAsB, xAndV, xOrV, xNotV, xIf, xChain, xCall, xBin, xUn, xFn, xLc, cellsOf, backC, mb, mr, mo, aCons, aNil, xVar, xC, rdI, rdC, rdIs, two, one, isi_ii, isi_ib, isi_bi, isi_bb, isi_tt, isi_ll, isi_it, isi_lt, isi_ti, isi_li, isi_ss, opNotN, opIsN, isNonD, opLen, mP, opAdd, opSub, opMul, opMod, opCmp, opNe_int, opEq_int, toI, toIs, xTup, xLst, xIter, xZip, zip2, seqD, xRng1, xRng2, itemsD, opIx, atI, ixN, opTuple, opList, opSum, opAll, opInt, vsOk, wipeC, rsC, turn, szB, -opAdd, -opMul]
end K89

/-! ## K89p3 -/
set_option Elab.async false
set_option linter.all false
set_option maxRecDepth 100000
set_option maxHeartbeats 1000000
namespace K89
open PySem L2 DL LinZ
def fN : List Str := ["name", "value", "limit", "paper", "time", "name"]
def dueD : D := .lst (dueO.map fun l => .lst (l.map .int))
/-- the error number a, that keeps v -/
def vE (a : Nat) (v : D) : D := .exv (vN.getD a "") [fN.getD a ""] [v]
theorem val_1 {a : Nat} (r0 r1 r2 r3 r5 : Option Cell) : xLc [6] (xRng1 (aCons (xC (.int 6)) aNil)) (asg1 6) (mr true) m__law_values_right_1 [r0, r1, r2, r3, some (.imm (.int (a : Int))), r5, none] = .ok (.new (.lst ((oneOf 6 a).map .bl))) [r0, r1, r2, r3, some (.imm (.int (a : Int))), r5, none] := by
  have lc := lcGo_map (vs := [6]) (asg := asg1 6) (t := mr true) (f := m__law_values_right_1) (mk := fun (k : Nat) => D.int (k : Int)) (g := fun (k : Nat) => D.bl (decide (a = k))) (ρ := [r0, r1, r2, r3, some (.imm (.int (a : Int))), r5, none]) (l := List.range 6) (acc := [])
    (fun k hk => by
      have e := eq_k a k
      generalize (k : Int) = K at *
      generalize (a : Int) = A at *
      generalize decide (a = k) = B at *
      simp [m__law_values_right_1, e, frO, opIsB, opNotB, xNew, xMt, tyD, opExF, opIsE, opIsEt, sRaise, sRaiseF, outF, rdO, sSeq, sIf, sb, sRet, sRetN, sSet, sOwn, sApp, sSetIx, isOwn, sAsg, asg1, asgT, asgC, asgN, sExpr, sNil, sBad, sFor, xOr, xAnd, xNot, xAsB, xAndV, xOrV, xNotV, xIf, xChain, xCall, xBin, xUn, xFn, xLc, cellsOf, backC, mb, mr, mo, aCons, aNil, xVar, xC, rdI, rdC, rdIs, two, one, isi_ii, isi_ib, isi_bi, isi_bb, isi_tt, isi_ll, isi_it, isi_lt, isi_ti, isi_li, isi_ss, opNotN, opIsN, isNonD, opLen, mP, opAdd, opSub, opMul, opMod, opCmp, opNe_int, opEq_int, toI, toIs, xTup, xLst, xIter, xZip, zip2, seqD, xRng1, xRng2, itemsD, opIx, atI, ixN, opTuple, opList, opSum, opAll, opInt, vsOk, wipeC, rsC, turn, szB, -opEq_int]) (by simp)
  have rg := range_k (n := 6) (by omega) [r0, r1, r2, r3, some (.imm (.int (a : Int))), r5, none]
  have rg : xRng1 (aCons (xC (.int 6)) aNil) [r0, r1, r2, r3, some (.imm (.int (a : Int))), r5, none] = .ok ((List.range 6).map fun (k : Nat) => D.int (k : Int)) [r0, r1, r2, r3, some (.imm (.int (a : Int))), r5, none] := rg
  have e2 : (oneOf 6 a).map D.bl = (List.range 6).map fun (k : Nat) => D.bl (decide (a = k)) := by
    unfold oneOf
    rw [List.map_map]
    rfl
  rw [e2]
  rw [List.nil_append] at lc
  generalize (List.range 6).map (fun (k : Nat) => D.bl (decide (a = k))) = L2 at *
  generalize (List.range 6).map (fun (k : Nat) => D.int (k : Int)) = L at *
  generalize xRng1 (aCons (xC (.int 6)) aNil) = G at *
  generalize m__law_values_right_1 = B at *
  generalize (a : Int) = A at *
  simp [rg, lc, xLc, mb, mo, mr, vsOk, wipeC, rsC]
def inDue (a : Nat) : List Bool := (List.range 7).map fun (j : Nat) => (dueO.getD a []).contains (j : Int)
theorem in_due : ∀ a : Nat, a < 6 → ∀ k : Nat, k < 7 → (opIn (.int (k : Int)) (.lst ((dueO.getD a []).map .int)) = some (.d (.bl ((dueO.getD a []).contains (k : Int))))) := by
  intro a ha k hk
  have h1 : a = 0 ∨ a = 1 ∨ a = 2 ∨ a = 3 ∨ a = 4 ∨ a = 5 := by omega
  have h2 : k = 0 ∨ k = 1 ∨ k = 2 ∨ k = 3 ∨ k = 4 ∨ k = 5 ∨ k = 6 := by omega
  rcases h1 with rfl | rfl | rfl | rfl | rfl | rfl <;> rcases h2 with rfl | rfl | rfl | rfl | rfl | rfl | rfl <;> rfl
theorem val_2 {a : Nat} (ha : a < 6) (r0 r1 r2 r5 : Option Cell) : xLc [6] (xRng1 (aCons (xC (.int 7)) aNil)) (asg1 6) (mr true) m__law_values_right_2 [r0, r1, r2, some (.imm dueD), some (.imm (.int (a : Int))), r5, none] = .ok (.new (.lst ((inDue a).map .bl))) [r0, r1, r2, some (.imm dueD), some (.imm (.int (a : Int))), r5, none] := by
  have ix : opIx dueD (.int (a : Int)) = some (.d (.lst ((dueO.getD a []).map .int))) := by
    have h1 : a = 0 ∨ a = 1 ∨ a = 2 ∨ a = 3 ∨ a = 4 ∨ a = 5 := by omega
    rcases h1 with rfl | rfl | rfl | rfl | rfl | rfl <;> rfl
  have lc := lcGo_map (vs := [6]) (asg := asg1 6) (t := mr true) (f := m__law_values_right_2) (mk := fun (k : Nat) => D.int (k : Int)) (g := fun (k : Nat) => D.bl ((dueO.getD a []).contains (k : Int))) (ρ := [r0, r1, r2, some (.imm dueD), some (.imm (.int (a : Int))), r5, none]) (l := List.range 7) (acc := [])
    (fun k hk => by
      have hk : k < 7 := by simpa using hk
      have e := in_due a ha k hk
      generalize (dueO.getD a []).contains (k : Int) = B at *
      generalize (k : Int) = K at *
      generalize (a : Int) = A at *
      generalize (dueO.getD a []).map D.int = DL at *
      generalize dueD = DD at *
      simp [m__law_values_right_2, e, ix, frO, opIsB, opNotB, xNew, xMt, tyD, opExF, opIsE, opIsEt, sRaise, sRaiseF, outF, rdO, sSeq, sIf, sb, sRet, sRetN, sSet, sOwn, sApp, sSetIx, isOwn, sAsg, asg1, asgT, asgC, asgN, sExpr, sNil, sBad, sFor, xOr, xAnd, xNot, xAsB, xAndV, xOrV, xNotV, xIf, xChain, xCall, xBin, xUn, xFn, xLc, cellsOf, backC, mb, mr, mo, aCons, aNil, xVar, xC, rdI, rdC, rdIs, two, one, isi_ii, isi_ib, isi_bi, isi_bb, isi_tt, isi_ll, isi_it, isi_lt, isi_ti, isi_li, isi_ss, opNotN, opIsN, isNonD, opLen, mP, opAdd, opSub, opMul, opMod, opCmp, opNe_int, opEq_int, toI, toIs, xTup, xLst, xIter, xZip, zip2, seqD, xRng1, xRng2, itemsD, opIx, atI, ixN, opTuple, opList, opSum, opAll, opInt, vsOk, wipeC, rsC, turn, szB, -opIx]) (by simp)
  have rg := range_k (n := 7) (by omega) [r0, r1, r2, some (.imm dueD), some (.imm (.int (a : Int))), r5, none]
  have rg : xRng1 (aCons (xC (.int 7)) aNil) [r0, r1, r2, some (.imm dueD), some (.imm (.int (a : Int))), r5, none] = .ok ((List.range 7).map fun (k : Nat) => D.int (k : Int)) [r0, r1, r2, some (.imm dueD), some (.imm (.int (a : Int))), r5, none] := rg
  have e2 : (inDue a).map D.bl = (List.range 7).map fun (k : Nat) => D.bl ((dueO.getD a []).contains (k : Int)) := by
    unfold inDue
    rw [List.map_map]
    rfl
  rw [e2]
  rw [List.nil_append] at lc
  generalize (List.range 7).map (fun (k : Nat) => D.bl ((dueO.getD a []).contains (k : Int))) = L2 at *
  generalize (List.range 7).map (fun (k : Nat) => D.int (k : Int)) = L at *
  generalize xRng1 (aCons (xC (.int 7)) aNil) = G at *
  generalize m__law_values_right_2 = B at *
  generalize (a : Int) = A at *
  generalize dueD = DD at *
  simp [rg, lc, xLc, mb, mo, mr, vsOk, wipeC, rsC]
theorem val_3 {a : Nat} (ha : a < 6) {v : D} {r0 r1 r2 : Option Cell} : m__law_values_right_3 [r0, r1, r2, some (.imm dueD), some (.imm (.int (a : Int))), some (.imm (vE a v)), none] =
    .next [r0, r1, r2, some (.imm dueD), some (.imm (.int (a : Int))), some (.imm (vE a v)), none] := by
  obtain ⟨k0, k1, k2, k3, k4⟩ := kinds_v a ha
  have e1 := e_mk (fs := [fN.getD a ""]) (ds := [v]) k0 k1
  have e2 := e_vk (fs := [fN.getD a ""]) (ds := [v]) k0 (bs := oneOf 6 a) k2
  have e3 := e_okk (fs := [fN.getD a ""]) (ds := [v]) k0 (bs := inDue a) k3
  have e4 := isV_at (fs := [fN.getD a ""]) (ds := [v]) k0 k4
  have c1 := val_1 (a := a) r0 r1 r2 (some (.imm dueD)) (some (.imm (vE a v)))
  have c2 := val_2 ha r0 r1 r2 (some (.imm (vE a v)))
  have n1 := ne_bl (List.replicate 13 false) (List.replicate 13 false)
  have n2 := ne_bl (oneOf 6 a) (oneOf 6 a)
  have n3 := ne_bl (inDue a) (inDue a)
  have r13 : opMul (.lst [.bl false]) (.int 13) = some (.l ((List.replicate 13 false).map .bl)) := rfl
  simp only [BEq.rfl, Bool.not_true] at n1 n2 n3
  unfold m__law_values_right_3
  change F__law_message_kinds [.imm (vE a v)] = _ at e1
  change F__law_value_kinds [.imm (vE a v)] = _ at e2
  change F__law_outer_kinds [.imm (vE a v)] = _ at e3
  change opIsV XTT "DriveError" (vE a v) = _ at e4
  generalize (oneOf 6 a).map D.bl = L6 at *
  generalize (List.replicate 13 false).map D.bl = L13 at *
  generalize (inDue a).map D.bl = L7 at *
  generalize vE a v = T at *
  generalize xLc [6] (xRng1 (aCons (xC (.int 6)) aNil)) (asg1 6) (mr true) m__law_values_right_1 = C1 at *
  generalize xLc [6] (xRng1 (aCons (xC (.int 7)) aNil)) (asg1 6) (mr true) m__law_values_right_2 = C2 at *
  generalize F__law_message_kinds = F1 at *
  generalize F__law_value_kinds = F2 at *
  generalize F__law_outer_kinds = F3 at *
  generalize (a : Int) = A at *
  generalize dueD = DD at *
  simp [e1, e2, e3, e4, c1, c2, n1, n2, n3, r13, frO, opIsB, opNotB, xNew, xMt, tyD, opExF, opIsE, opIsEt, sRaise, sRaiseF, outF, rdO, sSeq, sIf, sb, sRet, sRetN, sSet, sOwn, sApp, sSetIx, isOwn, sAsg, asg1, asgT, asgC, asgN, sExpr, sNil, sBad, sFor, xOr, xAnd, xNot, xAsB, xAndV, xOrV, xNotV, xIf, xChain, xCall, xBin, xUn, xFn, xLc, cellsOf, backC, mb, mr, mo, aCons, aNil, xVar, xC, rdI, rdC, rdIs, two, one, isi_ii, isi_ib, isi_bi, isi_bb, isi_tt, isi_ll, isi_it, isi_lt, isi_ti, isi_li, isi_ss, opNotN, opIsN, isNonD, opLen, mP, opAdd, opSub, opMul, opMod, opCmp, opNe_int, opEq_int, toI, toIs, xTup, xLst, xIter, xZip, zip2, seqD, xRng1, xRng2, itemsD, opIx, atI, ixN, opTuple, opList, opSum, opAll, opInt, vsOk, wipeC, rsC, turn, szB, -opMul]
/-- the value that the error keeps -/
theorem at_v : ∀ a, a < 6 → ∀ v, opAtV XTT (fN.getD a "") (vE a v) = some (.d v) := by
  have h : ∀ a, a < 6 → (XTT.cls.contains (vN.getD a "") && XTT.isNo (vN.getD a "") (fN.getD a "")) = true := by decide +kernel
  intro a ha v
  unfold vE opAtV
  dsimp only
  rw [if_pos (h a ha)]
  simp
theorem values_ok {v0 v1 v2 v3 v4 v5 : D} {S : Str} (hr : opRepr (.lst [v0, v1, v2, v3, v4, v5]) = some (.d (.str S))) : F__law_values_right [.imm (.lst [v0, v1, v2, v3, v4, v5])] = .ok (.imm (.bl true)) [] := by
  have a0 := at_v 0 (by omega) v0
  have a1 := at_v 1 (by omega) v1
  have a2 := at_v 2 (by omega) v2
  have a3 := at_v 3 (by omega) v3
  have a4 := at_v 4 (by omega) v4
  have a5 := at_v 5 (by omega) v5
  change opAtV XTT "name" _ = _ at a0
  change opAtV XTT "value" _ = _ at a1
  change opAtV XTT "limit" _ = _ at a2
  change opAtV XTT "paper" _ = _ at a3
  change opAtV XTT "time" _ = _ at a4
  change opAtV XTT "name" _ = _ at a5
  have m0 : xExF "UnknownName" "name" (xBin opIx (xVar 0) (xC (.int 0))) [some (.imm (.lst [v0, v1, v2, v3, v4, v5])), none, none, none, none, none, none] = .ok (.imm (vE 0 v0)) [some (.imm (.lst [v0, v1, v2, v3, v4, v5])), none, none, none, none, none, none] := by simp [xExF, vE, vN, fN, frO, opIsB, opNotB, xNew, xMt, tyD, opExF, opIsE, opIsEt, sRaise, sRaiseF, outF, rdO, sSeq, sIf, sb, sRet, sRetN, sSet, sOwn, sApp, sSetIx, isOwn, sAsg, asg1, asgT, asgC, asgN, sExpr, sNil, sBad, sFor, xOr, xAnd, xNot, xAsB, xAndV, xOrV, xNotV, xIf, xChain, xCall, xBin, xUn, xFn, xLc, cellsOf, backC, mb, mr, mo, aCons, aNil, xVar, xC, rdI, rdC, rdIs, two, one, isi_ii, isi_ib, isi_bi, isi_bb, isi_tt, isi_ll, isi_it, isi_lt, isi_ti, isi_li, isi_ss, opNotN, opIsN, isNonD, opLen, mP, opAdd, opSub, opMul, opMod, opCmp, opNe_int, opEq_int, toI, toIs, xTup, xLst, xIter, xZip, zip2, seqD, xRng1, xRng2, itemsD, opIx, atI, ixN, opTuple, opList, opSum, opAll, opInt, vsOk, wipeC, rsC, turn, szB]
  have m1 : xExF "InvalidNumber" "value" (xBin opIx (xVar 0) (xC (.int 1))) [some (.imm (.lst [v0, v1, v2, v3, v4, v5])), none, none, none, none, none, none] = .ok (.imm (vE 1 v1)) [some (.imm (.lst [v0, v1, v2, v3, v4, v5])), none, none, none, none, none, none] := by simp [xExF, vE, vN, fN, frO, opIsB, opNotB, xNew, xMt, tyD, opExF, opIsE, opIsEt, sRaise, sRaiseF, outF, rdO, sSeq, sIf, sb, sRet, sRetN, sSet, sOwn, sApp, sSetIx, isOwn, sAsg, asg1, asgT, asgC, asgN, sExpr, sNil, sBad, sFor, xOr, xAnd, xNot, xAsB, xAndV, xOrV, xNotV, xIf, xChain, xCall, xBin, xUn, xFn, xLc, cellsOf, backC, mb, mr, mo, aCons, aNil, xVar, xC, rdI, rdC, rdIs, two, one, isi_ii, isi_ib, isi_bi, isi_bb, isi_tt, isi_ll, isi_it, isi_lt, isi_ti, isi_li, isi_ss, opNotN, opIsN, isNonD, opLen, mP, opAdd, opSub, opMul, opMod, opCmp, opNe_int, opEq_int, toI, toIs, xTup, xLst, xIter, xZip, zip2, seqD, xRng1, xRng2, itemsD, opIx, atI, ixN, opTuple, opList, opSum, opAll, opInt, vsOk, wipeC, rsC, turn, szB]
  have m2 : xExF "TooLarge" "limit" (xBin opIx (xVar 0) (xC (.int 2))) [some (.imm (.lst [v0, v1, v2, v3, v4, v5])), none, none, none, none, none, none] = .ok (.imm (vE 2 v2)) [some (.imm (.lst [v0, v1, v2, v3, v4, v5])), none, none, none, none, none, none] := by simp [xExF, vE, vN, fN, frO, opIsB, opNotB, xNew, xMt, tyD, opExF, opIsE, opIsEt, sRaise, sRaiseF, outF, rdO, sSeq, sIf, sb, sRet, sRetN, sSet, sOwn, sApp, sSetIx, isOwn, sAsg, asg1, asgT, asgC, asgN, sExpr, sNil, sBad, sFor, xOr, xAnd, xNot, xAsB, xAndV, xOrV, xNotV, xIf, xChain, xCall, xBin, xUn, xFn, xLc, cellsOf, backC, mb, mr, mo, aCons, aNil, xVar, xC, rdI, rdC, rdIs, two, one, isi_ii, isi_ib, isi_bi, isi_bb, isi_tt, isi_ll, isi_it, isi_lt, isi_ti, isi_li, isi_ss, opNotN, opIsN, isNonD, opLen, mP, opAdd, opSub, opMul, opMod, opCmp, opNe_int, opEq_int, toI, toIs, xTup, xLst, xIter, xZip, zip2, seqD, xRng1, xRng2, itemsD, opIx, atI, ixN, opTuple, opList, opSum, opAll, opInt, vsOk, wipeC, rsC, turn, szB]
  have m3 : ∀ c, xExF "NotDriving" "paper" (xBin opIx (xVar 0) (xC (.int 3))) [some (.imm (.lst [v0, v1, v2, v3, v4, v5])), c, none, none, none, none, none] = .ok (.imm (vE 3 v3)) [some (.imm (.lst [v0, v1, v2, v3, v4, v5])), c, none, none, none, none, none] := fun c => by simp [xExF, vE, vN, fN, frO, opIsB, opNotB, xNew, xMt, tyD, opExF, opIsE, opIsEt, sRaise, sRaiseF, outF, rdO, sSeq, sIf, sb, sRet, sRetN, sSet, sOwn, sApp, sSetIx, isOwn, sAsg, asg1, asgT, asgC, asgN, sExpr, sNil, sBad, sFor, xOr, xAnd, xNot, xAsB, xAndV, xOrV, xNotV, xIf, xChain, xCall, xBin, xUn, xFn, xLc, cellsOf, backC, mb, mr, mo, aCons, aNil, xVar, xC, rdI, rdC, rdIs, two, one, isi_ii, isi_ib, isi_bi, isi_bb, isi_tt, isi_ll, isi_it, isi_lt, isi_ti, isi_li, isi_ss, opNotN, opIsN, isNonD, opLen, mP, opAdd, opSub, opMul, opMod, opCmp, opNe_int, opEq_int, toI, toIs, xTup, xLst, xIter, xZip, zip2, seqD, xRng1, xRng2, itemsD, opIx, atI, ixN, opTuple, opList, opSum, opAll, opInt, vsOk, wipeC, rsC, turn, szB]
  have m4 : ∀ c, xExF "Impossible" "time" (xBin opIx (xVar 0) (xC (.int 4))) [some (.imm (.lst [v0, v1, v2, v3, v4, v5])), c, none, none, none, none, none] = .ok (.imm (vE 4 v4)) [some (.imm (.lst [v0, v1, v2, v3, v4, v5])), c, none, none, none, none, none] := fun c => by simp [xExF, vE, vN, fN, frO, opIsB, opNotB, xNew, xMt, tyD, opExF, opIsE, opIsEt, sRaise, sRaiseF, outF, rdO, sSeq, sIf, sb, sRet, sRetN, sSet, sOwn, sApp, sSetIx, isOwn, sAsg, asg1, asgT, asgC, asgN, sExpr, sNil, sBad, sFor, xOr, xAnd, xNot, xAsB, xAndV, xOrV, xNotV, xIf, xChain, xCall, xBin, xUn, xFn, xLc, cellsOf, backC, mb, mr, mo, aCons, aNil, xVar, xC, rdI, rdC, rdIs, two, one, isi_ii, isi_ib, isi_bi, isi_bb, isi_tt, isi_ll, isi_it, isi_lt, isi_ti, isi_li, isi_ss, opNotN, opIsN, isNonD, opLen, mP, opAdd, opSub, opMul, opMod, opCmp, opNe_int, opEq_int, toI, toIs, xTup, xLst, xIter, xZip, zip2, seqD, xRng1, xRng2, itemsD, opIx, atI, ixN, opTuple, opList, opSum, opAll, opInt, vsOk, wipeC, rsC, turn, szB]
  have m5 : ∀ c, xExF "Conflict" "name" (xBin opIx (xVar 0) (xC (.int 5))) [some (.imm (.lst [v0, v1, v2, v3, v4, v5])), c, none, none, none, none, none] = .ok (.imm (vE 5 v5)) [some (.imm (.lst [v0, v1, v2, v3, v4, v5])), c, none, none, none, none, none] := fun c => by simp [xExF, vE, vN, fN, frO, opIsB, opNotB, xNew, xMt, tyD, opExF, opIsE, opIsEt, sRaise, sRaiseF, outF, rdO, sSeq, sIf, sb, sRet, sRetN, sSet, sOwn, sApp, sSetIx, isOwn, sAsg, asg1, asgT, asgC, asgN, sExpr, sNil, sBad, sFor, xOr, xAnd, xNot, xAsB, xAndV, xOrV, xNotV, xIf, xChain, xCall, xBin, xUn, xFn, xLc, cellsOf, backC, mb, mr, mo, aCons, aNil, xVar, xC, rdI, rdC, rdIs, two, one, isi_ii, isi_ib, isi_bi, isi_bb, isi_tt, isi_ll, isi_it, isi_lt, isi_ti, isi_li, isi_ss, opNotN, opIsN, isNonD, opLen, mP, opAdd, opSub, opMul, opMod, opCmp, opNe_int, opEq_int, toI, toIs, xTup, xLst, xIter, xZip, zip2, seqD, xRng1, xRng2, itemsD, opIx, atI, ixN, opTuple, opList, opSum, opAll, opInt, vsOk, wipeC, rsC, turn, szB]
  obtain ⟨ρ', f, u4, u5, e⟩ := forGo_fold (asg := asgT 2 (asgC (asg1 4) (asgC (asg1 5) asgN))) (body := m__law_values_right_3) (mk := fun (k : Nat) => D.tup [.int (k : Int), vE k ([v0, v1, v2, v3, v4, v5].getD k .non)]) (l := List.range 6) (b := ()) (step := fun _ _ => ())
    (I := fun _ ρ => ∃ u4 u5, ρ = [some (.imm (.lst [v0, v1, v2, v3, v4, v5])), some (.imm (.lst [vE 0 v0, vE 1 v1, vE 2 v2, vE 3 v3, vE 4 v4, vE 5 v5])), some (.imm (.lst [v0, v1, v2, v3, v4, v5])), some (.imm dueD), u4, u5, none])
    (ρ := [some (.imm (.lst [v0, v1, v2, v3, v4, v5])), some (.imm (.lst [vE 0 v0, vE 1 v1, vE 2 v2, vE 3 v3, vE 4 v4, vE 5 v5])), some (.imm (.lst [v0, v1, v2, v3, v4, v5])), some (.imm dueD), none, none, none])
    (fun a ha b ρ ⟨u4, u5, e⟩ => by
      have ha : a < 6 := by simpa using ha
      subst e
      exact ⟨_, _, rfl, .inl (val_3 ha), _, _, rfl⟩) ⟨none, none, rfl⟩
  subst e
  have en : enumD 0 [vE 0 v0, vE 1 v1, vE 2 v2, vE 3 v3, vE 4 v4, vE 5 v5] = (List.range 6).map fun (k : Nat) => D.tup [.int (k : Int), vE k ([v0, v1, v2, v3, v4, v5].getD k .non)] := rfl
  have du : D.lst [.lst [.int 1, .int 3], .lst [.int 2, .int 3], .lst [.int 4, .int 5], .lst [.int 5], .lst [.int 6], .lst [.int 3]] = dueD := rfl
  show outF [Md.d] (m__law_values_right [some (.imm (.lst [v0, v1, v2, v3, v4, v5])), none, none, none, none, none, none]) = _
  unfold m__law_values_right
  generalize (List.range 6).map (fun (k : Nat) => D.tup [.int (k : Int), vE k ([v0, v1, v2, v3, v4, v5].getD k .non)]) = EN at *
  generalize asgT 2 (asgC (asg1 4) (asgC (asg1 5) asgN)) = AS at *
  generalize m__law_values_right_3 = BD at *
  generalize vE 0 v0 = E0 at *
  generalize vE 1 v1 = E1 at *
  generalize vE 2 v2 = E2 at *
  generalize vE 3 v3 = E3 at *
  generalize vE 4 v4 = E4 at *
  generalize vE 5 v5 = E5 at *
  generalize opAtV XTT = OA at *
  generalize xExF "UnknownName" "name" (xBin opIx (xVar 0) (xC (.int 0))) = X0 at *
  generalize xExF "InvalidNumber" "value" (xBin opIx (xVar 0) (xC (.int 1))) = X1 at *
  generalize xExF "TooLarge" "limit" (xBin opIx (xVar 0) (xC (.int 2))) = X2 at *
  generalize xExF "NotDriving" "paper" (xBin opIx (xVar 0) (xC (.int 3))) = X3 at *
  generalize xExF "Impossible" "time" (xBin opIx (xVar 0) (xC (.int 4))) = X4 at *
  generalize xExF "Conflict" "name" (xBin opIx (xVar 0) (xC (.int 5))) = X5 at *
  simp [m0, m1, m2, m3, m4, m5, a0, a1, a2, a3, a4, a5, hr, en, du, f, xEnum2, enum2, opNe_str, frO, opIsB, opNotB, xNew, xMt, tyD, opExF, opIsE, opIsEt, sRaise, sRaiseF, outF, rdO, sSeq, sIf, sb, sRet, sRetN, sSet, sOwn, sApp, sSetIx, isOwn, sAsg, asg1, asgT, asgC, asgN, sExpr, sNil, sBad, sFor, xOr, xAnd, xNot, xAsB, xAndV, xOrV, xNotV, xIf, xChain, xCall, xBin, xUn, xFn, xLc, cellsOf, backC, mb, mr, mo, aCons, aNil, xVar, xC, rdI, rdC, rdIs, two, one, isi_ii, isi_ib, isi_bi, isi_bb, isi_tt, isi_ll, isi_it, isi_lt, isi_ti, isi_li, isi_ss, opNotN, opIsN, isNonD, opLen, mP, opAdd, opSub, opMul, opMod, opCmp, opNe_int, opEq_int, toI, toIs, xTup, xLst, xIter, xZip, zip2, seqD, xRng1, xRng2, itemsD, opIx, atI, ixN, opTuple, opList, opSum, opAll, opInt, vsOk, wipeC, rsC, turn, szB]
end K89

/-! ## K89p4 -/
set_option Elab.async false
set_option linter.all false
set_option maxRecDepth 100000
set_option maxHeartbeats 1000000
namespace K89
open PySem L2 DL LinZ
section
variable {v0 v1 v2 v3 v4 v5 : D} {z S : Str}
theorem met_0 (hr : opRepr v0 = some (.d (.str S))) : F__law_met [.imm (.int 0), .imm (.lst [v0, v1, v2, v3, v4, v5]), .imm (.str z)] = .ok (.imm (.str "name")) [] := by
  have m : ("UnknownName" : Str) ∈ XTT.cls := by decide +kernel
  have s0 : XTT.isSub "UnknownName" "DriveError" = some false := by decide +kernel
  have s1 : XTT.isSub "UnknownName" "UnknownName" = some true := by decide +kernel
  have b : m__law_met_8 [some (.imm (.int 0)), some (.imm (.lst [v0, v1, v2, v3, v4, v5])), some (.imm (.str z)), none] = .er ⟨"UnknownName", ["name"], [v0]⟩ [some (.imm (.int 0)), some (.imm (.lst [v0, v1, v2, v3, v4, v5])), some (.imm (.str z)), none] := by
    simp [m__law_met_8, frO, opIsB, opNotB, xNew, xMt, tyD, opExF, opIsE, opIsEt, sRaise, sRaiseF, outF, rdO, sSeq, sIf, sb, sRet, sRetN, sSet, sOwn, sApp, sSetIx, isOwn, sAsg, asg1, asgT, asgC, asgN, sExpr, sNil, sBad, sFor, xOr, xAnd, xNot, xAsB, xAndV, xOrV, xNotV, xIf, xChain, xCall, xBin, xUn, xFn, xLc, cellsOf, backC, mb, mr, mo, aCons, aNil, xVar, xC, rdI, rdC, rdIs, two, one, isi_ii, isi_ib, isi_bi, isi_bb, isi_tt, isi_ll, isi_it, isi_lt, isi_ti, isi_li, isi_ss, opNotN, opIsN, isNonD, opLen, mP, opAdd, opSub, opMul, opMod, opCmp, opNe_int, opEq_int, toI, toIs, xTup, xLst, xIter, xZip, zip2, seqD, xRng1, xRng2, itemsD, opIx, atI, ixN, opTuple, opList, opSum, opAll, opInt, vsOk, wipeC, rsC, turn, szB]
  have e : ∀ (a : Addr) (f : Option Addr), leave (some 3) (m__law_met_6 a f "UnknownName" (enter (some 3) a f ⟨"UnknownName", ["name"], [v0]⟩ [some (.imm (.int 0)), some (.imm (.lst [v0, v1, v2, v3, v4, v5])), some (.imm (.str z)), none])) = .ret (.imm (.str "name")) [some (.imm (.int 0)), some (.imm (.lst [v0, v1, v2, v3, v4, v5])), some (.imm (.str z)), none] := fun a f => by
    simp [m__law_met_6, leave, enter, unset, hr, opEq_str, List.lookup, frO, opIsB, opNotB, xNew, xMt, tyD, opExF, opIsE, opIsEt, sRaise, sRaiseF, outF, rdO, sSeq, sIf, sb, sRet, sRetN, sSet, sOwn, sApp, sSetIx, isOwn, sAsg, asg1, asgT, asgC, asgN, sExpr, sNil, sBad, sFor, xOr, xAnd, xNot, xAsB, xAndV, xOrV, xNotV, xIf, xChain, xCall, xBin, xUn, xFn, xLc, cellsOf, backC, mb, mr, mo, aCons, aNil, xVar, xC, rdI, rdC, rdIs, two, one, isi_ii, isi_ib, isi_bi, isi_bb, isi_tt, isi_ll, isi_it, isi_lt, isi_ti, isi_li, isi_ss, opNotN, opIsN, isNonD, opLen, mP, opAdd, opSub, opMul, opMod, opCmp, opNe_int, opEq_int, toI, toIs, xTup, xLst, xIter, xZip, zip2, seqD, xRng1, xRng2, itemsD, opIx, atI, ixN, opTuple, opList, opSum, opAll, opInt, vsOk, wipeC, rsC, turn, szB]
  show outF [Md.d, Md.d, Md.d] (m__law_met [some (.imm (.int 0)), some (.imm (.lst [v0, v1, v2, v3, v4, v5])), some (.imm (.str z)), none]) = _
  have t : m__law_met [some (.imm (.int 0)), some (.imm (.lst [v0, v1, v2, v3, v4, v5])), some (.imm (.str z)), none] = .ret (.imm (.str "name")) [some (.imm (.int 0)), some (.imm (.lst [v0, v1, v2, v3, v4, v5])), some (.imm (.str z)), none] := by
    unfold m__law_met sTry
    rw [b]
    simp [tryGo, m, s0, s1, fixA_eq e]
  rw [t]
  rfl
theorem met_1 (hr : opRepr v1 = some (.d (.str S))) : F__law_met [.imm (.int 1), .imm (.lst [v0, v1, v2, v3, v4, v5]), .imm (.str z)] = .ok (.imm (.str "number")) [] := by
  have m : ("InvalidNumber" : Str) ∈ XTT.cls := by decide +kernel
  have s0 : XTT.isSub "InvalidNumber" "DriveError" = some false := by decide +kernel
  have s1 : XTT.isSub "InvalidNumber" "UnknownName" = some false := by decide +kernel
  have s2 : XTT.isSub "InvalidNumber" "InvalidNumber" = some true := by decide +kernel
  have b : m__law_met_8 [some (.imm (.int 1)), some (.imm (.lst [v0, v1, v2, v3, v4, v5])), some (.imm (.str z)), none] = .er ⟨"InvalidNumber", ["value"], [v1]⟩ [some (.imm (.int 1)), some (.imm (.lst [v0, v1, v2, v3, v4, v5])), some (.imm (.str z)), none] := by
    simp [m__law_met_8, frO, opIsB, opNotB, xNew, xMt, tyD, opExF, opIsE, opIsEt, sRaise, sRaiseF, outF, rdO, sSeq, sIf, sb, sRet, sRetN, sSet, sOwn, sApp, sSetIx, isOwn, sAsg, asg1, asgT, asgC, asgN, sExpr, sNil, sBad, sFor, xOr, xAnd, xNot, xAsB, xAndV, xOrV, xNotV, xIf, xChain, xCall, xBin, xUn, xFn, xLc, cellsOf, backC, mb, mr, mo, aCons, aNil, xVar, xC, rdI, rdC, rdIs, two, one, isi_ii, isi_ib, isi_bi, isi_bb, isi_tt, isi_ll, isi_it, isi_lt, isi_ti, isi_li, isi_ss, opNotN, opIsN, isNonD, opLen, mP, opAdd, opSub, opMul, opMod, opCmp, opNe_int, opEq_int, toI, toIs, xTup, xLst, xIter, xZip, zip2, seqD, xRng1, xRng2, itemsD, opIx, atI, ixN, opTuple, opList, opSum, opAll, opInt, vsOk, wipeC, rsC, turn, szB]
  have e : ∀ (a : Addr) (f : Option Addr), leave (some 3) (m__law_met_5 a f "InvalidNumber" (enter (some 3) a f ⟨"InvalidNumber", ["value"], [v1]⟩ [some (.imm (.int 1)), some (.imm (.lst [v0, v1, v2, v3, v4, v5])), some (.imm (.str z)), none])) = .ret (.imm (.str "number")) [some (.imm (.int 1)), some (.imm (.lst [v0, v1, v2, v3, v4, v5])), some (.imm (.str z)), none] := fun a f => by
    simp [m__law_met_5, leave, enter, unset, hr, opEq_str, List.lookup, frO, opIsB, opNotB, xNew, xMt, tyD, opExF, opIsE, opIsEt, sRaise, sRaiseF, outF, rdO, sSeq, sIf, sb, sRet, sRetN, sSet, sOwn, sApp, sSetIx, isOwn, sAsg, asg1, asgT, asgC, asgN, sExpr, sNil, sBad, sFor, xOr, xAnd, xNot, xAsB, xAndV, xOrV, xNotV, xIf, xChain, xCall, xBin, xUn, xFn, xLc, cellsOf, backC, mb, mr, mo, aCons, aNil, xVar, xC, rdI, rdC, rdIs, two, one, isi_ii, isi_ib, isi_bi, isi_bb, isi_tt, isi_ll, isi_it, isi_lt, isi_ti, isi_li, isi_ss, opNotN, opIsN, isNonD, opLen, mP, opAdd, opSub, opMul, opMod, opCmp, opNe_int, opEq_int, toI, toIs, xTup, xLst, xIter, xZip, zip2, seqD, xRng1, xRng2, itemsD, opIx, atI, ixN, opTuple, opList, opSum, opAll, opInt, vsOk, wipeC, rsC, turn, szB]
  show outF [Md.d, Md.d, Md.d] (m__law_met [some (.imm (.int 1)), some (.imm (.lst [v0, v1, v2, v3, v4, v5])), some (.imm (.str z)), none]) = _
  have t : m__law_met [some (.imm (.int 1)), some (.imm (.lst [v0, v1, v2, v3, v4, v5])), some (.imm (.str z)), none] = .ret (.imm (.str "number")) [some (.imm (.int 1)), some (.imm (.lst [v0, v1, v2, v3, v4, v5])), some (.imm (.str z)), none] := by
    unfold m__law_met sTry
    rw [b]
    simp [tryGo, m, s0, s1, s2, fixA_eq e]
  rw [t]
  rfl
theorem met_2 (hr : opRepr v2 = some (.d (.str S))) : F__law_met [.imm (.int 2), .imm (.lst [v0, v1, v2, v3, v4, v5]), .imm (.str z)] = .ok (.imm (.str "limit")) [] := by
  have m : ("TooLarge" : Str) ∈ XTT.cls := by decide +kernel
  have s0 : XTT.isSub "TooLarge" "DriveError" = some false := by decide +kernel
  have s1 : XTT.isSub "TooLarge" "UnknownName" = some false := by decide +kernel
  have s2 : XTT.isSub "TooLarge" "InvalidNumber" = some false := by decide +kernel
  have s3 : XTT.isSub "TooLarge" "TooLarge" = some true := by decide +kernel
  have b : m__law_met_8 [some (.imm (.int 2)), some (.imm (.lst [v0, v1, v2, v3, v4, v5])), some (.imm (.str z)), none] = .er ⟨"TooLarge", ["limit"], [v2]⟩ [some (.imm (.int 2)), some (.imm (.lst [v0, v1, v2, v3, v4, v5])), some (.imm (.str z)), none] := by
    simp [m__law_met_8, frO, opIsB, opNotB, xNew, xMt, tyD, opExF, opIsE, opIsEt, sRaise, sRaiseF, outF, rdO, sSeq, sIf, sb, sRet, sRetN, sSet, sOwn, sApp, sSetIx, isOwn, sAsg, asg1, asgT, asgC, asgN, sExpr, sNil, sBad, sFor, xOr, xAnd, xNot, xAsB, xAndV, xOrV, xNotV, xIf, xChain, xCall, xBin, xUn, xFn, xLc, cellsOf, backC, mb, mr, mo, aCons, aNil, xVar, xC, rdI, rdC, rdIs, two, one, isi_ii, isi_ib, isi_bi, isi_bb, isi_tt, isi_ll, isi_it, isi_lt, isi_ti, isi_li, isi_ss, opNotN, opIsN, isNonD, opLen, mP, opAdd, opSub, opMul, opMod, opCmp, opNe_int, opEq_int, toI, toIs, xTup, xLst, xIter, xZip, zip2, seqD, xRng1, xRng2, itemsD, opIx, atI, ixN, opTuple, opList, opSum, opAll, opInt, vsOk, wipeC, rsC, turn, szB]
  have e : ∀ (a : Addr) (f : Option Addr), leave (some 3) (m__law_met_4 a f "TooLarge" (enter (some 3) a f ⟨"TooLarge", ["limit"], [v2]⟩ [some (.imm (.int 2)), some (.imm (.lst [v0, v1, v2, v3, v4, v5])), some (.imm (.str z)), none])) = .ret (.imm (.str "limit")) [some (.imm (.int 2)), some (.imm (.lst [v0, v1, v2, v3, v4, v5])), some (.imm (.str z)), none] := fun a f => by
    simp [m__law_met_4, leave, enter, unset, hr, opEq_str, List.lookup, frO, opIsB, opNotB, xNew, xMt, tyD, opExF, opIsE, opIsEt, sRaise, sRaiseF, outF, rdO, sSeq, sIf, sb, sRet, sRetN, sSet, sOwn, sApp, sSetIx, isOwn, sAsg, asg1, asgT, asgC, asgN, sExpr, sNil, sBad, sFor, xOr, xAnd, xNot, xAsB, xAndV, xOrV, xNotV, xIf, xChain, xCall, xBin, xUn, xFn, xLc, cellsOf, backC, mb, mr, mo, aCons, aNil, xVar, xC, rdI, rdC, rdIs, two, one, isi_ii, isi_ib, isi_bi, isi_bb, isi_tt, isi_ll, isi_it, isi_lt, isi_ti, isi_li, isi_ss, opNotN, opIsN, isNonD, opLen, mP, opAdd, opSub, opMul, opMod, opCmp, opNe_int, opEq_int, toI, toIs, xTup, xLst, xIter, xZip, zip2, seqD, xRng1, xRng2, itemsD, opIx, atI, ixN, opTuple, opList, opSum, opAll, opInt, vsOk, wipeC, rsC, turn, szB]
  show outF [Md.d, Md.d, Md.d] (m__law_met [some (.imm (.int 2)), some (.imm (.lst [v0, v1, v2, v3, v4, v5])), some (.imm (.str z)), none]) = _
  have t : m__law_met [some (.imm (.int 2)), some (.imm (.lst [v0, v1, v2, v3, v4, v5])), some (.imm (.str z)), none] = .ret (.imm (.str "limit")) [some (.imm (.int 2)), some (.imm (.lst [v0, v1, v2, v3, v4, v5])), some (.imm (.str z)), none] := by
    unfold m__law_met sTry
    rw [b]
    simp [tryGo, m, s0, s1, s2, s3, fixA_eq e]
  rw [t]
  rfl
theorem met_3 (hr : opRepr v3 = some (.d (.str S))) : F__law_met [.imm (.int 3), .imm (.lst [v0, v1, v2, v3, v4, v5]), .imm (.str z)] = .ok (.imm (.str "paper")) [] := by
  have m : ("NotDriving" : Str) ∈ XTT.cls := by decide +kernel
  have s0 : XTT.isSub "NotDriving" "DriveError" = some false := by decide +kernel
  have s1 : XTT.isSub "NotDriving" "UnknownName" = some false := by decide +kernel
  have s2 : XTT.isSub "NotDriving" "InvalidNumber" = some false := by decide +kernel
  have s3 : XTT.isSub "NotDriving" "TooLarge" = some false := by decide +kernel
  have s4 : XTT.isSub "NotDriving" "NotDriving" = some true := by decide +kernel
  have b : m__law_met_8 [some (.imm (.int 3)), some (.imm (.lst [v0, v1, v2, v3, v4, v5])), some (.imm (.str z)), none] = .er ⟨"NotDriving", ["paper"], [v3]⟩ [some (.imm (.int 3)), some (.imm (.lst [v0, v1, v2, v3, v4, v5])), some (.imm (.str z)), none] := by
    simp [m__law_met_8, frO, opIsB, opNotB, xNew, xMt, tyD, opExF, opIsE, opIsEt, sRaise, sRaiseF, outF, rdO, sSeq, sIf, sb, sRet, sRetN, sSet, sOwn, sApp, sSetIx, isOwn, sAsg, asg1, asgT, asgC, asgN, sExpr, sNil, sBad, sFor, xOr, xAnd, xNot, xAsB, xAndV, xOrV, xNotV, xIf, xChain, xCall, xBin, xUn, xFn, xLc, cellsOf, backC, mb, mr, mo, aCons, aNil, xVar, xC, rdI, rdC, rdIs, two, one, isi_ii, isi_ib, isi_bi, isi_bb, isi_tt, isi_ll, isi_it, isi_lt, isi_ti, isi_li, isi_ss, opNotN, opIsN, isNonD, opLen, mP, opAdd, opSub, opMul, opMod, opCmp, opNe_int, opEq_int, toI, toIs, xTup, xLst, xIter, xZip, zip2, seqD, xRng1, xRng2, itemsD, opIx, atI, ixN, opTuple, opList, opSum, opAll, opInt, vsOk, wipeC, rsC, turn, szB]
  have e : ∀ (a : Addr) (f : Option Addr), leave (some 3) (m__law_met_3 a f "NotDriving" (enter (some 3) a f ⟨"NotDriving", ["paper"], [v3]⟩ [some (.imm (.int 3)), some (.imm (.lst [v0, v1, v2, v3, v4, v5])), some (.imm (.str z)), none])) = .ret (.imm (.str "paper")) [some (.imm (.int 3)), some (.imm (.lst [v0, v1, v2, v3, v4, v5])), some (.imm (.str z)), none] := fun a f => by
    simp [m__law_met_3, leave, enter, unset, hr, opEq_str, List.lookup, frO, opIsB, opNotB, xNew, xMt, tyD, opExF, opIsE, opIsEt, sRaise, sRaiseF, outF, rdO, sSeq, sIf, sb, sRet, sRetN, sSet, sOwn, sApp, sSetIx, isOwn, sAsg, asg1, asgT, asgC, asgN, sExpr, sNil, sBad, sFor, xOr, xAnd, xNot, xAsB, xAndV, xOrV, xNotV, xIf, xChain, xCall, xBin, xUn, xFn, xLc, cellsOf, backC, mb, mr, mo, aCons, aNil, xVar, xC, rdI, rdC, rdIs, two, one, isi_ii, isi_ib, isi_bi, isi_bb, isi_tt, isi_ll, isi_it, isi_lt, isi_ti, isi_li, isi_ss, opNotN, opIsN, isNonD, opLen, mP, opAdd, opSub, opMul, opMod, opCmp, opNe_int, opEq_int, toI, toIs, xTup, xLst, xIter, xZip, zip2, seqD, xRng1, xRng2, itemsD, opIx, atI, ixN, opTuple, opList, opSum, opAll, opInt, vsOk, wipeC, rsC, turn, szB]
  show outF [Md.d, Md.d, Md.d] (m__law_met [some (.imm (.int 3)), some (.imm (.lst [v0, v1, v2, v3, v4, v5])), some (.imm (.str z)), none]) = _
  have t : m__law_met [some (.imm (.int 3)), some (.imm (.lst [v0, v1, v2, v3, v4, v5])), some (.imm (.str z)), none] = .ret (.imm (.str "paper")) [some (.imm (.int 3)), some (.imm (.lst [v0, v1, v2, v3, v4, v5])), some (.imm (.str z)), none] := by
    unfold m__law_met sTry
    rw [b]
    simp [tryGo, m, s0, s1, s2, s3, s4, fixA_eq e]
  rw [t]
  rfl
theorem met_4 (hr : opRepr v4 = some (.d (.str S))) : F__law_met [.imm (.int 4), .imm (.lst [v0, v1, v2, v3, v4, v5]), .imm (.str z)] = .ok (.imm (.str "time")) [] := by
  have m : ("Impossible" : Str) ∈ XTT.cls := by decide +kernel
  have s0 : XTT.isSub "Impossible" "DriveError" = some false := by decide +kernel
  have s1 : XTT.isSub "Impossible" "UnknownName" = some false := by decide +kernel
  have s2 : XTT.isSub "Impossible" "InvalidNumber" = some false := by decide +kernel
  have s3 : XTT.isSub "Impossible" "TooLarge" = some false := by decide +kernel
  have s4 : XTT.isSub "Impossible" "NotDriving" = some false := by decide +kernel
  have s5 : XTT.isSub "Impossible" "Impossible" = some true := by decide +kernel
  have b : m__law_met_8 [some (.imm (.int 4)), some (.imm (.lst [v0, v1, v2, v3, v4, v5])), some (.imm (.str z)), none] = .er ⟨"Impossible", ["time"], [v4]⟩ [some (.imm (.int 4)), some (.imm (.lst [v0, v1, v2, v3, v4, v5])), some (.imm (.str z)), none] := by
    simp [m__law_met_8, frO, opIsB, opNotB, xNew, xMt, tyD, opExF, opIsE, opIsEt, sRaise, sRaiseF, outF, rdO, sSeq, sIf, sb, sRet, sRetN, sSet, sOwn, sApp, sSetIx, isOwn, sAsg, asg1, asgT, asgC, asgN, sExpr, sNil, sBad, sFor, xOr, xAnd, xNot, xAsB, xAndV, xOrV, xNotV, xIf, xChain, xCall, xBin, xUn, xFn, xLc, cellsOf, backC, mb, mr, mo, aCons, aNil, xVar, xC, rdI, rdC, rdIs, two, one, isi_ii, isi_ib, isi_bi, isi_bb, isi_tt, isi_ll, isi_it, isi_lt, isi_ti, isi_li, isi_ss, opNotN, opIsN, isNonD, opLen, mP, opAdd, opSub, opMul, opMod, opCmp, opNe_int, opEq_int, toI, toIs, xTup, xLst, xIter, xZip, zip2, seqD, xRng1, xRng2, itemsD, opIx, atI, ixN, opTuple, opList, opSum, opAll, opInt, vsOk, wipeC, rsC, turn, szB]
  have e : ∀ (a : Addr) (f : Option Addr), leave (some 3) (m__law_met_2 a f "Impossible" (enter (some 3) a f ⟨"Impossible", ["time"], [v4]⟩ [some (.imm (.int 4)), some (.imm (.lst [v0, v1, v2, v3, v4, v5])), some (.imm (.str z)), none])) = .ret (.imm (.str "time")) [some (.imm (.int 4)), some (.imm (.lst [v0, v1, v2, v3, v4, v5])), some (.imm (.str z)), none] := fun a f => by
    simp [m__law_met_2, leave, enter, unset, hr, opEq_str, List.lookup, frO, opIsB, opNotB, xNew, xMt, tyD, opExF, opIsE, opIsEt, sRaise, sRaiseF, outF, rdO, sSeq, sIf, sb, sRet, sRetN, sSet, sOwn, sApp, sSetIx, isOwn, sAsg, asg1, asgT, asgC, asgN, sExpr, sNil, sBad, sFor, xOr, xAnd, xNot, xAsB, xAndV, xOrV, xNotV, xIf, xChain, xCall, xBin, xUn, xFn, xLc, cellsOf, backC, mb, mr, mo, aCons, aNil, xVar, xC, rdI, rdC, rdIs, two, one, isi_ii, isi_ib, isi_bi, isi_bb, isi_tt, isi_ll, isi_it, isi_lt, isi_ti, isi_li, isi_ss, opNotN, opIsN, isNonD, opLen, mP, opAdd, opSub, opMul, opMod, opCmp, opNe_int, opEq_int, toI, toIs, xTup, xLst, xIter, xZip, zip2, seqD, xRng1, xRng2, itemsD, opIx, atI, ixN, opTuple, opList, opSum, opAll, opInt, vsOk, wipeC, rsC, turn, szB]
  show outF [Md.d, Md.d, Md.d] (m__law_met [some (.imm (.int 4)), some (.imm (.lst [v0, v1, v2, v3, v4, v5])), some (.imm (.str z)), none]) = _
  have t : m__law_met [some (.imm (.int 4)), some (.imm (.lst [v0, v1, v2, v3, v4, v5])), some (.imm (.str z)), none] = .ret (.imm (.str "time")) [some (.imm (.int 4)), some (.imm (.lst [v0, v1, v2, v3, v4, v5])), some (.imm (.str z)), none] := by
    unfold m__law_met sTry
    rw [b]
    simp [tryGo, m, s0, s1, s2, s3, s4, s5, fixA_eq e]
  rw [t]
  rfl
theorem met_5 (hr : opRepr v5 = some (.d (.str S))) : F__law_met [.imm (.int 5), .imm (.lst [v0, v1, v2, v3, v4, v5]), .imm (.str z)] = .ok (.imm (.str "conflict")) [] := by
  have m : ("Conflict" : Str) ∈ XTT.cls := by decide +kernel
  have s0 : XTT.isSub "Conflict" "DriveError" = some false := by decide +kernel
  have s1 : XTT.isSub "Conflict" "UnknownName" = some false := by decide +kernel
  have s2 : XTT.isSub "Conflict" "InvalidNumber" = some false := by decide +kernel
  have s3 : XTT.isSub "Conflict" "TooLarge" = some false := by decide +kernel
  have s4 : XTT.isSub "Conflict" "NotDriving" = some false := by decide +kernel
  have s5 : XTT.isSub "Conflict" "Impossible" = some false := by decide +kernel
  have s6 : XTT.isSub "Conflict" "Conflict" = some true := by decide +kernel
  have b : m__law_met_8 [some (.imm (.int 5)), some (.imm (.lst [v0, v1, v2, v3, v4, v5])), some (.imm (.str z)), none] = .er ⟨"Conflict", ["name"], [v5]⟩ [some (.imm (.int 5)), some (.imm (.lst [v0, v1, v2, v3, v4, v5])), some (.imm (.str z)), none] := by
    simp [m__law_met_8, frO, opIsB, opNotB, xNew, xMt, tyD, opExF, opIsE, opIsEt, sRaise, sRaiseF, outF, rdO, sSeq, sIf, sb, sRet, sRetN, sSet, sOwn, sApp, sSetIx, isOwn, sAsg, asg1, asgT, asgC, asgN, sExpr, sNil, sBad, sFor, xOr, xAnd, xNot, xAsB, xAndV, xOrV, xNotV, xIf, xChain, xCall, xBin, xUn, xFn, xLc, cellsOf, backC, mb, mr, mo, aCons, aNil, xVar, xC, rdI, rdC, rdIs, two, one, isi_ii, isi_ib, isi_bi, isi_bb, isi_tt, isi_ll, isi_it, isi_lt, isi_ti, isi_li, isi_ss, opNotN, opIsN, isNonD, opLen, mP, opAdd, opSub, opMul, opMod, opCmp, opNe_int, opEq_int, toI, toIs, xTup, xLst, xIter, xZip, zip2, seqD, xRng1, xRng2, itemsD, opIx, atI, ixN, opTuple, opList, opSum, opAll, opInt, vsOk, wipeC, rsC, turn, szB]
  have e : ∀ (a : Addr) (f : Option Addr), leave (some 3) (m__law_met_1 a f "Conflict" (enter (some 3) a f ⟨"Conflict", ["name"], [v5]⟩ [some (.imm (.int 5)), some (.imm (.lst [v0, v1, v2, v3, v4, v5])), some (.imm (.str z)), none])) = .ret (.imm (.str "conflict")) [some (.imm (.int 5)), some (.imm (.lst [v0, v1, v2, v3, v4, v5])), some (.imm (.str z)), none] := fun a f => by
    simp [m__law_met_1, leave, enter, unset, hr, opEq_str, List.lookup, frO, opIsB, opNotB, xNew, xMt, tyD, opExF, opIsE, opIsEt, sRaise, sRaiseF, outF, rdO, sSeq, sIf, sb, sRet, sRetN, sSet, sOwn, sApp, sSetIx, isOwn, sAsg, asg1, asgT, asgC, asgN, sExpr, sNil, sBad, sFor, xOr, xAnd, xNot, xAsB, xAndV, xOrV, xNotV, xIf, xChain, xCall, xBin, xUn, xFn, xLc, cellsOf, backC, mb, mr, mo, aCons, aNil, xVar, xC, rdI, rdC, rdIs, two, one, isi_ii, isi_ib, isi_bi, isi_bb, isi_tt, isi_ll, isi_it, isi_lt, isi_ti, isi_li, isi_ss, opNotN, opIsN, isNonD, opLen, mP, opAdd, opSub, opMul, opMod, opCmp, opNe_int, opEq_int, toI, toIs, xTup, xLst, xIter, xZip, zip2, seqD, xRng1, xRng2, itemsD, opIx, atI, ixN, opTuple, opList, opSum, opAll, opInt, vsOk, wipeC, rsC, turn, szB]
  show outF [Md.d, Md.d, Md.d] (m__law_met [some (.imm (.int 5)), some (.imm (.lst [v0, v1, v2, v3, v4, v5])), some (.imm (.str z)), none]) = _
  have t : m__law_met [some (.imm (.int 5)), some (.imm (.lst [v0, v1, v2, v3, v4, v5])), some (.imm (.str z)), none] = .ret (.imm (.str "conflict")) [some (.imm (.int 5)), some (.imm (.lst [v0, v1, v2, v3, v4, v5])), some (.imm (.str z)), none] := by
    unfold m__law_met sTry
    rw [b]
    simp [tryGo, m, s0, s1, s2, s3, s4, s5, s6, fixA_eq e]
  rw [t]
  rfl
theorem met_6 : F__law_met [.imm (.int 6), .imm (.lst [v0, v1, v2, v3, v4, v5]), .imm (.str z)] = .ok (.imm (.str "drive")) [] := by
  have m : ("ParseError" : Str) ∈ XTT.cls := by decide +kernel
  have s0 : XTT.isSub "ParseError" "DriveError" = some true := by decide +kernel
  have b : m__law_met_8 [some (.imm (.int 6)), some (.imm (.lst [v0, v1, v2, v3, v4, v5])), some (.imm (.str z)), none] = .er ⟨"ParseError", [], []⟩ [some (.imm (.int 6)), some (.imm (.lst [v0, v1, v2, v3, v4, v5])), some (.imm (.str z)), none] := by
    simp [m__law_met_8, sRaiseM, frO, opIsB, opNotB, xNew, xMt, tyD, opExF, opIsE, opIsEt, sRaise, sRaiseF, outF, rdO, sSeq, sIf, sb, sRet, sRetN, sSet, sOwn, sApp, sSetIx, isOwn, sAsg, asg1, asgT, asgC, asgN, sExpr, sNil, sBad, sFor, xOr, xAnd, xNot, xAsB, xAndV, xOrV, xNotV, xIf, xChain, xCall, xBin, xUn, xFn, xLc, cellsOf, backC, mb, mr, mo, aCons, aNil, xVar, xC, rdI, rdC, rdIs, two, one, isi_ii, isi_ib, isi_bi, isi_bb, isi_tt, isi_ll, isi_it, isi_lt, isi_ti, isi_li, isi_ss, opNotN, opIsN, isNonD, opLen, mP, opAdd, opSub, opMul, opMod, opCmp, opNe_int, opEq_int, toI, toIs, xTup, xLst, xIter, xZip, zip2, seqD, xRng1, xRng2, itemsD, opIx, atI, ixN, opTuple, opList, opSum, opAll, opInt, vsOk, wipeC, rsC, turn, szB]
  have e : ∀ (a : Addr) (f : Option Addr), leave none (m__law_met_7 a f "ParseError" (enter none a f ⟨"ParseError", [], []⟩ [some (.imm (.int 6)), some (.imm (.lst [v0, v1, v2, v3, v4, v5])), some (.imm (.str z)), none])) = .ret (.imm (.str "drive")) [some (.imm (.int 6)), some (.imm (.lst [v0, v1, v2, v3, v4, v5])), some (.imm (.str z)), none] := fun a f => by
    simp [m__law_met_7, leave, enter, unset, frO, opIsB, opNotB, xNew, xMt, tyD, opExF, opIsE, opIsEt, sRaise, sRaiseF, outF, rdO, sSeq, sIf, sb, sRet, sRetN, sSet, sOwn, sApp, sSetIx, isOwn, sAsg, asg1, asgT, asgC, asgN, sExpr, sNil, sBad, sFor, xOr, xAnd, xNot, xAsB, xAndV, xOrV, xNotV, xIf, xChain, xCall, xBin, xUn, xFn, xLc, cellsOf, backC, mb, mr, mo, aCons, aNil, xVar, xC, rdI, rdC, rdIs, two, one, isi_ii, isi_ib, isi_bi, isi_bb, isi_tt, isi_ll, isi_it, isi_lt, isi_ti, isi_li, isi_ss, opNotN, opIsN, isNonD, opLen, mP, opAdd, opSub, opMul, opMod, opCmp, opNe_int, opEq_int, toI, toIs, xTup, xLst, xIter, xZip, zip2, seqD, xRng1, xRng2, itemsD, opIx, atI, ixN, opTuple, opList, opSum, opAll, opInt, vsOk, wipeC, rsC, turn, szB]
  show outF [Md.d, Md.d, Md.d] (m__law_met [some (.imm (.int 6)), some (.imm (.lst [v0, v1, v2, v3, v4, v5])), some (.imm (.str z)), none]) = _
  have t : m__law_met [some (.imm (.int 6)), some (.imm (.lst [v0, v1, v2, v3, v4, v5])), some (.imm (.str z)), none] = .ret (.imm (.str "drive")) [some (.imm (.int 6)), some (.imm (.lst [v0, v1, v2, v3, v4, v5])), some (.imm (.str z)), none] := by
    unfold m__law_met sTry
    rw [b]
    simp [tryGo, m, s0, fixA_eq e]
  rw [t]
  rfl
end
end K89

/-! ## K89n1 -/
set_option Elab.async false
set_option linter.all false
set_option maxRecDepth 100000
set_option maxHeartbeats 1000000
namespace K89
open PySem L2 DL LinZ
theorem e_take {t : Nat} {o : O} {n : Int} (h : Pot t o) (ht : t ≤ 1000000000) (hn : 0 < n) (hn2 : n < 1000) : ∃ v o', F__law_take [.own o, .imm (.int n)] = .ok (.imm (.int v)) [o'] ∧ 0 ≤ v ∧ v < n ∧ Pot (t + 1) o' := by
  obtain ⟨a, b, c, rfl, hb1, hb2, hc1, hc2⟩ := h
  have dn : opDiv (.int a) (.int n) = some (.d (.int (a / n))) := opDiv_k hn (small_4000 (by omega) (by omega))
  by_cases ha : 0 < a
  · refine ⟨a % n, .lst [.int (a / n), .int b, .int c], ?_, Int.emod_nonneg _ (by omega), Int.emod_lt_of_pos _ hn, _, _, _, rfl, hb1, hb2, hc1, by omega⟩
    simp [F__law_take, m__law_take, ha, hn, dn, frO, opIsB, opNotB, xNew, xMt, tyD, opExF, opIsE, opIsEt, sRaise, sRaiseF, outF, rdO, sSeq, sIf, sb, sRet, sRetN, sSet, sOwn, sApp, sSetIx, isOwn, sAsg, asg1, asgT, asgC, asgN, sExpr, sNil, sBad, sFor, xOr, xAnd, xNot, xAsB, xAndV, xOrV, xNotV, xIf, xChain, xCall, xBin, xUn, xFn, xLc, cellsOf, backC, mb, mr, mo, aCons, aNil, xVar, xC, rdI, rdC, rdIs, two, one, isi_ii, isi_ib, isi_bi, isi_bb, isi_tt, isi_ll, isi_it, isi_lt, isi_ti, isi_li, isi_ss, opNotN, opIsN, isNonD, opLen, mP, opAdd, opSub, opMul, opMod, opCmp, opNe_int, opEq_int, toI, toIs, xTup, xLst, xIter, xZip, zip2, seqD, xRng1, xRng2, itemsD, opIx, atI, ixN, opTuple, opList, opSum, opAll, opInt, vsOk, wipeC, rsC, turn, szB]
  · have m1 : mulB 67867967 (c + 1) = true := mulB_k (small_4000 (by omega) (by omega)) (small_4000 (by omega) (by omega))
    have m2 : mulB 41 (c + 1) = true := mulB_k (small_4000 (by omega) (by omega)) (small_4000 (by omega) (by omega))
    have p1 : opPow (.int (b + 67867967 * (c + 1))) (.int 3) = some (.d (.int ((b + 67867967 * (c + 1)) ^ 3))) := opPow_k (n := 3) (by omega) (by omega) (by omega)
    generalize hx : (b + 67867967 * (c + 1)) ^ 3 % 2305843009213693921 = x
    have hx1 : 0 ≤ x := by rw [← hx]; exact Int.emod_nonneg _ (by omega)
    have hx2 : x < 2305843009213693921 := by rw [← hx]; exact Int.emod_lt_of_pos _ (by omega)
    generalize hy : b % 1000033 = y
    have hy1 : 0 ≤ y := by rw [← hy]; exact Int.emod_nonneg _ (by omega)
    have hy2 : y < 1000033 := by rw [← hy]; exact Int.emod_lt_of_pos _ (by omega)
    have p2 : opPow (.int (x + y + 41 * (c + 1))) (.int 5) = some (.d (.int ((x + y + 41 * (c + 1)) ^ 5))) := opPow_k (n := 5) (by omega) (by omega) (by omega)
    have d1 : ∀ z, opDiv (.int z) (.int 8192) = some (.d (.int (z / 8192))) := fun z => opDiv_k (by omega) (small_4000 (by omega) (by omega))
    refine ⟨(x + y + 41 * (c + 1)) ^ 5 % 2305843009213693951 / 8192 % n, .lst [.int a, .int b, .int (c + 1)], ?_, Int.emod_nonneg _ (by omega), Int.emod_lt_of_pos _ hn, _, _, _, rfl, hb1, hb2, by omega, by omega⟩
    simp [F__law_take, m__law_take, ha, hn, m1, m2, p1, hx, hy, p2, d1, frO, opIsB, opNotB, xNew, xMt, tyD, opExF, opIsE, opIsEt, sRaise, sRaiseF, outF, rdO, sSeq, sIf, sb, sRet, sRetN, sSet, sOwn, sApp, sSetIx, isOwn, sAsg, asg1, asgT, asgC, asgN, sExpr, sNil, sBad, sFor, xOr, xAnd, xNot, xAsB, xAndV, xOrV, xNotV, xIf, xChain, xCall, xBin, xUn, xFn, xLc, cellsOf, backC, mb, mr, mo, aCons, aNil, xVar, xC, rdI, rdC, rdIs, two, one, isi_ii, isi_ib, isi_bi, isi_bb, isi_tt, isi_ll, isi_it, isi_lt, isi_ti, isi_li, isi_ss, opNotN, opIsN, isNonD, opLen, mP, opAdd, opSub, opMul, opMod, opCmp, opNe_int, opEq_int, toI, toIs, xTup, xLst, xIter, xZip, zip2, seqD, xRng1, xRng2, itemsD, opIx, atI, ixN, opTuple, opList, opSum, opAll, opInt, vsOk, wipeC, rsC, turn, szB]
theorem pot_tail {E : Int} (hE : opPow (.int 10) (.int 18) = some (.d (.int E))) (hE0 : 0 < E) (hE1 : E.natAbs < 2 ^ 64) {c : Int} (hc : 0 ≤ c) (hc2 : c.natAbs < 2 ^ 4000) {k : Nat} (hk : k < 1000) (s : Option Cell) :
    ∃ o ρ, (sSeq (sSet 3 (xBin opMod (xBin opPow (xBin opAdd (xBin opAdd (xBin opMod (xVar 2) (xC (.int 2305843009213693967))) (xBin opMul (xC (.int 130363)) (xVar 1))) (xC (.int 29))) (xC (.int 3))) (xC (.int 2305843009213693951))))
      (sRet (xLst (aCons (xBin opMul (xBin opDiv (xVar 2) (xBin opPow (xC (.int 10)) (xC (.int 18)))) (xCall (DL.one opInt) (aCons (xBin (opCmp fun i j => decide (j ≤ i)) (xVar 2) (xBin opPow (xC (.int 10)) (xC (.int 18)))) aNil))) (aCons (xVar 3) (aCons (xC (.int 0)) aNil)))))) [s, some (.imm (.int k)), some (.imm (.int c)), none] = .ret (.new o) ρ ∧ ρ.length = 4 ∧ Pot 0 o := by
  have m1 : mulB 130363 (k : Int) = true := mulB_k (small_4000 (by omega) (by omega)) (small_4000 (by omega) (by omega))
  have x1 := Int.emod_nonneg c (show (2305843009213693967 : Int) ≠ 0 by omega)
  have x2 := Int.emod_lt_of_pos c (show (0 : Int) < 2305843009213693967 by omega)
  generalize hx : c % 2305843009213693967 = x at x1 x2
  have p1 : opPow (.int (x + 130363 * (k : Int) + 29)) (.int 3) = some (.d (.int ((x + 130363 * (k : Int) + 29) ^ 3))) := opPow_k (n := 3) (by omega) (by omega) (by omega)
  have y1 := Int.emod_nonneg ((x + 130363 * (k : Int) + 29) ^ 3) (show (2305843009213693951 : Int) ≠ 0 by omega)
  have y2 := Int.emod_lt_of_pos ((x + 130363 * (k : Int) + 29) ^ 3) (show (0 : Int) < 2305843009213693951 by omega)
  have d1 : opDiv (.int c) (.int E) = some (.d (.int (c / E))) := opDiv_k hE0 (small_4000 (by omega) (by omega))
  have q1 : 0 ≤ c / E := Int.ediv_nonneg hc (by omega)
  have q2 : c / E ≤ c := Int.ediv_le_self E hc
  have q3 : (c / E).natAbs < 2 ^ 4000 := by
    generalize (2 : Nat) ^ 4000 = N at hc2 ⊢
    omega
  have m2 : mulB (c / E) 1 = true := mulB_k q3 (small_4000 (by omega) (by omega))
  have m3 : mulB (c / E) 0 = true := mulB_k q3 (small_4000 (by omega) (by omega))
  by_cases hce : E ≤ c
  · refine ⟨.lst [.int (c / E), .int ((x + 130363 * (k : Int) + 29) ^ 3 % 2305843009213693951), .int 0], [s, some (.imm (.int k)), some (.imm (.int c)), some (.imm (.int ((x + 130363 * (k : Int) + 29) ^ 3 % 2305843009213693951)))], ?_, rfl, _, _, _, rfl, y1, y2, by omega, by omega⟩
    simp [m1, hx, p1, hE, d1, hce, m2, frO, opIsB, opNotB, xNew, xMt, tyD, opExF, opIsE, opIsEt, sRaise, sRaiseF, outF, rdO, sSeq, sIf, sb, sRet, sRetN, sSet, sOwn, sApp, sSetIx, isOwn, sAsg, asg1, asgT, asgC, asgN, sExpr, sNil, sBad, sFor, xOr, xAnd, xNot, xAsB, xAndV, xOrV, xNotV, xIf, xChain, xCall, xBin, xUn, xFn, xLc, cellsOf, backC, mb, mr, mo, aCons, aNil, xVar, xC, rdI, rdC, rdIs, two, one, isi_ii, isi_ib, isi_bi, isi_bb, isi_tt, isi_ll, isi_it, isi_lt, isi_ti, isi_li, isi_ss, opNotN, opIsN, isNonD, opLen, mP, opAdd, opSub, opMul, opMod, opCmp, opNe_int, opEq_int, toI, toIs, xTup, xLst, xIter, xZip, zip2, seqD, xRng1, xRng2, itemsD, opIx, atI, ixN, opTuple, opList, opSum, opAll, opInt, vsOk, wipeC, rsC, turn, szB]
  · refine ⟨.lst [.int 0, .int ((x + 130363 * (k : Int) + 29) ^ 3 % 2305843009213693951), .int 0], [s, some (.imm (.int k)), some (.imm (.int c)), some (.imm (.int ((x + 130363 * (k : Int) + 29) ^ 3 % 2305843009213693951)))], ?_, rfl, _, _, _, rfl, y1, y2, by omega, by omega⟩
    simp [m1, hx, p1, hE, d1, hce, m3, frO, opIsB, opNotB, xNew, xMt, tyD, opExF, opIsE, opIsEt, sRaise, sRaiseF, outF, rdO, sSeq, sIf, sb, sRet, sRetN, sSet, sOwn, sApp, sSetIx, isOwn, sAsg, asg1, asgT, asgC, asgN, sExpr, sNil, sBad, sFor, xOr, xAnd, xNot, xAsB, xAndV, xOrV, xNotV, xIf, xChain, xCall, xBin, xUn, xFn, xLc, cellsOf, backC, mb, mr, mo, aCons, aNil, xVar, xC, rdI, rdC, rdIs, two, one, isi_ii, isi_ib, isi_bi, isi_bb, isi_tt, isi_ll, isi_it, isi_lt, isi_ti, isi_li, isi_ss, opNotN, opIsN, isNonD, opLen, mP, opAdd, opSub, opMul, opMod, opCmp, opNe_int, opEq_int, toI, toIs, xTup, xLst, xIter, xZip, zip2, seqD, xRng1, xRng2, itemsD, opIx, atI, ixN, opTuple, opList, opSum, opAll, opInt, vsOk, wipeC, rsC, turn, szB]
theorem e_pot (ns : List Int) {k : Nat} (hk : k < 1000) : ∃ o, F__law_pot [.imm (.scr (ns.map .int)), .imm (.int k)] = .ok (.new o) [] ∧ Pot 0 o := by
  obtain ⟨T, Mo, E, h1, h2, h3, h4, hE, hE0, hE1⟩ := powers
  have m1 : mulB 6 (k : Int) = true := mulB_s (by omega) (by omega)
  have fin : ∀ c : Int, 0 ≤ c → c.natAbs < 2 ^ 4000 →
      (sIf (xAsB (xBin (opCmp fun i j => decide (i < j)) (xVar 1) (xCall (DL.one opLen) (aCons (xVar 0) aNil)))) (sSet 2 (xBin opAdd (xBin opMul (xBin opMod (xCall (DL.one opAbs) (aCons (xBin opIx (xVar 0) (xVar 1)) aNil)) (xBin opPow (xBin opPow (xC (.int 10)) (xC (.int 60))) (xC (.int 14)))) (xC (.int 2))) (xCall (DL.one opInt) (aCons (xBin (opCmp fun i j => decide (i < j)) (xBin opIx (xVar 0) (xVar 1)) (xC (.int 0))) aNil)))) sNil)
        [some (.imm (.scr (ns.map .int))), some (.imm (.int k)), some (.imm (.int (6 * k + 1))), none] = .next [some (.imm (.scr (ns.map .int))), some (.imm (.int k)), some (.imm (.int c)), none] →
      ∃ o, F__law_pot [.imm (.scr (ns.map .int)), .imm (.int k)] = .ok (.new o) [] ∧ Pot 0 o := fun c c0 c1 hs => by
    obtain ⟨o, ρ, q, hlen, hp⟩ := pot_tail hE hE0 hE1 c0 c1 hk (some (.imm (.scr (ns.map .int))))
    refine ⟨o, ?_, hp⟩
    have e : m__law_pot [some (.imm (.scr (ns.map .int))), some (.imm (.int k)), none, none] = .ret (.new o) ρ := by
      unfold m__law_pot
      refine (seq_next (ρ' := [some (.imm (.scr (ns.map .int))), some (.imm (.int k)), some (.imm (.int (6 * k + 1))), none]) ?_).trans ((seq_next hs).trans q)
      simp [m1, frO, opIsB, opNotB, xNew, xMt, tyD, opExF, opIsE, opIsEt, sRaise, sRaiseF, outF, rdO, sSeq, sIf, sb, sRet, sRetN, sSet, sOwn, sApp, sSetIx, isOwn, sAsg, asg1, asgT, asgC, asgN, sExpr, sNil, sBad, sFor, xOr, xAnd, xNot, xAsB, xAndV, xOrV, xNotV, xIf, xChain, xCall, xBin, xUn, xFn, xLc, cellsOf, backC, mb, mr, mo, aCons, aNil, xVar, xC, rdI, rdC, rdIs, two, one, isi_ii, isi_ib, isi_bi, isi_bb, isi_tt, isi_ll, isi_it, isi_lt, isi_ti, isi_li, isi_ss, opNotN, opIsN, isNonD, opLen, mP, opAdd, opSub, opMul, opMod, opCmp, opNe_int, opEq_int, toI, toIs, xTup, xLst, xIter, xZip, zip2, seqD, xRng1, xRng2, itemsD, opIx, atI, ixN, opTuple, opList, opSum, opAll, opInt, vsOk, wipeC, rsC, turn, szB]
    show outF [Md.d, Md.d] (m__law_pot [some (.imm (.scr (ns.map .int))), some (.imm (.int k)), none, none]) = _
    rw [e]
    match ρ, hlen with
    | [a, b, c, d], _ => rfl
  by_cases hl : k < ns.length
  · have hl' : (k : Int) < (ns.length : Int) := by omega
    have g : (ns.map D.int)[k]? = some (.int ns[k]) := by simp [hl]
    have g2 : ns[k]? = some ns[k] := by simp [hl]
    generalize ns[k] = s at g g2
    generalize hy : (if s < 0 then -s else s) % Mo = y
    have y1 : 0 ≤ y := by rw [← hy]; exact Int.emod_nonneg _ (by omega)
    have y2 : y < Mo := by rw [← hy]; exact Int.emod_lt_of_pos _ h3
    have e4 : (2 : Nat) ^ 4000 = 4 * 2 ^ 3998 := by rw [show 4000 = 3998 + 2 from rfl, Nat.pow_add, Nat.mul_comm]
    have b1 : y.natAbs < 2 ^ 4000 := by
      rw [e4]
      generalize (2 : Nat) ^ 3998 = N at h4 ⊢
      omega
    have m2 : mulB y 2 = true := mulB_k b1 (small_4000 (by omega) (by omega))
    by_cases hs : s < 0
    · have b2 : (y * 2 + 1).natAbs < 2 ^ 4000 := by
        rw [e4]
        generalize (2 : Nat) ^ 3998 = N at h4 ⊢
        omega
      rw [if_pos hs] at hy
      refine fin (y * 2 + 1) (by omega) b2 ?_
      simp [hl', g, g2, hs, hy, h1, h2, h3, m2, opAbs, frO, opIsB, opNotB, xNew, xMt, tyD, opExF, opIsE, opIsEt, sRaise, sRaiseF, outF, rdO, sSeq, sIf, sb, sRet, sRetN, sSet, sOwn, sApp, sSetIx, isOwn, sAsg, asg1, asgT, asgC, asgN, sExpr, sNil, sBad, sFor, xOr, xAnd, xNot, xAsB, xAndV, xOrV, xNotV, xIf, xChain, xCall, xBin, xUn, xFn, xLc, cellsOf, backC, mb, mr, mo, aCons, aNil, xVar, xC, rdI, rdC, rdIs, two, one, isi_ii, isi_ib, isi_bi, isi_bb, isi_tt, isi_ll, isi_it, isi_lt, isi_ti, isi_li, isi_ss, opNotN, opIsN, isNonD, opLen, mP, opAdd, opSub, opMul, opMod, opCmp, opNe_int, opEq_int, toI, toIs, xTup, xLst, xIter, xZip, zip2, seqD, xRng1, xRng2, itemsD, opIx, atI, ixN, opTuple, opList, opSum, opAll, opInt, vsOk, wipeC, rsC, turn, szB]
    · have b2 : (y * 2).natAbs < 2 ^ 4000 := by
        rw [e4]
        generalize (2 : Nat) ^ 3998 = N at h4 ⊢
        omega
      rw [if_neg hs] at hy
      refine fin (y * 2) (by omega) b2 ?_
      simp [hl', g, g2, hs, hy, h1, h2, h3, m2, opAbs, frO, opIsB, opNotB, xNew, xMt, tyD, opExF, opIsE, opIsEt, sRaise, sRaiseF, outF, rdO, sSeq, sIf, sb, sRet, sRetN, sSet, sOwn, sApp, sSetIx, isOwn, sAsg, asg1, asgT, asgC, asgN, sExpr, sNil, sBad, sFor, xOr, xAnd, xNot, xAsB, xAndV, xOrV, xNotV, xIf, xChain, xCall, xBin, xUn, xFn, xLc, cellsOf, backC, mb, mr, mo, aCons, aNil, xVar, xC, rdI, rdC, rdIs, two, one, isi_ii, isi_ib, isi_bi, isi_bb, isi_tt, isi_ll, isi_it, isi_lt, isi_ti, isi_li, isi_ss, opNotN, opIsN, isNonD, opLen, mP, opAdd, opSub, opMul, opMod, opCmp, opNe_int, opEq_int, toI, toIs, xTup, xLst, xIter, xZip, zip2, seqD, xRng1, xRng2, itemsD, opIx, atI, ixN, opTuple, opList, opSum, opAll, opInt, vsOk, wipeC, rsC, turn, szB]
  · have hl' : ¬ (k : Int) < (ns.length : Int) := by omega
    refine fin (6 * k + 1) (by omega) (small_4000 (by omega) (by omega)) ?_
    simp [hl', frO, opIsB, opNotB, xNew, xMt, tyD, opExF, opIsE, opIsEt, sRaise, sRaiseF, outF, rdO, sSeq, sIf, sb, sRet, sRetN, sSet, sOwn, sApp, sSetIx, isOwn, sAsg, asg1, asgT, asgC, asgN, sExpr, sNil, sBad, sFor, xOr, xAnd, xNot, xAsB, xAndV, xOrV, xNotV, xIf, xChain, xCall, xBin, xUn, xFn, xLc, cellsOf, backC, mb, mr, mo, aCons, aNil, xVar, xC, rdI, rdC, rdIs, two, one, isi_ii, isi_ib, isi_bi, isi_bb, isi_tt, isi_ll, isi_it, isi_lt, isi_ti, isi_li, isi_ss, opNotN, opIsN, isNonD, opLen, mP, opAdd, opSub, opMul, opMod, opCmp, opNe_int, opEq_int, toI, toIs, xTup, xLst, xIter, xZip, zip2, seqD, xRng1, xRng2, itemsD, opIx, atI, ixN, opTuple, opList, opSum, opAll, opInt, vsOk, wipeC, rsC, turn, szB]
end K89

/-! ## K89p5 -/
set_option Elab.async false
set_option linter.all false
set_option maxRecDepth 100000
set_option maxHeartbeats 1000000
namespace K89
open PySem L2 DL LinZ
/-! texts of single signs -/
def sgn (c : Nat) : Str := ⟨#[c]⟩
theorem empty_cps : ("" : Str).cps = #[] := by decide +kernel
theorem glue_go : ∀ (l : List Nat) (acc : Array Nat), (l.map sgn).foldl (fun acc p => acc ++ ("" : Str).cps ++ p.cps) acc = acc ++ l.toArray
  | [], acc => by simp
  | c :: l, acc => by
    rw [List.map_cons, List.foldl_cons, glue_go l, empty_cps]
    simp [sgn]
theorem glue_one (l : List Nat) : Txt.join "" (l.map sgn) = ⟨l.toArray⟩ := by
  show (⟨((l.map sgn).drop 1).foldl (fun acc p => acc ++ ("" : Str).cps ++ p.cps) ((l.map sgn).headD Str.empty).cps⟩ : Str) = _
  congr 1
  cases l with
  | nil => rfl
  | cons c l =>
    rw [List.map_cons, List.drop_one, List.tail_cons, List.headD_cons, glue_go]
    simp [sgn]
theorem join_room {l : List Nat} (h : l.length ≤ 1000) : JoinOk "" (l.map sgn) = true := by
  have e : ∀ (l : List Nat) (k : Nat), (l.map sgn).foldl (fun n x => n + x.length + ("" : Str).length) k = k + l.length := by
    intro l
    induction l with
    | nil => intro k; rfl
    | cons c l ih =>
      intro k
      rw [List.map_cons, List.foldl_cons, ih, List.length_cons]
      have h1 : (sgn c).length = 1 := rfl
      have h2 : ("" : Str).length = 0 := by decide +kernel
      rw [h1, h2]
      omega
  unfold JoinOk
  rw [Bool.not_eq_true', List.foldl_toArray, e]
  have h3 : sizeLine = 16777216 := by decide +kernel
  show decide (0 + l.length > sizeLine) = false
  rw [h3]
  exact decide_eq_false (by omega)
theorem txts_of : ∀ l : List Nat, txtsOf (l.map fun c => D.str (sgn c)) = some (l.map sgn)
  | [] => rfl
  | c :: l => by
    rw [List.map_cons, txtsOf, txts_of l]
    rfl
theorem join_at {l : List Nat} (h : l.length ≤ 1000) : opJoin (.str "") [.lst (l.map fun c => .str (sgn c))] = some (.d (.str ⟨l.toArray⟩)) := by
  unfold opJoin
  dsimp only
  rw [txts_of, Option.bind_some, if_pos (join_room h), glue_one]
theorem rp_text {l : List Nat} (h : l.length ≤ 9) (hc : ∀ c ∈ l, c < 128) : Rp 0 20 (.str ⟨l.toArray⟩) := by
  refine ⟨.str ⟨l.toArray⟩, rfl, rfl, by simp [PyData.depth], ?_, ?_⟩
  · show l.toArray.toList.all (fun c => decide (c < 16 ^ 8)) = true
    rw [List.all_eq_true]
    intro c hc'
    have := hc c (by simpa using hc')
    exact decide_eq_true (Nat.lt_of_lt_of_le this (by decide))
  · show l.toArray.size ≤ 20
    simp
    omega
theorem list_of {ds : List D} (h : ∀ d ∈ ds, ∃ c, d = D.str (sgn c) ∧ c < 128) : ∃ l : List Nat, ds = l.map (fun c => D.str (sgn c)) ∧ ∀ c ∈ l, c < 128 := by
  induction ds with
  | nil => exact ⟨[], rfl, fun c hc => nomatch hc⟩
  | cons d ds ih =>
    obtain ⟨l, rfl, hl⟩ := ih fun x hx => h x (List.mem_cons_of_mem _ hx)
    obtain ⟨c, rfl, hc⟩ := h d List.mem_cons_self
    exact ⟨c :: l, rfl, fun x hx => by
      rcases List.mem_cons.mp hx with z | z
      · rw [z]; exact hc
      · exact hl x z⟩
/-! one of some -/
theorem e_one {t : Nat} {o : O} {n : Int} {Xd : D} {Pd : D → Prop} (h : Pot t o) (ht : t ≤ 1000000000) (hn : 0 < n) (hn2 : n < 1000) (ln : opLen Xd = some (.d (.int n)))
    (ix : ∀ v, 0 ≤ v → v < n → ∃ d, opIx Xd (.int v) = some (.d d) ∧ Pd d) : ∃ d o', F__law_one [.own o, .imm Xd] = .ok (.imm d) [o'] ∧ Pd d ∧ Pot (t + 1) o' := by
  obtain ⟨v, o', e, h1, h2, i⟩ := e_take (n := n) h ht hn hn2
  obtain ⟨d, e2, hd⟩ := ix v h1 h2
  refine ⟨d, o', ?_, hd, i⟩
  simp [F__law_one, m__law_one, ln, e, e2, frO, opIsB, opNotB, xNew, xMt, tyD, opExF, opIsE, opIsEt, sRaise, sRaiseF, outF, rdO, sSeq, sIf, sb, sRet, sRetN, sSet, sOwn, sApp, sSetIx, isOwn, sAsg, asg1, asgT, asgC, asgN, sExpr, sNil, sBad, sFor, xOr, xAnd, xNot, xAsB, xAndV, xOrV, xNotV, xIf, xChain, xCall, xBin, xUn, xFn, xLc, cellsOf, backC, mb, mr, mo, aCons, aNil, xVar, xC, rdI, rdC, rdIs, two, one, isi_ii, isi_ib, isi_bi, isi_bb, isi_tt, isi_ll, isi_it, isi_lt, isi_ti, isi_li, isi_ss, opNotN, opIsN, isNonD, opLen, mP, opAdd, opSub, opMul, opMod, opCmp, opNe_int, opEq_int, toI, toIs, xTup, xLst, xIter, xZip, zip2, seqD, xRng1, xRng2, itemsD, opIx, atI, ixN, opTuple, opList, opSum, opAll, opInt, vsOk, wipeC, rsC, turn, szB, -opLen, -opIx]
theorem e_oneL {t : Nat} {o : O} {L : List D} {Pd : D → Prop} (h : Pot t o) (ht : t ≤ 1000000000) (h0 : 0 < L.length) (h1 : L.length < 1000) (hL : ∀ d ∈ L, Pd d) : ∃ d o', F__law_one [.own o, .imm (.lst L)] = .ok (.imm d) [o'] ∧ Pd d ∧ Pot (t + 1) o' := by
  refine e_one (n := (L.length : Int)) h ht (by omega) (by omega) rfl fun v v0 v1 => ?_
  obtain ⟨k, rfl⟩ := Int.eq_ofNat_of_zero_le v0
  have hk : k < L.length := by omega
  refine ⟨L[k], ?_, hL _ (List.getElem_mem hk)⟩
  simp [opIx, atI, ixN, hk]
theorem e_oneS {t : Nat} {o : O} (h : Pot t o) (ht : t ≤ 1000000000) : ∃ d o', F__law_one [.own o, .imm (.str "ab c:1")] = .ok (.imm d) [o'] ∧ (∃ c, d = D.str (sgn c) ∧ c < 128) ∧ Pot (t + 1) o' := by
  refine e_one (n := 6) h ht (by omega) (by omega) (by kernel_rfl) fun v v0 v1 => ?_
  have hv : v = 0 ∨ v = 1 ∨ v = 2 ∨ v = 3 ∨ v = 4 ∨ v = 5 := by omega
  rcases hv with rfl | rfl | rfl | rfl | rfl | rfl
  · exact ⟨.str (sgn 97), by kernel_rfl, 97, rfl, by omega⟩
  · exact ⟨.str (sgn 98), by kernel_rfl, 98, rfl, by omega⟩
  · exact ⟨.str (sgn 32), by kernel_rfl, 32, rfl, by omega⟩
  · exact ⟨.str (sgn 99), by kernel_rfl, 99, rfl, by omega⟩
  · exact ⟨.str (sgn 58), by kernel_rfl, 58, rfl, by omega⟩
  · exact ⟨.str (sgn 49), by kernel_rfl, 49, rfl, by omega⟩
end K89

/-! ## K89p6 -/
set_option Elab.async false
set_option linter.all false
set_option maxRecDepth 100000
set_option maxHeartbeats 1000000
namespace K89
open PySem L2 DL LinZ
theorem big39 : ∃ B : Int, opPow (.int 10) (.int 39) = some (.d (.int B)) ∧ Rp 0 200 (.int B) := ⟨10 ^ 39, by kernel_rfl, rpB_ok (by decide +kernel)⟩
def few (B : Int) (z : Str) : List D := [.non, .int 0, .int (-1), .int B, .str "", .str "a", .tup [], .tup [.str "late", .tup [.tup [.int 1, .int 0]]], .dct [.inr "a"] [.int 1], .lst [], .lst [.str z], .tup [.str z, .int 5]]
def lims : List D := [.int 2, .int 6, .int 8, .int 12, .int 40, .int 60, .int 100, .int 200, .int 400, .int 1000, .int 5000]
def papers : List D := [.tup [.str "late", .tup [.tup [.int 1, .int 0]]], .tup [.str "late", .tup [.tup [.int 0, .int 0], .tup [.int 0, .int 1]]], .tup [.str "tied", .dct [.inr "a"] [.int 1]], .tup [.str "tied", .dct [.inr "a", .inr "b"] [.int 2, .int 4]]]
def names : List D := [.str "a", .str "ab", .str "abcdefgh", .str "z"]
theorem few_rp {B : Int} {z : Str} (hB : Rp 0 200 (.int B)) (hz : Rp 0 20 (.str z)) : ∀ d ∈ few B z, Rp 4 400 d := by
  intro d hd
  simp only [few, List.mem_cons, List.not_mem_nil, or_false] at hd
  rcases hd with rfl | rfl | rfl | rfl | rfl | rfl | rfl | rfl | rfl | rfl | rfl | rfl
  · exact rpB_ok (by decide +kernel)
  · exact rpB_ok (by decide +kernel)
  · exact rpB_ok (by decide +kernel)
  · exact hB.mono (by omega) (by omega)
  · exact rpB_ok (by decide +kernel)
  · exact rpB_ok (by decide +kernel)
  · exact rpB_ok (by decide +kernel)
  · exact rpB_ok (by decide +kernel)
  · exact rpB_ok (by decide +kernel)
  · exact rpB_ok (by decide +kernel)
  · exact (rp_lst (k := 0) (n := 20) (m := 400) (fun x hx => by rw [List.mem_singleton.mp hx]; exact hz) (by simp)).mono (by omega) (by omega)
  · exact (rp_tup (k := 0) (n := 20) (m := 400) (fun x hx => by
      simp only [List.mem_cons, List.not_mem_nil, or_false] at hx
      rcases hx with rfl | rfl
      · exact hz
      · exact rpB_ok (by decide +kernel)) (by simp)).mono (by omega) (by omega)
theorem all_rp {k n : Nat} : ∀ {L : List D}, L.all (rpB k n) = true → ∀ d ∈ L, Rp k n d := fun h d hd => rpB_ok (List.all_eq_true.mp h d hd)
theorem lims_rp : ∀ d ∈ lims, Rp 4 400 d := all_rp (by decide +kernel)
theorem papers_rp : ∀ d ∈ papers, Rp 4 400 d := all_rp (by decide +kernel)
theorem names_rp : ∀ d ∈ names, Rp 4 400 d := all_rp (by decide +kernel)
theorem e_some {t : Nat} {o : O} {z : Str} (h : Pot t o) (ht : t + 100 ≤ 1000000000) (hz : Rp 0 20 (.str z)) :
    ∃ v0 v1 v2 v3 v4 v5 o', F__law_some_values [.own o, .imm (.str z)] = .ok (.new (.lst [v0, v1, v2, v3, v4, v5])) [o'] ∧ (∀ d ∈ [v0, v1, v2, v3, v4, v5], Rp 4 400 d) ∧ Pot (t + 6) o' := by
  obtain ⟨B, hB, rB⟩ := big39
  obtain ⟨v0, o0, e0, r0, i0⟩ := e_oneL (L := few B z) h (by omega) (by simp [few]) (by simp [few]) (few_rp rB hz)
  obtain ⟨v1, o1, e1, r1, i1⟩ := e_oneL (L := few B z) i0 (by omega) (by simp [few]) (by simp [few]) (few_rp rB hz)
  obtain ⟨v2, o2, e2, r2, i2⟩ := e_oneL (L := lims) i1 (by omega) (by simp [lims]) (by simp [lims]) lims_rp
  obtain ⟨v3, o3, e3, r3, i3⟩ := e_oneL (L := papers) i2 (by omega) (by simp [papers]) (by simp [papers]) papers_rp
  obtain ⟨v4, o4, e4, a4, b4, i4⟩ := e_take (n := 200) i3 (by omega) (by omega) (by omega)
  obtain ⟨v5, o5, e5, r5, i5⟩ := e_oneL (L := names) i4 (by omega) (by simp [names]) (by simp [names]) names_rp
  refine ⟨v0, v1, v2, v3, .int v4, v5, o5, ?_, fun d hd => ?_, i5⟩
  · have l1 : ∀ ρ : Env', ρ[1]? = some (some (.imm (.str z))) → (xLst (aCons (xC .non) (aCons (xC (.int 0)) (aCons (xUn opNeg (xC (.int 1))) (aCons (xBin opPow (xC (.int 10)) (xC (.int 39))) (aCons (xC (.str "")) (aCons (xC (.str "a")) (aCons (xTup aNil) (aCons (xTup (aCons (xC (.str "late")) (aCons (xTup (aCons (xTup (aCons (xC (.int 1)) (aCons (xC (.int 0)) aNil))) aNil)) aNil))) (aCons (xNew (.dct [(Sum.inr "a")] [(.int 1)])) (aCons (xLst aNil) (aCons (xLst (aCons (xVar 1) aNil)) (aCons (xTup (aCons (xVar 1) (aCons (xC (.int 5)) aNil))) aNil))))))))))))) ρ = .ok (.new (.lst (few B z))) ρ := fun ρ e => by
      simp [hB, e, few, opNeg, frO, opIsB, opNotB, xNew, xMt, tyD, opExF, opIsE, opIsEt, sRaise, sRaiseF, outF, rdO, sSeq, sIf, sb, sRet, sRetN, sSet, sOwn, sApp, sSetIx, isOwn, sAsg, asg1, asgT, asgC, asgN, sExpr, sNil, sBad, sFor, xOr, xAnd, xNot, xAsB, xAndV, xOrV, xNotV, xIf, xChain, xCall, xBin, xUn, xFn, xLc, cellsOf, backC, mb, mr, mo, aCons, aNil, xVar, xC, rdI, rdC, rdIs, two, one, isi_ii, isi_ib, isi_bi, isi_bb, isi_tt, isi_ll, isi_it, isi_lt, isi_ti, isi_li, isi_ss, opNotN, opIsN, isNonD, opLen, mP, opAdd, opSub, opMul, opMod, opCmp, opNe_int, opEq_int, toI, toIs, xTup, xLst, xIter, xZip, zip2, seqD, xRng1, xRng2, itemsD, opIx, atI, ixN, opTuple, opList, opSum, opAll, opInt, vsOk, wipeC, rsC, turn, szB]
    have l2 : ∀ ρ : Env', xLst (aCons (xC (.int 2)) (aCons (xC (.int 6)) (aCons (xC (.int 8)) (aCons (xC (.int 12)) (aCons (xC (.int 40)) (aCons (xC (.int 60)) (aCons (xC (.int 100)) (aCons (xC (.int 200)) (aCons (xC (.int 400)) (aCons (xC (.int 1000)) (aCons (xC (.int 5000)) aNil))))))))))) ρ = .ok (.new (.lst lims)) ρ := fun ρ => by
      simp [lims, frO, opIsB, opNotB, xNew, xMt, tyD, opExF, opIsE, opIsEt, sRaise, sRaiseF, outF, rdO, sSeq, sIf, sb, sRet, sRetN, sSet, sOwn, sApp, sSetIx, isOwn, sAsg, asg1, asgT, asgC, asgN, sExpr, sNil, sBad, sFor, xOr, xAnd, xNot, xAsB, xAndV, xOrV, xNotV, xIf, xChain, xCall, xBin, xUn, xFn, xLc, cellsOf, backC, mb, mr, mo, aCons, aNil, xVar, xC, rdI, rdC, rdIs, two, one, isi_ii, isi_ib, isi_bi, isi_bb, isi_tt, isi_ll, isi_it, isi_lt, isi_ti, isi_li, isi_ss, opNotN, opIsN, isNonD, opLen, mP, opAdd, opSub, opMul, opMod, opCmp, opNe_int, opEq_int, toI, toIs, xTup, xLst, xIter, xZip, zip2, seqD, xRng1, xRng2, itemsD, opIx, atI, ixN, opTuple, opList, opSum, opAll, opInt, vsOk, wipeC, rsC, turn, szB]
    have l3 : ∀ ρ : Env', xLst (aCons (xTup (aCons (xC (.str "late")) (aCons (xTup (aCons (xTup (aCons (xC (.int 1)) (aCons (xC (.int 0)) aNil))) aNil)) aNil))) (aCons (xTup (aCons (xC (.str "late")) (aCons (xTup (aCons (xTup (aCons (xC (.int 0)) (aCons (xC (.int 0)) aNil))) (aCons (xTup (aCons (xC (.int 0)) (aCons (xC (.int 1)) aNil))) aNil))) aNil))) (aCons (xTup (aCons (xC (.str "tied")) (aCons (xNew (.dct [(Sum.inr "a")] [(.int 1)])) aNil))) (aCons (xTup (aCons (xC (.str "tied")) (aCons (xNew (.dct [(Sum.inr "a"), (Sum.inr "b")] [(.int 2), (.int 4)])) aNil))) aNil)))) ρ = .ok (.new (.lst papers)) ρ := fun ρ => by
      simp [papers, frO, opIsB, opNotB, xNew, xMt, tyD, opExF, opIsE, opIsEt, sRaise, sRaiseF, outF, rdO, sSeq, sIf, sb, sRet, sRetN, sSet, sOwn, sApp, sSetIx, isOwn, sAsg, asg1, asgT, asgC, asgN, sExpr, sNil, sBad, sFor, xOr, xAnd, xNot, xAsB, xAndV, xOrV, xNotV, xIf, xChain, xCall, xBin, xUn, xFn, xLc, cellsOf, backC, mb, mr, mo, aCons, aNil, xVar, xC, rdI, rdC, rdIs, two, one, isi_ii, isi_ib, isi_bi, isi_bb, isi_tt, isi_ll, isi_it, isi_lt, isi_ti, isi_li, isi_ss, opNotN, opIsN, isNonD, opLen, mP, opAdd, opSub, opMul, opMod, opCmp, opNe_int, opEq_int, toI, toIs, xTup, xLst, xIter, xZip, zip2, seqD, xRng1, xRng2, itemsD, opIx, atI, ixN, opTuple, opList, opSum, opAll, opInt, vsOk, wipeC, rsC, turn, szB]
    have l4 : ∀ ρ : Env', xLst (aCons (xC (.str "a")) (aCons (xC (.str "ab")) (aCons (xC (.str "abcdefgh")) (aCons (xC (.str "z")) aNil)))) ρ = .ok (.new (.lst names)) ρ := fun ρ => by
      simp [names, frO, opIsB, opNotB, xNew, xMt, tyD, opExF, opIsE, opIsEt, sRaise, sRaiseF, outF, rdO, sSeq, sIf, sb, sRet, sRetN, sSet, sOwn, sApp, sSetIx, isOwn, sAsg, asg1, asgT, asgC, asgN, sExpr, sNil, sBad, sFor, xOr, xAnd, xNot, xAsB, xAndV, xOrV, xNotV, xIf, xChain, xCall, xBin, xUn, xFn, xLc, cellsOf, backC, mb, mr, mo, aCons, aNil, xVar, xC, rdI, rdC, rdIs, two, one, isi_ii, isi_ib, isi_bi, isi_bb, isi_tt, isi_ll, isi_it, isi_lt, isi_ti, isi_li, isi_ss, opNotN, opIsN, isNonD, opLen, mP, opAdd, opSub, opMul, opMod, opCmp, opNe_int, opEq_int, toI, toIs, xTup, xLst, xIter, xZip, zip2, seqD, xRng1, xRng2, itemsD, opIx, atI, ixN, opTuple, opList, opSum, opAll, opInt, vsOk, wipeC, rsC, turn, szB]
    show outF [Md.x, Md.d] (m__law_some_values [some (.own o), some (.imm (.str z)), none, none, none]) = _
    have m : m__law_some_values [some (.own o), some (.imm (.str z)), none, none, none] = .ret (.new (.lst [v0, v1, v2, v3, .int v4, v5])) [some (.own o5), some (.imm (.str z)), some (.imm (.lst (few B z))), some (.own (.lst [v0, v1, v2, v3])), some (.imm (.lst papers))] := by
      unfold m__law_some_values
      have h1 := l1 [some (.own o), some (.imm (.str z)), none, none, none] rfl
      generalize (xLst (aCons (xC .non) (aCons (xC (.int 0)) (aCons (xUn opNeg (xC (.int 1))) (aCons (xBin opPow (xC (.int 10)) (xC (.int 39))) (aCons (xC (.str "")) (aCons (xC (.str "a")) (aCons (xTup aNil) (aCons (xTup (aCons (xC (.str "late")) (aCons (xTup (aCons (xTup (aCons (xC (.int 1)) (aCons (xC (.int 0)) aNil))) aNil)) aNil))) (aCons (xNew (.dct [(Sum.inr "a")] [(.int 1)])) (aCons (xLst aNil) (aCons (xLst (aCons (xVar 1) aNil)) (aCons (xTup (aCons (xVar 1) (aCons (xC (.int 5)) aNil))) aNil))))))))))))) = G1 at *
      generalize xLst (aCons (xC (.int 2)) (aCons (xC (.int 6)) (aCons (xC (.int 8)) (aCons (xC (.int 12)) (aCons (xC (.int 40)) (aCons (xC (.int 60)) (aCons (xC (.int 100)) (aCons (xC (.int 200)) (aCons (xC (.int 400)) (aCons (xC (.int 1000)) (aCons (xC (.int 5000)) aNil))))))))))) = G2 at *
      generalize xLst (aCons (xTup (aCons (xC (.str "late")) (aCons (xTup (aCons (xTup (aCons (xC (.int 1)) (aCons (xC (.int 0)) aNil))) aNil)) aNil))) (aCons (xTup (aCons (xC (.str "late")) (aCons (xTup (aCons (xTup (aCons (xC (.int 0)) (aCons (xC (.int 0)) aNil))) (aCons (xTup (aCons (xC (.int 0)) (aCons (xC (.int 1)) aNil))) aNil))) aNil))) (aCons (xTup (aCons (xC (.str "tied")) (aCons (xNew (.dct [(Sum.inr "a")] [(.int 1)])) aNil))) (aCons (xTup (aCons (xC (.str "tied")) (aCons (xNew (.dct [(Sum.inr "a"), (Sum.inr "b")] [(.int 2), (.int 4)])) aNil))) aNil)))) = G3 at *
      generalize xLst (aCons (xC (.str "a")) (aCons (xC (.str "ab")) (aCons (xC (.str "abcdefgh")) (aCons (xC (.str "z")) aNil)))) = G4 at *
      generalize few B z = FW at *
      generalize lims = LM at *
      generalize papers = PP at *
      generalize names = NM at *
      simp [h1, l2, l3, l4, e0, e1, e2, e3, e4, e5, frO, opIsB, opNotB, xNew, xMt, tyD, opExF, opIsE, opIsEt, sRaise, sRaiseF, outF, rdO, sSeq, sIf, sb, sRet, sRetN, sSet, sOwn, sApp, sSetIx, isOwn, sAsg, asg1, asgT, asgC, asgN, sExpr, sNil, sBad, sFor, xOr, xAnd, xNot, xAsB, xAndV, xOrV, xNotV, xIf, xChain, xCall, xBin, xUn, xFn, xLc, cellsOf, backC, mb, mr, mo, aCons, aNil, xVar, xC, rdI, rdC, rdIs, two, one, isi_ii, isi_ib, isi_bi, isi_bb, isi_tt, isi_ll, isi_it, isi_lt, isi_ti, isi_li, isi_ss, opNotN, opIsN, isNonD, opLen, mP, opAdd, opSub, opMul, opMod, opCmp, opNe_int, opEq_int, toI, toIs, xTup, xLst, xIter, xZip, zip2, seqD, xRng1, xRng2, itemsD, opIx, atI, ixN, opTuple, opList, opSum, opAll, opInt, vsOk, wipeC, rsC, turn, szB]
    rw [m]
    rfl
  · simp only [List.mem_cons, List.not_mem_nil, or_false] at hd
    rcases hd with rfl | rfl | rfl | rfl | rfl | rfl
    · exact r0
    · exact r1
    · exact r2
    · exact r3
    · exact (rp_int ⟨a4, by omega⟩).mono (by omega) (by omega)
    · exact r5
end K89

/-! ## K89p7 -/
set_option Elab.async false
set_option linter.all false
set_option maxRecDepth 100000
set_option maxHeartbeats 1000000
namespace K89
open PySem L2 DL LinZ
def duN : List Str := ["name", "number", "limit", "paper", "time", "conflict", "drive"]
def duL : D := .lst (duN.map .str)
theorem e_text {t : Nat} {o : O} (h : Pot t o) (ht : t + 100 ≤ 1000000000) (r0 r1 r2 r4 r5 r7 : Option Cell) :
    ∃ z o' t', xMt "str" opJoin (xC (.str "")) (aCons (xLc [6] (xRng1 (aCons (xFn [.x, .d] F__law_take (aCons (xVar 3) (aCons (xC (.int 9)) aNil))) aNil)) (asg1 6) (mr true) m_law_1) aNil) [r0, r1, r2, some (.own o), r4, r5, none, r7] = .ok (.imm (.str z)) [r0, r1, r2, some (.own o'), r4, r5, none, r7]
      ∧ Rp 0 20 (.str z) ∧ t' ≤ t + 20 ∧ Pot t' o' := by
  obtain ⟨n, o1, e1, n0, n1, i1⟩ := e_take (n := 9) h (by omega) (by omega) (by omega)
  have rg := rng1_i (w := n) n0 (by omega)
  obtain ⟨ds, o2, lc, hl, hp, i2⟩ := lcGo_ex (vs := [6]) (asg := asg1 6) (t := mr true) (f := m_law_1) (st := fun s : O => [r0, r1, r2, some (.own s), r4, r5, none, r7]) (Inv := fun t s => Pot t s) (P := fun d => ∃ c, d = D.str (sgn c) ∧ c < 128) (k := 1) (T := t + 50)
    (xs := (List.range n.toNat).map fun (k : Nat) => .int (k : Int)) (fun x hx t' s ht' is => by
      obtain ⟨d, o3, e3, hd, i3⟩ := e_oneS is (by omega)
      exact ⟨d, o3, by simp [m_law_1, e3, frO, opIsB, opNotB, xNew, xMt, tyD, opExF, opIsE, opIsEt, sRaise, sRaiseF, outF, rdO, sSeq, sIf, sb, sRet, sRetN, sSet, sOwn, sApp, sSetIx, isOwn, sAsg, asg1, asgT, asgC, asgN, sExpr, sNil, sBad, sFor, xOr, xAnd, xNot, xAsB, xAndV, xOrV, xNotV, xIf, xChain, xCall, xBin, xUn, xFn, xLc, cellsOf, backC, mb, mr, mo, aCons, aNil, xVar, xC, rdI, rdC, rdIs, two, one, isi_ii, isi_ib, isi_bi, isi_bb, isi_tt, isi_ll, isi_it, isi_lt, isi_ti, isi_li, isi_ss, opNotN, opIsN, isNonD, opLen, mP, opAdd, opSub, opMul, opMod, opCmp, opNe_int, opEq_int, toI, toIs, xTup, xLst, xIter, xZip, zip2, seqD, xRng1, xRng2, itemsD, opIx, atI, ixN, opTuple, opList, opSum, opAll, opInt, vsOk, wipeC, rsC, turn, szB], i3, hd⟩) (acc := []) (t' := t + 1) (s := o1) (by simp; omega) i1 (by simp; omega)
  rw [List.length_map, List.length_range] at hl i2
  obtain ⟨l, rfl, hc⟩ := list_of hp
  rw [List.length_map] at hl
  have j := join_at (l := l) (by omega)
  have rp := rp_text (l := l) (by omega) hc
  refine ⟨⟨l.toArray⟩, o2, t + 1 + 1 * n.toNat, ?_, rp, by omega, i2⟩
  rw [List.nil_append] at lc
  generalize (l.map fun c => D.str (sgn c)) = DS at *
  generalize (⟨l.toArray⟩ : Str) = Z at *
  generalize (List.range n.toNat).map (fun (k : Nat) => D.int (k : Int)) = RG at *
  generalize m_law_1 = B at *
  simp [e1, rg, lc, j, frO, opIsB, opNotB, xNew, xMt, tyD, opExF, opIsE, opIsEt, sRaise, sRaiseF, outF, rdO, sSeq, sIf, sb, sRet, sRetN, sSet, sOwn, sApp, sSetIx, isOwn, sAsg, asg1, asgT, asgC, asgN, sExpr, sNil, sBad, sFor, xOr, xAnd, xNot, xAsB, xAndV, xOrV, xNotV, xIf, xChain, xCall, xBin, xUn, xFn, xLc, cellsOf, backC, mb, mr, mo, aCons, aNil, xVar, xC, rdI, rdC, rdIs, two, one, isi_ii, isi_ib, isi_bi, isi_bb, isi_tt, isi_ll, isi_it, isi_lt, isi_ti, isi_li, isi_ss, opNotN, opIsN, isNonD, opLen, mP, opAdd, opSub, opMul, opMod, opCmp, opNe_int, opEq_int, toI, toIs, xTup, xLst, xIter, xZip, zip2, seqD, xRng1, xRng2, itemsD, opIx, atI, ixN, opTuple, opList, opSum, opAll, opInt, vsOk, wipeC, rsC, turn, szB]
theorem e_mets {v0 v1 v2 v3 v4 v5 : D} {z : Str} (h : ∀ d ∈ [v0, v1, v2, v3, v4, v5], Rp 4 400 d) (r0 r1 r2 r3 r6 : Option Cell) :
    xLc [7] (xRng1 (aCons (xC (.int 7)) aNil)) (asg1 7) (mr true) m_law_2 [r0, r1, r2, r3, some (.imm (.str z)), some (.imm (.lst [v0, v1, v2, v3, v4, v5])), r6, none] = .ok (.new (.lst (duN.map .str))) [r0, r1, r2, r3, some (.imm (.str z)), some (.imm (.lst [v0, v1, v2, v3, v4, v5])), r6, none] := by
  have h0 := met_0 (v1 := v1) (v2 := v2) (v3 := v3) (v4 := v4) (v5 := v5) (z := z) ((h v0 (by simp)).repr (by omega) (by omega)).1
  have h1 := met_1 (v0 := v0) (v2 := v2) (v3 := v3) (v4 := v4) (v5 := v5) (z := z) ((h v1 (by simp)).repr (by omega) (by omega)).1
  have h2 := met_2 (v0 := v0) (v1 := v1) (v3 := v3) (v4 := v4) (v5 := v5) (z := z) ((h v2 (by simp)).repr (by omega) (by omega)).1
  have h3 := met_3 (v0 := v0) (v1 := v1) (v2 := v2) (v4 := v4) (v5 := v5) (z := z) ((h v3 (by simp)).repr (by omega) (by omega)).1
  have h4 := met_4 (v0 := v0) (v1 := v1) (v2 := v2) (v3 := v3) (v5 := v5) (z := z) ((h v4 (by simp)).repr (by omega) (by omega)).1
  have h5 := met_5 (v0 := v0) (v1 := v1) (v2 := v2) (v3 := v3) (v4 := v4) (z := z) ((h v5 (by simp)).repr (by omega) (by omega)).1
  have h6 := met_6 (v0 := v0) (v1 := v1) (v2 := v2) (v3 := v3) (v4 := v4) (v5 := v5) (z := z)
  have all : ∀ k : Nat, k < 7 → F__law_met [.imm (.int (k : Int)), .imm (.lst [v0, v1, v2, v3, v4, v5]), .imm (.str z)] = .ok (.imm (.str (duN.getD k ""))) [] := by
    intro k hk
    have hk : k = 0 ∨ k = 1 ∨ k = 2 ∨ k = 3 ∨ k = 4 ∨ k = 5 ∨ k = 6 := by omega
    rcases hk with rfl | rfl | rfl | rfl | rfl | rfl | rfl
    · exact h0
    · exact h1
    · exact h2
    · exact h3
    · exact h4
    · exact h5
    · exact h6
  have lc := lcGo_map (vs := [7]) (asg := asg1 7) (t := mr true) (f := m_law_2) (mk := fun (k : Nat) => D.int (k : Int)) (g := fun (k : Nat) => D.str (duN.getD k "")) (ρ := [r0, r1, r2, r3, some (.imm (.str z)), some (.imm (.lst [v0, v1, v2, v3, v4, v5])), r6, none]) (l := List.range 7) (acc := [])
    (fun k hk => by
      have e := all k (by simpa using hk)
      generalize (D.lst [v0, v1, v2, v3, v4, v5]) = V at *
      generalize (duN.getD k "") = S at *
      generalize (k : Int) = K at *
      simp [m_law_2, e, frO, opIsB, opNotB, xNew, xMt, tyD, opExF, opIsE, opIsEt, sRaise, sRaiseF, outF, rdO, sSeq, sIf, sb, sRet, sRetN, sSet, sOwn, sApp, sSetIx, isOwn, sAsg, asg1, asgT, asgC, asgN, sExpr, sNil, sBad, sFor, xOr, xAnd, xNot, xAsB, xAndV, xOrV, xNotV, xIf, xChain, xCall, xBin, xUn, xFn, xLc, cellsOf, backC, mb, mr, mo, aCons, aNil, xVar, xC, rdI, rdC, rdIs, two, one, isi_ii, isi_ib, isi_bi, isi_bb, isi_tt, isi_ll, isi_it, isi_lt, isi_ti, isi_li, isi_ss, opNotN, opIsN, isNonD, opLen, mP, opAdd, opSub, opMul, opMod, opCmp, opNe_int, opEq_int, toI, toIs, xTup, xLst, xIter, xZip, zip2, seqD, xRng1, xRng2, itemsD, opIx, atI, ixN, opTuple, opList, opSum, opAll, opInt, vsOk, wipeC, rsC, turn, szB]) (by simp)
  have rg := range_k (n := 7) (by omega) [r0, r1, r2, r3, some (.imm (.str z)), some (.imm (.lst [v0, v1, v2, v3, v4, v5])), r6, none]
  have rg : xRng1 (aCons (xC (.int 7)) aNil) [r0, r1, r2, r3, some (.imm (.str z)), some (.imm (.lst [v0, v1, v2, v3, v4, v5])), r6, none] = .ok ((List.range 7).map fun (k : Nat) => D.int (k : Int)) [r0, r1, r2, r3, some (.imm (.str z)), some (.imm (.lst [v0, v1, v2, v3, v4, v5])), r6, none] := rg
  have e2 : duN.map D.str = (List.range 7).map fun (k : Nat) => D.str (duN.getD k "") := rfl
  rw [e2]
  rw [List.nil_append] at lc
  generalize (List.range 7).map (fun (k : Nat) => D.str (duN.getD k "")) = L2 at *
  generalize (List.range 7).map (fun (k : Nat) => D.int (k : Int)) = L at *
  generalize xRng1 (aCons (xC (.int 7)) aNil) = G at *
  generalize m_law_2 = B at *
  generalize (D.lst [v0, v1, v2, v3, v4, v5]) = V at *
  simp [rg, lc, xLc, mb, mo, mr, vsOk, wipeC, rsC]
theorem du_ne : opNe (.lst (duN.map .str)) duL = some (.d (.bl false)) := by kernel_rfl
theorem e_law_3 (ns : List Int) {k : Nat} (hk : k < 8) (r3 r4 r5 : Option Cell) : ∃ u3 u4 u5, m_law_3 [some (.imm (.scr (ns.map .int))), some (.imm duL), some (.imm (.int k)), r3, r4, r5, none, none] =
    .next [some (.imm (.scr (ns.map .int))), some (.imm duL), some (.imm (.int k)), u3, u4, u5, none, none] := by
  obtain ⟨o1, e1, i1⟩ := e_pot ns (k := k) (by omega)
  obtain ⟨z, o2, t2, e2, rz, ht2, i2⟩ := e_text i1 (by omega) (some (.imm (.scr (ns.map .int)))) (some (.imm duL)) (some (.imm (.int k))) r4 r5 none
  obtain ⟨v0, v1, v2, v3, v4, v5, o3, e3, rv, i3⟩ := e_some i2 (by omega) rz
  have e4 := messages_ok z
  have rl := (rp_lst (k := 4) (n := 400) (m := 3000) rv (by simp)).repr (by omega) (by omega)
  have e5 := values_ok rl.1
  have e6 := e_mets (z := z) rv (some (.imm (.scr (ns.map .int)))) (some (.imm duL)) (some (.imm (.int k))) (some (.own o3)) none
  have e7 := du_ne
  refine ⟨some (.own o3), some (.imm (.str z)), some (.imm (.lst [v0, v1, v2, v3, v4, v5])), ?_⟩
  unfold m_law_3
  generalize hV : D.lst [v0, v1, v2, v3, v4, v5] = V at *
  generalize xMt "str" opJoin (xC (.str "")) (aCons (xLc [6] (xRng1 (aCons (xFn [.x, .d] F__law_take (aCons (xVar 3) (aCons (xC (.int 9)) aNil))) aNil)) (asg1 6) (mr true) m_law_1) aNil) = TX at *
  generalize xLc [7] (xRng1 (aCons (xC (.int 7)) aNil)) (asg1 7) (mr true) m_law_2 = MT at *
  generalize duN.map D.str = DN at *
  generalize duL = DU at *
  refine (seq_next (ρ' := [some (.imm (.scr (ns.map .int))), some (.imm DU), some (.imm (.int k)), some (.own o1), r4, r5, none, none]) ?_).trans ((seq_next (ρ' := [some (.imm (.scr (ns.map .int))), some (.imm DU), some (.imm (.int k)), some (.own o2), some (.imm (.str z)), r5, none, none]) ?_).trans
    ((seq_next (ρ' := [some (.imm (.scr (ns.map .int))), some (.imm DU), some (.imm (.int k)), some (.own o3), some (.imm (.str z)), some (.imm V), none, none]) ?_).trans ((seq_next (ρ' := [some (.imm (.scr (ns.map .int))), some (.imm DU), some (.imm (.int k)), some (.own o3), some (.imm (.str z)), some (.imm V), none, none]) ?_).trans ?_)))
  · simp [e1, frO, opIsB, opNotB, xNew, xMt, tyD, opExF, opIsE, opIsEt, sRaise, sRaiseF, outF, rdO, sSeq, sIf, sb, sRet, sRetN, sSet, sOwn, sApp, sSetIx, isOwn, sAsg, asg1, asgT, asgC, asgN, sExpr, sNil, sBad, sFor, xOr, xAnd, xNot, xAsB, xAndV, xOrV, xNotV, xIf, xChain, xCall, xBin, xUn, xFn, xLc, cellsOf, backC, mb, mr, mo, aCons, aNil, xVar, xC, rdI, rdC, rdIs, two, one, isi_ii, isi_ib, isi_bi, isi_bb, isi_tt, isi_ll, isi_it, isi_lt, isi_ti, isi_li, isi_ss, opNotN, opIsN, isNonD, opLen, mP, opAdd, opSub, opMul, opMod, opCmp, opNe_int, opEq_int, toI, toIs, xTup, xLst, xIter, xZip, zip2, seqD, xRng1, xRng2, itemsD, opIx, atI, ixN, opTuple, opList, opSum, opAll, opInt, vsOk, wipeC, rsC, turn, szB]
  · simp [e2, frO, opIsB, opNotB, xNew, xMt, tyD, opExF, opIsE, opIsEt, sRaise, sRaiseF, outF, rdO, sSeq, sIf, sb, sRet, sRetN, sSet, sOwn, sApp, sSetIx, isOwn, sAsg, asg1, asgT, asgC, asgN, sExpr, sNil, sBad, sFor, xOr, xAnd, xNot, xAsB, xAndV, xOrV, xNotV, xIf, xChain, xCall, xBin, xUn, xFn, xLc, cellsOf, backC, mb, mr, mo, aCons, aNil, xVar, xC, rdI, rdC, rdIs, two, one, isi_ii, isi_ib, isi_bi, isi_bb, isi_tt, isi_ll, isi_it, isi_lt, isi_ti, isi_li, isi_ss, opNotN, opIsN, isNonD, opLen, mP, opAdd, opSub, opMul, opMod, opCmp, opNe_int, opEq_int, toI, toIs, xTup, xLst, xIter, xZip, zip2, seqD, xRng1, xRng2, itemsD, opIx, atI, ixN, opTuple, opList, opSum, opAll, opInt, vsOk, wipeC, rsC, turn, szB]
  · simp [e3, hV, frO, opIsB, opNotB, xNew, xMt, tyD, opExF, opIsE, opIsEt, sRaise, sRaiseF, outF, rdO, sSeq, sIf, sb, sRet, sRetN, sSet, sOwn, sApp, sSetIx, isOwn, sAsg, asg1, asgT, asgC, asgN, sExpr, sNil, sBad, sFor, xOr, xAnd, xNot, xAsB, xAndV, xOrV, xNotV, xIf, xChain, xCall, xBin, xUn, xFn, xLc, cellsOf, backC, mb, mr, mo, aCons, aNil, xVar, xC, rdI, rdC, rdIs, two, one, isi_ii, isi_ib, isi_bi, isi_bb, isi_tt, isi_ll, isi_it, isi_lt, isi_ti, isi_li, isi_ss, opNotN, opIsN, isNonD, opLen, mP, opAdd, opSub, opMul, opMod, opCmp, opNe_int, opEq_int, toI, toIs, xTup, xLst, xIter, xZip, zip2, seqD, xRng1, xRng2, itemsD, opIx, atI, ixN, opTuple, opList, opSum, opAll, opInt, vsOk, wipeC, rsC, turn, szB]
  · simp [e4, e5, frO, opIsB, opNotB, xNew, xMt, tyD, opExF, opIsE, opIsEt, sRaise, sRaiseF, outF, rdO, sSeq, sIf, sb, sRet, sRetN, sSet, sOwn, sApp, sSetIx, isOwn, sAsg, asg1, asgT, asgC, asgN, sExpr, sNil, sBad, sFor, xOr, xAnd, xNot, xAsB, xAndV, xOrV, xNotV, xIf, xChain, xCall, xBin, xUn, xFn, xLc, cellsOf, backC, mb, mr, mo, aCons, aNil, xVar, xC, rdI, rdC, rdIs, two, one, isi_ii, isi_ib, isi_bi, isi_bb, isi_tt, isi_ll, isi_it, isi_lt, isi_ti, isi_li, isi_ss, opNotN, opIsN, isNonD, opLen, mP, opAdd, opSub, opMul, opMod, opCmp, opNe_int, opEq_int, toI, toIs, xTup, xLst, xIter, xZip, zip2, seqD, xRng1, xRng2, itemsD, opIx, atI, ixN, opTuple, opList, opSum, opAll, opInt, vsOk, wipeC, rsC, turn, szB]
  · simp [e6, e7, frO, opIsB, opNotB, xNew, xMt, tyD, opExF, opIsE, opIsEt, sRaise, sRaiseF, outF, rdO, sSeq, sIf, sb, sRet, sRetN, sSet, sOwn, sApp, sSetIx, isOwn, sAsg, asg1, asgT, asgC, asgN, sExpr, sNil, sBad, sFor, xOr, xAnd, xNot, xAsB, xAndV, xOrV, xNotV, xIf, xChain, xCall, xBin, xUn, xFn, xLc, cellsOf, backC, mb, mr, mo, aCons, aNil, xVar, xC, rdI, rdC, rdIs, two, one, isi_ii, isi_ib, isi_bi, isi_bb, isi_tt, isi_ll, isi_it, isi_lt, isi_ti, isi_li, isi_ss, opNotN, opIsN, isNonD, opLen, mP, opAdd, opSub, opMul, opMod, opCmp, opNe_int, opEq_int, toI, toIs, xTup, xLst, xIter, xZip, zip2, seqD, xRng1, xRng2, itemsD, opIx, atI, ixN, opTuple, opList, opSum, opAll, opInt, vsOk, wipeC, rsC, turn, szB]
theorem e_law (ns : List Int) : F_law [.imm (.scr (ns.map .int))] = .ok (.imm (.bl true)) [] := by
  have mn := mn_8 ns.length
  have mx := mx_1 (min 8 ns.length)
  generalize hq : min 8 ns.length = q at mn mx
  generalize hm : max 1 q = m at mx
  have hm8 : m ≤ 8 := by omega
  have rm := rng1_n (w := m) (by omega)
  obtain ⟨ρ', f, u2, u3, u4, u5, e⟩ := forGo_fold (asg := asg1 2) (body := m_law_3) (mk := fun k : Nat => D.int (k : Int)) (l := List.range m) (b := ()) (step := fun _ _ => ())
    (I := fun _ ρ => ∃ u2 u3 u4 u5, ρ = [some (.imm (.scr (ns.map .int))), some (.imm duL), u2, u3, u4, u5, none, none])
    (ρ := [some (.imm (.scr (ns.map .int))), some (.imm duL), none, none, none, none, none, none])
    (fun k hk _ ρ ⟨u2, u3, u4, u5, e⟩ => by
      subst e
      have hk : k < m := by simpa using hk
      obtain ⟨w3, w4, w5, e'⟩ := e_law_3 ns (k := k) (by omega) u3 u4 u5
      exact ⟨_, _, rfl, .inl e', some (.imm (.int k)), w3, w4, w5, rfl⟩) ⟨none, none, none, none, rfl⟩
  subst e
  have l0 : xLst (aCons (xC (.str "name")) (aCons (xC (.str "number")) (aCons (xC (.str "limit")) (aCons (xC (.str "paper")) (aCons (xC (.str "time")) (aCons (xC (.str "conflict")) (aCons (xC (.str "drive")) aNil))))))) [some (.imm (.scr (ns.map .int))), none, none, none, none, none, none, none] = .ok (.new (.lst (duN.map .str))) [some (.imm (.scr (ns.map .int))), none, none, none, none, none, none, none] := by
    simp [duN, frO, opIsB, opNotB, xNew, xMt, tyD, opExF, opIsE, opIsEt, sRaise, sRaiseF, outF, rdO, sSeq, sIf, sb, sRet, sRetN, sSet, sOwn, sApp, sSetIx, isOwn, sAsg, asg1, asgT, asgC, asgN, sExpr, sNil, sBad, sFor, xOr, xAnd, xNot, xAsB, xAndV, xOrV, xNotV, xIf, xChain, xCall, xBin, xUn, xFn, xLc, cellsOf, backC, mb, mr, mo, aCons, aNil, xVar, xC, rdI, rdC, rdIs, two, one, isi_ii, isi_ib, isi_bi, isi_bb, isi_tt, isi_ll, isi_it, isi_lt, isi_ti, isi_li, isi_ss, opNotN, opIsN, isNonD, opLen, mP, opAdd, opSub, opMul, opMod, opCmp, opNe_int, opEq_int, toI, toIs, xTup, xLst, xIter, xZip, zip2, seqD, xRng1, xRng2, itemsD, opIx, atI, ixN, opTuple, opList, opSum, opAll, opInt, vsOk, wipeC, rsC, turn, szB]
  have s0 : m_law [some (.imm (.scr (ns.map .int))), none, none, none, none, none, none, none] = .ret (.imm (.bl true)) [some (.imm (.scr (ns.map .int))), some (.imm duL), u2, u3, u4, u5, none, none] := by
    unfold m_law
    have hd : D.lst (duN.map .str) = duL := rfl
    generalize duN.map D.str = DN at *
    generalize duL = DU at *
    generalize xLst (aCons (xC (.str "name")) (aCons (xC (.str "number")) (aCons (xC (.str "limit")) (aCons (xC (.str "paper")) (aCons (xC (.str "time")) (aCons (xC (.str "conflict")) (aCons (xC (.str "drive")) aNil))))))) = G at *
    refine (seq_next (ρ' := [some (.imm (.scr (ns.map .int))), some (.imm DU), none, none, none, none, none, none]) ?_).trans ((seq_next (ρ' := [some (.imm (.scr (ns.map .int))), some (.imm DU), u2, u3, u4, u5, none, none]) ?_).trans ?_)
    · simp [l0, hd, frO, opIsB, opNotB, xNew, xMt, tyD, opExF, opIsE, opIsEt, sRaise, sRaiseF, outF, rdO, sSeq, sIf, sb, sRet, sRetN, sSet, sOwn, sApp, sSetIx, isOwn, sAsg, asg1, asgT, asgC, asgN, sExpr, sNil, sBad, sFor, xOr, xAnd, xNot, xAsB, xAndV, xOrV, xNotV, xIf, xChain, xCall, xBin, xUn, xFn, xLc, cellsOf, backC, mb, mr, mo, aCons, aNil, xVar, xC, rdI, rdC, rdIs, two, one, isi_ii, isi_ib, isi_bi, isi_bb, isi_tt, isi_ll, isi_it, isi_lt, isi_ti, isi_li, isi_ss, opNotN, opIsN, isNonD, opLen, mP, opAdd, opSub, opMul, opMod, opCmp, opNe_int, opEq_int, toI, toIs, xTup, xLst, xIter, xZip, zip2, seqD, xRng1, xRng2, itemsD, opIx, atI, ixN, opTuple, opList, opSum, opAll, opInt, vsOk, wipeC, rsC, turn, szB]
    · simp [mn, mx, rm, f, frO, opIsB, opNotB, xNew, xMt, tyD, opExF, opIsE, opIsEt, sRaise, sRaiseF, outF, rdO, sSeq, sIf, sb, sRet, sRetN, sSet, sOwn, sApp, sSetIx, isOwn, sAsg, asg1, asgT, asgC, asgN, sExpr, sNil, sBad, sFor, xOr, xAnd, xNot, xAsB, xAndV, xOrV, xNotV, xIf, xChain, xCall, xBin, xUn, xFn, xLc, cellsOf, backC, mb, mr, mo, aCons, aNil, xVar, xC, rdI, rdC, rdIs, two, one, isi_ii, isi_ib, isi_bi, isi_bb, isi_tt, isi_ll, isi_it, isi_lt, isi_ti, isi_li, isi_ss, opNotN, opIsN, isNonD, opLen, mP, opAdd, opSub, opMul, opMod, opCmp, opNe_int, opEq_int, toI, toIs, xTup, xLst, xIter, xZip, zip2, seqD, xRng1, xRng2, itemsD, opIx, atI, ixN, opTuple, opList, opSum, opAll, opInt, vsOk, wipeC, rsC, turn, szB]
    · simp [frO, opIsB, opNotB, xNew, xMt, tyD, opExF, opIsE, opIsEt, sRaise, sRaiseF, outF, rdO, sSeq, sIf, sb, sRet, sRetN, sSet, sOwn, sApp, sSetIx, isOwn, sAsg, asg1, asgT, asgC, asgN, sExpr, sNil, sBad, sFor, xOr, xAnd, xNot, xAsB, xAndV, xOrV, xNotV, xIf, xChain, xCall, xBin, xUn, xFn, xLc, cellsOf, backC, mb, mr, mo, aCons, aNil, xVar, xC, rdI, rdC, rdIs, two, one, isi_ii, isi_ib, isi_bi, isi_bb, isi_tt, isi_ll, isi_it, isi_lt, isi_ti, isi_li, isi_ss, opNotN, opIsN, isNonD, opLen, mP, opAdd, opSub, opMul, opMod, opCmp, opNe_int, opEq_int, toI, toIs, xTup, xLst, xIter, xZip, zip2, seqD, xRng1, xRng2, itemsD, opIx, atI, ixN, opTuple, opList, opSum, opAll, opInt, vsOk, wipeC, rsC, turn, szB]
  show outF [Md.d] (m_law [some (.imm (.scr (ns.map .int))), none, none, none, none, none, none, none]) = _
  rw [s0]
  rfl
end K89

/-! ## K89w -/
set_option Elab.async false
set_option linter.all false
set_option maxRecDepth 100000
set_option maxHeartbeats 0
namespace K89
open PySem PySem.Spec PyProof.Rows L2 DL
/-! the walk: each def does what its mirror says -/
abbrev top (i : Nat) : Stmt := PySem.Challenge.pw_driveends_k89_errors_by_their_classes.main.body.getD i (.Pass ⟨0, 0, 0, 0⟩)
abbrev topM (i j : Nat) : Stmt := (match top i with
  | .ClassDef _ _ _ b _ _ _ _ _ _ _ => b
  | _ => []).getD j (.Pass ⟨0, 0, 0, 0⟩)
abbrev TFF : List He.Defn := []
structure Fx (K : PySem.W.Frag) (mg : Str → Option Value) : Prop where
  f__law_pot : ∃ fd, FunD K "_law_pot" "_law_pot" (defArgs (top 22)) (defBody (top 22)) (defScope (top 22)) [] [] (He.ga K "_law_pot") fd
  g__law_pot : mg "_law_pot" = some (.ref (He.ga K "_law_pot"))
  k__law_pot : PySem.W.keepIn K (.ref (He.ga K "_law_pot")) = true
  f__law_take : ∃ fd, FunD K "_law_take" "_law_take" (defArgs (top 23)) (defBody (top 23)) (defScope (top 23)) [] [] (He.ga K "_law_take") fd
  g__law_take : mg "_law_take" = some (.ref (He.ga K "_law_take"))
  k__law_take : PySem.W.keepIn K (.ref (He.ga K "_law_take")) = true
  f__law_message_kinds : ∃ fd, FunD K "_law_message_kinds" "_law_message_kinds" (defArgs (top 25)) (defBody (top 25)) (defScope (top 25)) [] [] (He.ga K "_law_message_kinds") fd
  g__law_message_kinds : mg "_law_message_kinds" = some (.ref (He.ga K "_law_message_kinds"))
  k__law_message_kinds : PySem.W.keepIn K (.ref (He.ga K "_law_message_kinds")) = true
  f__law_value_kinds : ∃ fd, FunD K "_law_value_kinds" "_law_value_kinds" (defArgs (top 26)) (defBody (top 26)) (defScope (top 26)) [] [] (He.ga K "_law_value_kinds") fd
  g__law_value_kinds : mg "_law_value_kinds" = some (.ref (He.ga K "_law_value_kinds"))
  k__law_value_kinds : PySem.W.keepIn K (.ref (He.ga K "_law_value_kinds")) = true
  f__law_outer_kinds : ∃ fd, FunD K "_law_outer_kinds" "_law_outer_kinds" (defArgs (top 27)) (defBody (top 27)) (defScope (top 27)) [] [] (He.ga K "_law_outer_kinds") fd
  g__law_outer_kinds : mg "_law_outer_kinds" = some (.ref (He.ga K "_law_outer_kinds"))
  k__law_outer_kinds : PySem.W.keepIn K (.ref (He.ga K "_law_outer_kinds")) = true
  f__law_with_messages : ∃ fd, FunD K "_law_with_messages" "_law_with_messages" (defArgs (top 28)) (defBody (top 28)) (defScope (top 28)) [] [] (He.ga K "_law_with_messages") fd
  g__law_with_messages : mg "_law_with_messages" = some (.ref (He.ga K "_law_with_messages"))
  k__law_with_messages : PySem.W.keepIn K (.ref (He.ga K "_law_with_messages")) = true
  f__law_one : ∃ fd, FunD K "_law_one" "_law_one" (defArgs (top 24)) (defBody (top 24)) (defScope (top 24)) [] [] (He.ga K "_law_one") fd
  g__law_one : mg "_law_one" = some (.ref (He.ga K "_law_one"))
  k__law_one : PySem.W.keepIn K (.ref (He.ga K "_law_one")) = true
  f__law_messages_right : ∃ fd, FunD K "_law_messages_right" "_law_messages_right" (defArgs (top 29)) (defBody (top 29)) (defScope (top 29)) [] [] (He.ga K "_law_messages_right") fd
  g__law_messages_right : mg "_law_messages_right" = some (.ref (He.ga K "_law_messages_right"))
  k__law_messages_right : PySem.W.keepIn K (.ref (He.ga K "_law_messages_right")) = true
  f__law_values_right : ∃ fd, FunD K "_law_values_right" "_law_values_right" (defArgs (top 30)) (defBody (top 30)) (defScope (top 30)) [] [] (He.ga K "_law_values_right") fd
  g__law_values_right : mg "_law_values_right" = some (.ref (He.ga K "_law_values_right"))
  k__law_values_right : PySem.W.keepIn K (.ref (He.ga K "_law_values_right")) = true
  f__law_met : ∃ fd, FunD K "_law_met" "_law_met" (defArgs (top 31)) (defBody (top 31)) (defScope (top 31)) [] [] (He.ga K "_law_met") fd
  g__law_met : mg "_law_met" = some (.ref (He.ga K "_law_met"))
  k__law_met : PySem.W.keepIn K (.ref (He.ga K "_law_met")) = true
  f__law_some_values : ∃ fd, FunD K "_law_some_values" "_law_some_values" (defArgs (top 32)) (defBody (top 32)) (defScope (top 32)) [] [] (He.ga K "_law_some_values") fd
  g__law_some_values : mg "_law_some_values" = some (.ref (He.ga K "_law_some_values"))
  k__law_some_values : PySem.W.keepIn K (.ref (He.ga K "_law_some_values")) = true
  f_law : ∃ fd, FunD K "law" "law" (defArgs (top 33)) (defBody (top 33)) (defScope (top 33)) [] [] (He.ga K "law") fd
  g_law : mg "law" = some (.ref (He.ga K "law"))
  k_law : PySem.W.keepIn K (.ref (He.ga K "law")) = true
  c_DriveError : mg "DriveError" = some (.ref (He.ga K "DriveError"))
  c_InvalidModulus : mg "InvalidModulus" = some (.ref (He.ga K "InvalidModulus"))
  c_InvalidName : mg "InvalidName" = some (.ref (He.ga K "InvalidName"))
  c_InvalidVector : mg "InvalidVector" = some (.ref (He.ga K "InvalidVector"))
  c_InvalidMatrix : mg "InvalidMatrix" = some (.ref (He.ga K "InvalidMatrix"))
  c_InvalidPart : mg "InvalidPart" = some (.ref (He.ga K "InvalidPart"))
  c_InvalidDiagram : mg "InvalidDiagram" = some (.ref (He.ga K "InvalidDiagram"))
  c_InvalidEnds : mg "InvalidEnds" = some (.ref (He.ga K "InvalidEnds"))
  c_InvalidRecord : mg "InvalidRecord" = some (.ref (He.ga K "InvalidRecord"))
  c_InvalidGenerators : mg "InvalidGenerators" = some (.ref (He.ga K "InvalidGenerators"))
  c_InvalidBehaviour : mg "InvalidBehaviour" = some (.ref (He.ga K "InvalidBehaviour"))
  c_InvalidMachine : mg "InvalidMachine" = some (.ref (He.ga K "InvalidMachine"))
  c_InvalidOperation : mg "InvalidOperation" = some (.ref (He.ga K "InvalidOperation"))
  c_ParseError : mg "ParseError" = some (.ref (He.ga K "ParseError"))
  c_UnknownName : mg "UnknownName" = some (.ref (He.ga K "UnknownName"))
  c_InvalidNumber : mg "InvalidNumber" = some (.ref (He.ga K "InvalidNumber"))
  c_TooLarge : mg "TooLarge" = some (.ref (He.ga K "TooLarge"))
  c_NotDriving : mg "NotDriving" = some (.ref (He.ga K "NotDriving"))
  c_Impossible : mg "Impossible" = some (.ref (He.ga K "Impossible"))
  c_Conflict : mg "Conflict" = some (.ref (He.ga K "Conflict"))
  xt : XTT.Ok K
  tu : tauB K TFF = true
  m_DriveError : MsgF K mg "DriveError"
  m_InvalidBehaviour : MsgF K mg "InvalidBehaviour"
  m_InvalidDiagram : MsgF K mg "InvalidDiagram"
  m_InvalidEnds : MsgF K mg "InvalidEnds"
  m_InvalidGenerators : MsgF K mg "InvalidGenerators"
  m_InvalidMachine : MsgF K mg "InvalidMachine"
  m_InvalidMatrix : MsgF K mg "InvalidMatrix"
  m_InvalidModulus : MsgF K mg "InvalidModulus"
  m_InvalidName : MsgF K mg "InvalidName"
  m_InvalidOperation : MsgF K mg "InvalidOperation"
  m_InvalidPart : MsgF K mg "InvalidPart"
  m_InvalidRecord : MsgF K mg "InvalidRecord"
  m_InvalidVector : MsgF K mg "InvalidVector"
  m_ParseError : MsgF K mg "ParseError"
  e_Conflict : FldF K mg "Conflict" "name"
  ini_Conflict : ∃ fd, FunD K "__init__" "Conflict.__init__" (defArgs (topM 20 0)) (defBody (topM 20 0)) (defScope (topM 20 0)) [] [] (He.ma K (He.ga K "Conflict") "__init__") fd
  e_Impossible : FldF K mg "Impossible" "time"
  ini_Impossible : ∃ fd, FunD K "__init__" "Impossible.__init__" (defArgs (topM 19 0)) (defBody (topM 19 0)) (defScope (topM 19 0)) [] [] (He.ma K (He.ga K "Impossible") "__init__") fd
  e_InvalidNumber : FldF K mg "InvalidNumber" "value"
  ini_InvalidNumber : ∃ fd, FunD K "__init__" "InvalidNumber.__init__" (defArgs (topM 16 0)) (defBody (topM 16 0)) (defScope (topM 16 0)) [] [] (He.ma K (He.ga K "InvalidNumber") "__init__") fd
  e_NotDriving : FldF K mg "NotDriving" "paper"
  ini_NotDriving : ∃ fd, FunD K "__init__" "NotDriving.__init__" (defArgs (topM 18 0)) (defBody (topM 18 0)) (defScope (topM 18 0)) [] [] (He.ma K (He.ga K "NotDriving") "__init__") fd
  e_TooLarge : FldF K mg "TooLarge" "limit"
  ini_TooLarge : ∃ fd, FunD K "__init__" "TooLarge.__init__" (defArgs (topM 17 0)) (defBody (topM 17 0)) (defScope (topM 17 0)) [] [] (He.ma K (He.ga K "TooLarge") "__init__") fd
  e_UnknownName : FldF K mg "UnknownName" "name"
  ini_UnknownName : ∃ fd, FunD K "__init__" "UnknownName.__init__" (defArgs (topM 15 0)) (defBody (topM 15 0)) (defScope (topM 15 0)) [] [] (He.ma K (He.ga K "UnknownName") "__init__") fd
  u_ArithmeticError : mg "ArithmeticError" = none
  u_IndexError : mg "IndexError" = none
  u_KeyError : mg "KeyError" = none
  u_LookupError : mg "LookupError" = none
  u_OverflowError : mg "OverflowError" = none
  u_RuntimeError : mg "RuntimeError" = none
  u_ValueError : mg "ValueError" = none
  u_abs : mg "abs" = none
  u_enumerate : mg "enumerate" = none
  u_int : mg "int" = none
  u_isinstance : mg "isinstance" = none
  u_len : mg "len" = none
  u_max : mg "max" = none
  u_min : mg "min" = none
  u_range : mg "range" = none
  u_repr : mg "repr" = none
section
variable {P : Program} {w : World} {K : PySem.W.Frag} {mg : Str → Option Value} {base : Heap}
theorem sc_Conflict : FnScope ["self", "name"] ["self", "name"] (defScope (topM 20 0)) := C8.fnScope_by (by decide +kernel)
theorem GI_Conflict (fx : Fx K mg) : FnOk P w K mg base (L2.CX P w) 1 (He.ma K (He.ga K "Conflict") "__init__") fx.ini_Conflict.choose ["self", "name"] (spFld (He.ga K "Conflict") "name") := init_fld fx.e_Conflict.t fx.ini_Conflict.choose_spec sc_Conflict (.inl rfl) (.inl rfl)
theorem sc_Impossible : FnScope ["self", "time"] ["self", "time"] (defScope (topM 19 0)) := C8.fnScope_by (by decide +kernel)
theorem GI_Impossible (fx : Fx K mg) : FnOk P w K mg base (L2.CX P w) 1 (He.ma K (He.ga K "Impossible") "__init__") fx.ini_Impossible.choose ["self", "time"] (spFld (He.ga K "Impossible") "time") := init_fld fx.e_Impossible.t fx.ini_Impossible.choose_spec sc_Impossible (.inl rfl) (.inl rfl)
theorem sc_InvalidNumber : FnScope ["self", "value"] ["self", "value"] (defScope (topM 16 0)) := C8.fnScope_by (by decide +kernel)
theorem GI_InvalidNumber (fx : Fx K mg) : FnOk P w K mg base (L2.CX P w) 1 (He.ma K (He.ga K "InvalidNumber") "__init__") fx.ini_InvalidNumber.choose ["self", "value"] (spFld (He.ga K "InvalidNumber") "value") := init_fld fx.e_InvalidNumber.t fx.ini_InvalidNumber.choose_spec sc_InvalidNumber (.inl rfl) (.inl rfl)
theorem sc_NotDriving : FnScope ["self", "paper"] ["self", "paper"] (defScope (topM 18 0)) := C8.fnScope_by (by decide +kernel)
theorem GI_NotDriving (fx : Fx K mg) : FnOk P w K mg base (L2.CX P w) 1 (He.ma K (He.ga K "NotDriving") "__init__") fx.ini_NotDriving.choose ["self", "paper"] (spFld (He.ga K "NotDriving") "paper") := init_fld fx.e_NotDriving.t fx.ini_NotDriving.choose_spec sc_NotDriving (.inl rfl) (.inl rfl)
theorem sc_TooLarge : FnScope ["self", "limit"] ["self", "limit"] (defScope (topM 17 0)) := C8.fnScope_by (by decide +kernel)
theorem GI_TooLarge (fx : Fx K mg) : FnOk P w K mg base (L2.CX P w) 1 (He.ma K (He.ga K "TooLarge") "__init__") fx.ini_TooLarge.choose ["self", "limit"] (spFld (He.ga K "TooLarge") "limit") := init_fld fx.e_TooLarge.t fx.ini_TooLarge.choose_spec sc_TooLarge (.inl rfl) (.inl rfl)
theorem sc_UnknownName : FnScope ["self", "name"] ["self", "name"] (defScope (topM 15 0)) := C8.fnScope_by (by decide +kernel)
theorem GI_UnknownName (fx : Fx K mg) : FnOk P w K mg base (L2.CX P w) 1 (He.ma K (He.ga K "UnknownName") "__init__") fx.ini_UnknownName.choose ["self", "name"] (spFld (He.ga K "UnknownName") "name") := init_fld fx.e_UnknownName.t fx.ini_UnknownName.choose_spec sc_UnknownName (.inl rfl) (.inl rfl)
theorem sc__law_pot : FnScope ["_law_script", "_law_k", "_law_cell", "_law_stir"] ["_law_script", "_law_k"] (defScope (top 22)) := C8.fnScope_by (by decide +kernel)
theorem G__law_pot (fx : Fx K mg) (bx : Bx K mg base TFF) : FnG P w K mg base 1 (He.ga K "_law_pot") (spD K (tauOf K TFF) [Md.d, Md.d] F__law_pot) := by
  obtain ⟨fd, F⟩ := fx.f__law_pot
  have b : Binds K fd ["_law_script", "_law_k"] [] := F.bindsN fun _ _ _ _ _ _ us hl => match us, hl with | [_, _], _ => rfl
  have z := fnG_plain (P := P) (w := w) (mg := mg) (base := base) (τ := tauOf K TFF) (k := 0) (m := m__law_pot) (n := 2) [Md.d, Md.d] [] F sc__law_pot b .nil (fun _ _ => DVs.nil) rfl rfl fun cdv A outer s H E hr hgd cdo tk hpo => by
    have hu : A.units + 3 + 80 < cLine := by have h := hr.un; have e : (A.deeper (PyProof.Rows.envOfC "_law_pot" (defScope (top 22)) s.heap.objs.size (He.ga K "_law_pot") cdv)).units = A.units + 3 := rfl; omega
    exact (s_cons (s_set 2 (by decide) sc__law_pot.nd rfl (.inl rfl) (d_add (d_mul d_int (d_var 1 (pv 1))) d_int))
    (s_cons (s_if (t_lt (d_var 1 (pv 1)) (b_len rfl fx.u_len (d_acons (d_var 0 (pv 0)) d_anil))) (s_one (s_set 2 (by decide) sc__law_pot.nd rfl (.inl rfl) (d_add (d_mul (d_mod (b_abs rfl fx.u_abs (d_acons (d_ix (d_var 0 (pv 0)) (d_var 1 (pv 1)) (fun _ _ => rfl)) d_anil)) (d_pow (d_pow d_int d_int) d_int)) d_int) (b_int rfl fx.u_int (d_acons (d_lt (d_ix (d_var 0 (pv 0)) (d_var 1 (pv 1)) (fun _ _ => rfl)) d_int) d_anil))))) s_nil)
    (s_cons (s_set 3 (by decide) sc__law_pot.nd rfl (.inl rfl) (d_mod (d_pow (d_add (d_add (d_mod (d_var 2 (pv 2)) d_int) (d_mul d_int (d_var 1 (pv 1)))) d_int) d_int) d_int))
    (s_one (s_ret (d_lst (d_acons (d_mul (d_div (d_var 2 (pv 2)) (d_pow d_int d_int)) (b_int rfl fx.u_int (d_acons (d_ge (d_var 2 (pv 2)) (d_pow d_int d_int)) d_anil))) (d_acons (d_var 3 (pv 3)) (d_acons d_int d_anil)))))))))
  exact fnG_same (fun cs => by simp only [F__law_pot, List.map_nil, List.append_nil]) z
theorem sc__law_take : FnScope ["_law_pot_here", "_law_number", "_law_found", "_law_one_here", "_law_other"] ["_law_pot_here", "_law_number"] (defScope (top 23)) := C8.fnScope_by (by decide +kernel)
theorem G__law_take (fx : Fx K mg) (bx : Bx K mg base TFF) : FnG P w K mg base 1 (He.ga K "_law_take") (spD K (tauOf K TFF) [Md.x, Md.d] F__law_take) := by
  obtain ⟨fd, F⟩ := fx.f__law_take
  have b : Binds K fd ["_law_pot_here", "_law_number"] [] := F.bindsN fun _ _ _ _ _ _ us hl => match us, hl with | [_, _], _ => rfl
  have z := fnG_plain (P := P) (w := w) (mg := mg) (base := base) (τ := tauOf K TFF) (k := 0) (m := m__law_take) (n := 3) [Md.x, Md.d] [] F sc__law_take b .nil (fun _ _ => DVs.nil) rfl rfl fun cdv A outer s H E hr hgd cdo tk hpo => by
    have hu : A.units + 3 + 80 < cLine := by have h := hr.un; have e : (A.deeper (PyProof.Rows.envOfC "_law_take" (defScope (top 23)) s.heap.objs.size (He.ga K "_law_take") cdv)).units = A.units + 3 := rfl; omega
    exact (s_cons (s_if (t_gt (d_ix (d_var 0 (pv 0)) d_int (fun _ _ => rfl)) d_int) (s_cons (s_set 2 (by decide) sc__law_take.nd rfl (.inl rfl) (d_mod (d_ix (d_var 0 (pv 0)) d_int (fun _ _ => rfl)) (d_var 1 (pv 1))))
    (s_cons (s_setIx 0 (pv 0) d_int (d_div (d_ix (d_var 0 (pv 0)) d_int (fun _ _ => rfl)) (d_var 1 (pv 1))))
    (s_one (s_ret (d_var 2 (pv 2)))))) s_nil)
    (s_cons (s_setIx 0 (pv 0) d_int (d_add (d_ix (d_var 0 (pv 0)) d_int (fun _ _ => rfl)) d_int))
    (s_cons (s_set 3 (by decide) sc__law_take.nd rfl (.inl rfl) (d_mod (d_pow (d_add (d_ix (d_var 0 (pv 0)) d_int (fun _ _ => rfl)) (d_mul d_int (d_ix (d_var 0 (pv 0)) d_int (fun _ _ => rfl)))) d_int) d_int))
    (s_cons (s_set 4 (by decide) sc__law_take.nd rfl (.inl rfl) (d_mod (d_pow (d_add (d_add (d_var 3 (pv 3)) (d_mod (d_ix (d_var 0 (pv 0)) d_int (fun _ _ => rfl)) d_int)) (d_mul d_int (d_ix (d_var 0 (pv 0)) d_int (fun _ _ => rfl)))) d_int) d_int))
    (s_one (s_ret (d_mod (d_div (d_var 4 (pv 4)) d_int) (d_var 1 (pv 1)))))))))
  exact fnG_same (fun cs => by simp only [F__law_take, List.map_nil, List.append_nil]) z
theorem sc__law_message_kinds : FnScope ["_law_thing", "_law_found"] ["_law_thing"] (defScope (top 25)) := C8.fnScope_by (by decide +kernel)
theorem G__law_message_kinds (fx : Fx K mg) (bx : Bx K mg base TFF) : FnG P w K mg base 1 (He.ga K "_law_message_kinds") (spD K (tauOf K TFF) [Md.d] F__law_message_kinds) := by
  obtain ⟨fd, F⟩ := fx.f__law_message_kinds
  have b : Binds K fd ["_law_thing"] [] := F.bindsN fun _ _ _ _ _ _ us hl => match us, hl with | [_], _ => rfl
  have z := fnG_plain (P := P) (w := w) (mg := mg) (base := base) (τ := tauOf K TFF) (k := 0) (m := m__law_message_kinds) (n := 1) [Md.d] [] F sc__law_message_kinds b .nil (fun _ _ => DVs.nil) rfl rfl fun cdv A outer s H E hr hgd cdo tk hpo => by
    have hu : A.units + 3 + 80 < cLine := by have h := hr.un; have e : (A.deeper (PyProof.Rows.envOfC "_law_message_kinds" (defScope (top 25)) s.heap.objs.size (He.ga K "_law_message_kinds") cdv)).units = A.units + 3 := rfl; omega
    exact (s_cons (s_set 1 (by decide) sc__law_message_kinds.nd rfl (.inl rfl) (d_lst (d_acons (d_isV fx.xt rfl fx.u_isinstance rfl fx.c_InvalidModulus (d_var 0 (pv 0))) (d_acons (d_isV fx.xt rfl fx.u_isinstance rfl fx.c_InvalidName (d_var 0 (pv 0))) d_anil))))
    (s_cons (s_set 1 (by decide) sc__law_message_kinds.nd rfl (.inl rfl) (d_add (d_var 1 (pv 1)) (d_lst (d_acons (d_isV fx.xt rfl fx.u_isinstance rfl fx.c_InvalidVector (d_var 0 (pv 0))) (d_acons (d_isV fx.xt rfl fx.u_isinstance rfl fx.c_InvalidMatrix (d_var 0 (pv 0))) d_anil)))))
    (s_cons (s_set 1 (by decide) sc__law_message_kinds.nd rfl (.inl rfl) (d_add (d_var 1 (pv 1)) (d_lst (d_acons (d_isV fx.xt rfl fx.u_isinstance rfl fx.c_InvalidPart (d_var 0 (pv 0))) (d_acons (d_isV fx.xt rfl fx.u_isinstance rfl fx.c_InvalidDiagram (d_var 0 (pv 0))) d_anil)))))
    (s_cons (s_set 1 (by decide) sc__law_message_kinds.nd rfl (.inl rfl) (d_add (d_var 1 (pv 1)) (d_lst (d_acons (d_isV fx.xt rfl fx.u_isinstance rfl fx.c_InvalidEnds (d_var 0 (pv 0))) (d_acons (d_isV fx.xt rfl fx.u_isinstance rfl fx.c_InvalidRecord (d_var 0 (pv 0))) d_anil)))))
    (s_cons (s_set 1 (by decide) sc__law_message_kinds.nd rfl (.inl rfl) (d_add (d_var 1 (pv 1)) (d_lst (d_acons (d_isV fx.xt rfl fx.u_isinstance rfl fx.c_InvalidGenerators (d_var 0 (pv 0))) (d_acons (d_isV fx.xt rfl fx.u_isinstance rfl fx.c_InvalidBehaviour (d_var 0 (pv 0))) d_anil)))))
    (s_cons (s_set 1 (by decide) sc__law_message_kinds.nd rfl (.inl rfl) (d_add (d_var 1 (pv 1)) (d_lst (d_acons (d_isV fx.xt rfl fx.u_isinstance rfl fx.c_InvalidMachine (d_var 0 (pv 0))) (d_acons (d_isV fx.xt rfl fx.u_isinstance rfl fx.c_InvalidOperation (d_var 0 (pv 0))) d_anil)))))
    (s_cons (s_set 1 (by decide) sc__law_message_kinds.nd rfl (.inl rfl) (d_add (d_var 1 (pv 1)) (d_lst (d_acons (d_isV fx.xt rfl fx.u_isinstance rfl fx.c_ParseError (d_var 0 (pv 0))) d_anil))))
    (s_one (s_ret (d_var 1 (pv 1)))))))))))
  exact fnG_same (fun cs => by simp only [F__law_message_kinds, List.map_nil, List.append_nil]) z
theorem sc__law_value_kinds : FnScope ["_law_thing", "_law_found"] ["_law_thing"] (defScope (top 26)) := C8.fnScope_by (by decide +kernel)
theorem G__law_value_kinds (fx : Fx K mg) (bx : Bx K mg base TFF) : FnG P w K mg base 1 (He.ga K "_law_value_kinds") (spD K (tauOf K TFF) [Md.d] F__law_value_kinds) := by
  obtain ⟨fd, F⟩ := fx.f__law_value_kinds
  have b : Binds K fd ["_law_thing"] [] := F.bindsN fun _ _ _ _ _ _ us hl => match us, hl with | [_], _ => rfl
  have z := fnG_plain (P := P) (w := w) (mg := mg) (base := base) (τ := tauOf K TFF) (k := 0) (m := m__law_value_kinds) (n := 1) [Md.d] [] F sc__law_value_kinds b .nil (fun _ _ => DVs.nil) rfl rfl fun cdv A outer s H E hr hgd cdo tk hpo => by
    have hu : A.units + 3 + 80 < cLine := by have h := hr.un; have e : (A.deeper (PyProof.Rows.envOfC "_law_value_kinds" (defScope (top 26)) s.heap.objs.size (He.ga K "_law_value_kinds") cdv)).units = A.units + 3 := rfl; omega
    exact (s_cons (s_set 1 (by decide) sc__law_value_kinds.nd rfl (.inl rfl) (d_lst (d_acons (d_isV fx.xt rfl fx.u_isinstance rfl fx.c_UnknownName (d_var 0 (pv 0))) (d_acons (d_isV fx.xt rfl fx.u_isinstance rfl fx.c_InvalidNumber (d_var 0 (pv 0))) (d_acons (d_isV fx.xt rfl fx.u_isinstance rfl fx.c_TooLarge (d_var 0 (pv 0))) d_anil)))))
    (s_one (s_ret (d_add (d_var 1 (pv 1)) (d_lst (d_acons (d_isV fx.xt rfl fx.u_isinstance rfl fx.c_NotDriving (d_var 0 (pv 0))) (d_acons (d_isV fx.xt rfl fx.u_isinstance rfl fx.c_Impossible (d_var 0 (pv 0))) (d_acons (d_isV fx.xt rfl fx.u_isinstance rfl fx.c_Conflict (d_var 0 (pv 0))) d_anil))))))))
  exact fnG_same (fun cs => by simp only [F__law_value_kinds, List.map_nil, List.append_nil]) z
theorem sc__law_outer_kinds : FnScope ["_law_thing", "_law_found"] ["_law_thing"] (defScope (top 27)) := C8.fnScope_by (by decide +kernel)
theorem G__law_outer_kinds (fx : Fx K mg) (bx : Bx K mg base TFF) : FnG P w K mg base 1 (He.ga K "_law_outer_kinds") (spD K (tauOf K TFF) [Md.d] F__law_outer_kinds) := by
  obtain ⟨fd, F⟩ := fx.f__law_outer_kinds
  have b : Binds K fd ["_law_thing"] [] := F.bindsN fun _ _ _ _ _ _ us hl => match us, hl with | [_], _ => rfl
  have z := fnG_plain (P := P) (w := w) (mg := mg) (base := base) (τ := tauOf K TFF) (k := 0) (m := m__law_outer_kinds) (n := 1) [Md.d] [] F sc__law_outer_kinds b .nil (fun _ _ => DVs.nil) rfl rfl fun cdv A outer s H E hr hgd cdo tk hpo => by
    have hu : A.units + 3 + 80 < cLine := by have h := hr.un; have e : (A.deeper (PyProof.Rows.envOfC "_law_outer_kinds" (defScope (top 27)) s.heap.objs.size (He.ga K "_law_outer_kinds") cdv)).units = A.units + 3 := rfl; omega
    exact (s_cons (s_set 1 (by decide) sc__law_outer_kinds.nd rfl (.inl rfl) (d_lst (d_acons (d_isVt fx.xt rfl fx.u_isinstance rfl fx.u_ValueError (by decide +kernel) (d_var 0 (pv 0))) (d_acons (d_isVt fx.xt rfl fx.u_isinstance rfl fx.u_KeyError (by decide +kernel) (d_var 0 (pv 0))) (d_acons (d_isVt fx.xt rfl fx.u_isinstance rfl fx.u_IndexError (by decide +kernel) (d_var 0 (pv 0))) d_anil)))))
    (s_cons (s_set 1 (by decide) sc__law_outer_kinds.nd rfl (.inl rfl) (d_add (d_var 1 (pv 1)) (d_lst (d_acons (d_isVt fx.xt rfl fx.u_isinstance rfl fx.u_LookupError (by decide +kernel) (d_var 0 (pv 0))) (d_acons (d_isVt fx.xt rfl fx.u_isinstance rfl fx.u_OverflowError (by decide +kernel) (d_var 0 (pv 0))) d_anil)))))
    (s_one (s_ret (d_add (d_var 1 (pv 1)) (d_lst (d_acons (d_isVt fx.xt rfl fx.u_isinstance rfl fx.u_ArithmeticError (by decide +kernel) (d_var 0 (pv 0))) (d_acons (d_isVt fx.xt rfl fx.u_isinstance rfl fx.u_RuntimeError (by decide +kernel) (d_var 0 (pv 0))) d_anil))))))))
  exact fnG_same (fun cs => by simp only [F__law_outer_kinds, List.map_nil, List.append_nil]) z
theorem sc__law_with_messages : FnScope ["_law_text", "_law_found"] ["_law_text"] (defScope (top 28)) := C8.fnScope_by (by decide +kernel)
theorem G__law_with_messages (fx : Fx K mg) (bx : Bx K mg base TFF) : FnG P w K mg base 1 (He.ga K "_law_with_messages") (spD K (tauOf K TFF) [Md.d] F__law_with_messages) := by
  obtain ⟨fd, F⟩ := fx.f__law_with_messages
  have b : Binds K fd ["_law_text"] [] := F.bindsN fun _ _ _ _ _ _ us hl => match us, hl with | [_], _ => rfl
  have z := fnG_plain (P := P) (w := w) (mg := mg) (base := base) (τ := tauOf K TFF) (k := 0) (m := m__law_with_messages) (n := 1) [Md.d] [] F sc__law_with_messages b .nil (fun _ _ => DVs.nil) rfl rfl fun cdv A outer s H E hr hgd cdo tk hpo => by
    have hu : A.units + 3 + 80 < cLine := by have h := hr.un; have e : (A.deeper (PyProof.Rows.envOfC "_law_with_messages" (defScope (top 28)) s.heap.objs.size (He.ga K "_law_with_messages") cdv)).units = A.units + 3 := rfl; omega
    exact (s_cons (s_set 1 (by decide) sc__law_with_messages.nd rfl (.inl rfl) (d_lst (d_acons (d_exM fx.m_InvalidModulus rfl (d_var 0 (pv 0))) (d_acons (d_exM fx.m_InvalidName rfl (d_var 0 (pv 0))) (d_acons (d_exM fx.m_InvalidVector rfl (d_var 0 (pv 0))) (d_acons (d_exM fx.m_InvalidMatrix rfl (d_var 0 (pv 0))) (d_acons (d_exM fx.m_InvalidPart rfl (d_var 0 (pv 0))) d_anil)))))))
    (s_cons (s_set 1 (by decide) sc__law_with_messages.nd rfl (.inl rfl) (d_add (d_var 1 (pv 1)) (d_lst (d_acons (d_exM fx.m_InvalidDiagram rfl (d_var 0 (pv 0))) (d_acons (d_exM fx.m_InvalidEnds rfl (d_var 0 (pv 0))) (d_acons (d_exM fx.m_InvalidRecord rfl (d_var 0 (pv 0))) (d_acons (d_exM fx.m_InvalidGenerators rfl (d_var 0 (pv 0))) d_anil)))))))
    (s_one (s_ret (d_add (d_var 1 (pv 1)) (d_lst (d_acons (d_exM fx.m_InvalidBehaviour rfl (d_var 0 (pv 0))) (d_acons (d_exM fx.m_InvalidMachine rfl (d_var 0 (pv 0))) (d_acons (d_exM fx.m_InvalidOperation rfl (d_var 0 (pv 0))) (d_acons (d_exM fx.m_ParseError rfl (d_var 0 (pv 0))) d_anil))))))))))
  exact fnG_same (fun cs => by simp only [F__law_with_messages, List.map_nil, List.append_nil]) z
theorem sc__law_one : FnScope ["_law_pot_here", "_law_items"] ["_law_pot_here", "_law_items"] (defScope (top 24)) := C8.fnScope_by (by decide +kernel)
theorem G__law_one (fx : Fx K mg) (bx : Bx K mg base TFF) : FnG P w K mg base 2 (He.ga K "_law_one") (spD K (tauOf K TFF) [Md.x, Md.d] F__law_one) := by
  obtain ⟨fd, F⟩ := fx.f__law_one
  have b : Binds K fd ["_law_pot_here", "_law_items"] [] := F.bindsN fun _ _ _ _ _ _ us hl => match us, hl with | [_, _], _ => rfl
  have z := fnG_plain (P := P) (w := w) (mg := mg) (base := base) (τ := tauOf K TFF) (k := 1) (m := m__law_one) (n := 0) [Md.x, Md.d] [] F sc__law_one b .nil (fun _ _ => DVs.nil) rfl rfl fun cdv A outer s H E hr hgd cdo tk hpo => by
    have hu : A.units + 3 + 80 < cLine := by have h := hr.un; have e : (A.deeper (PyProof.Rows.envOfC "_law_one" (defScope (top 24)) s.heap.objs.size (He.ga K "_law_one") cdv)).units = A.units + 3 := rfl; omega
    exact (s_one (s_ret (d_ix (d_var 1 (pv 1)) (d_fn tk (G__law_take fx bx) (hr.mono (by decide)) hgd rfl fx.g__law_take fx.k__law_take (d_acons (d_var 0 (pv 0)) (d_acons (b_len rfl fx.u_len (d_acons (d_var 1 (pv 1)) d_anil)) d_anil))) (fun _ _ => rfl))))
  exact fnG_same (fun cs => by simp only [F__law_one, List.map_nil, List.append_nil]) z
theorem sc__law_messages_right : FnScope ["_law_text", "_law_none", "_law_at", "_law_thing", "_law_base", "_law_other"] ["_law_text"] (defScope (top 29)) := C8.fnScope_by (by decide +kernel)
theorem G__law_messages_right (fx : Fx K mg) (bx : Bx K mg base TFF) : FnG P w K mg base 2 (He.ga K "_law_messages_right") (spD K (tauOf K TFF) [Md.d] F__law_messages_right) := by
  obtain ⟨fd, F⟩ := fx.f__law_messages_right
  have b : Binds K fd ["_law_text"] [] := F.bindsN fun _ _ _ _ _ _ us hl => match us, hl with | [_], _ => rfl
  have z := fnG_plain (P := P) (w := w) (mg := mg) (base := base) (τ := tauOf K TFF) (k := 1) (m := m__law_messages_right) (n := 5) [Md.d] [] F sc__law_messages_right b .nil (fun _ _ => DVs.nil) rfl rfl fun cdv A outer s H E hr hgd cdo tk hpo => by
    have hu : A.units + 3 + 80 < cLine := by have h := hr.un; have e : (A.deeper (PyProof.Rows.envOfC "_law_messages_right" (defScope (top 29)) s.heap.objs.size (He.ga K "_law_messages_right") cdv)).units = A.units + 3 := rfl; omega
    exact (s_cons (s_set 1 (by decide) sc__law_messages_right.nd rfl (.inl rfl) (d_mul (d_lst (d_acons d_bl d_anil)) d_int))
    (s_cons (s_for (ts := [2, 3]) hpo rfl (i_enum2 rfl fx.u_enumerate (d_acons (d_fn tk (G__law_with_messages fx bx) (hr.mono (by decide)) hgd rfl fx.g__law_with_messages fx.k__law_with_messages (d_acons (d_var 0 (pv 0)) d_anil)) d_anil)) (g_tup rfl (gs_cons (g_name 2 (by decide) sc__law_messages_right.nd rfl (by first | exact .inl rfl | exact .inr rfl)) (gs_cons (g_name 3 (by decide) sc__law_messages_right.nd rfl (by first | exact .inl rfl | exact .inr rfl)) gs_nil))) (s_cons (s_if (PW.pt (d_or (t_ne (Nat.lt_of_le_of_lt (Nat.add_le_add_left (by decide) _) hu) (d_fn tk (G__law_message_kinds fx bx) (hr.mono (by decide)) hgd rfl fx.g__law_message_kinds fx.k__law_message_kinds (d_acons (d_var 3 (pv 3)) d_anil)) (d_lc (io := []) (own := [("_law_other", 5)]) rfl sc__law_messages_right.nd (i_range1 rfl fx.u_range (d_acons d_int d_anil)) (by kernel_rfl) (fun _ _ _ _ _ => (g_name 5 (List.not_mem_nil) sc__law_messages_right.nd rfl (by first | exact .inl rfl | exact .inr rfl))) (fun _ _ _ _ _ => d_pts0) (fun _ _ _ _ _ => (d_eq (Nat.lt_of_le_of_lt (Nat.add_le_add_left (by decide) _) hu) (d_var 2 (pv 2)) (d_var 5 (pv 5)))) (by decide))) (d_or1 (t_ne (Nat.lt_of_le_of_lt (Nat.add_le_add_left (by decide) _) hu) (d_fn tk (G__law_value_kinds fx bx) (hr.mono (by decide)) hgd rfl fx.g__law_value_kinds fx.k__law_value_kinds (d_acons (d_var 3 (pv 3)) d_anil)) (d_var 1 (pv 1)))))) (s_one (s_ret d_bl)) s_nil)
    (s_one (s_if (PW.pt (d_or (d_not (d_tval (d_isV fx.xt rfl fx.u_isinstance rfl fx.c_DriveError (d_var 3 (pv 3))))) (d_or1 (t_ne (Nat.lt_of_le_of_lt (Nat.add_le_add_left (by decide) _) hu) (d_fn tk (G__law_outer_kinds fx bx) (hr.mono (by decide)) hgd rfl fx.g__law_outer_kinds fx.k__law_outer_kinds (d_acons (d_var 3 (pv 3)) d_anil)) (d_add (d_lst (d_acons d_bl d_anil)) (d_var 1 (pv 1))))))) (s_one (s_ret d_bl)) s_nil))))
    (s_cons (s_set 4 (by decide) sc__law_messages_right.nd rfl (.inl rfl) (d_exM fx.m_DriveError rfl (d_var 0 (pv 0))))
    (s_cons (s_if (PW.pt (d_or (t_ne (Nat.lt_of_le_of_lt (Nat.add_le_add_left (by decide) _) hu) (d_fn tk (G__law_message_kinds fx bx) (hr.mono (by decide)) hgd rfl fx.g__law_message_kinds fx.k__law_message_kinds (d_acons (d_var 4 (pv 4)) d_anil)) (d_mul (d_lst (d_acons d_bl d_anil)) d_int)) (d_or1 (t_ne (Nat.lt_of_le_of_lt (Nat.add_le_add_left (by decide) _) hu) (d_fn tk (G__law_value_kinds fx bx) (hr.mono (by decide)) hgd rfl fx.g__law_value_kinds fx.k__law_value_kinds (d_acons (d_var 4 (pv 4)) d_anil)) (d_var 1 (pv 1)))))) (s_one (s_ret d_bl)) s_nil)
    (s_one (s_ret (d_eq (Nat.lt_of_le_of_lt (Nat.add_le_add_left (by decide) _) hu) (d_fn tk (G__law_outer_kinds fx bx) (hr.mono (by decide)) hgd rfl fx.g__law_outer_kinds fx.k__law_outer_kinds (d_acons (d_var 4 (pv 4)) d_anil)) (d_add (d_lst (d_acons d_bl d_anil)) (d_var 1 (pv 1))))))))))
  exact fnG_same (fun cs => by simp only [F__law_messages_right, List.map_nil, List.append_nil]) z
theorem sc__law_values_right : FnScope ["_law_some", "_law_found", "_law_kept", "_law_due", "_law_at", "_law_thing", "_law_other"] ["_law_some"] (defScope (top 30)) := C8.fnScope_by (by decide +kernel)
theorem G__law_values_right (fx : Fx K mg) (bx : Bx K mg base TFF) : FnG P w K mg base 3 (He.ga K "_law_values_right") (spD K (tauOf K TFF) [Md.d] F__law_values_right) := by
  obtain ⟨fd, F⟩ := fx.f__law_values_right
  have b : Binds K fd ["_law_some"] [] := F.bindsN fun _ _ _ _ _ _ us hl => match us, hl with | [_], _ => rfl
  have z := fnG_plain (P := P) (w := w) (mg := mg) (base := base) (τ := tauOf K TFF) (k := 2) (m := m__law_values_right) (n := 6) [Md.d] [] F sc__law_values_right b .nil (fun _ _ => DVs.nil) rfl rfl fun cdv A outer s H E hr hgd cdo tk hpo => by
    have hu : A.units + 3 + 80 < cLine := by have h := hr.un; have e : (A.deeper (PyProof.Rows.envOfC "_law_values_right" (defScope (top 30)) s.heap.objs.size (He.ga K "_law_values_right") cdv)).units = A.units + 3 := rfl; omega
    exact (s_cons (s_set 1 (by decide) sc__law_values_right.nd rfl (.inl rfl) (d_lst (d_acons (d_exF fx.e_UnknownName (GI_UnknownName fx) (fx.ini_UnknownName.choose_spec.bindsN fun _ _ _ _ _ _ us hl => match us, hl with | [_, _], _ => rfl) (hr.mono (by decide)) takes_none5 rfl (d_ix (d_var 0 (pv 0)) d_int (fun _ _ => rfl))) (d_acons (d_exF fx.e_InvalidNumber (GI_InvalidNumber fx) (fx.ini_InvalidNumber.choose_spec.bindsN fun _ _ _ _ _ _ us hl => match us, hl with | [_, _], _ => rfl) (hr.mono (by decide)) takes_none5 rfl (d_ix (d_var 0 (pv 0)) d_int (fun _ _ => rfl))) (d_acons (d_exF fx.e_TooLarge (GI_TooLarge fx) (fx.ini_TooLarge.choose_spec.bindsN fun _ _ _ _ _ _ us hl => match us, hl with | [_, _], _ => rfl) (hr.mono (by decide)) takes_none5 rfl (d_ix (d_var 0 (pv 0)) d_int (fun _ _ => rfl))) d_anil)))))
    (s_cons (s_set 1 (by decide) sc__law_values_right.nd rfl (.inl rfl) (d_add (d_var 1 (pv 1)) (d_lst (d_acons (d_exF fx.e_NotDriving (GI_NotDriving fx) (fx.ini_NotDriving.choose_spec.bindsN fun _ _ _ _ _ _ us hl => match us, hl with | [_, _], _ => rfl) (hr.mono (by decide)) takes_none5 rfl (d_ix (d_var 0 (pv 0)) d_int (fun _ _ => rfl))) (d_acons (d_exF fx.e_Impossible (GI_Impossible fx) (fx.ini_Impossible.choose_spec.bindsN fun _ _ _ _ _ _ us hl => match us, hl with | [_, _], _ => rfl) (hr.mono (by decide)) takes_none5 rfl (d_ix (d_var 0 (pv 0)) d_int (fun _ _ => rfl))) (d_acons (d_exF fx.e_Conflict (GI_Conflict fx) (fx.ini_Conflict.choose_spec.bindsN fun _ _ _ _ _ _ us hl => match us, hl with | [_, _], _ => rfl) (hr.mono (by decide)) takes_none5 rfl (d_ix (d_var 0 (pv 0)) d_int (fun _ _ => rfl))) d_anil))))))
    (s_cons (s_set 2 (by decide) sc__law_values_right.nd rfl (.inl rfl) (d_lst (d_acons (d_atV fx.xt (d_ix (d_var 1 (pv 1)) d_int (fun _ _ => rfl))) (d_acons (d_atV fx.xt (d_ix (d_var 1 (pv 1)) d_int (fun _ _ => rfl))) (d_acons (d_atV fx.xt (d_ix (d_var 1 (pv 1)) d_int (fun _ _ => rfl))) (d_acons (d_atV fx.xt (d_ix (d_var 1 (pv 1)) d_int (fun _ _ => rfl))) (d_acons (d_atV fx.xt (d_ix (d_var 1 (pv 1)) d_int (fun _ _ => rfl))) (d_acons (d_atV fx.xt (d_ix (d_var 1 (pv 1)) d_int (fun _ _ => rfl))) d_anil))))))))
    (s_cons (s_if (t_ne (Nat.lt_of_le_of_lt (Nat.add_le_add_left (by decide) _) hu) (b_repr bx.sm hgd hu rfl fx.u_repr (d_acons (d_var 2 (pv 2)) d_anil)) (b_repr bx.sm hgd hu rfl fx.u_repr (d_acons (d_var 0 (pv 0)) d_anil))) (s_one (s_ret d_bl)) s_nil)
    (s_cons (s_set 3 (by decide) sc__law_values_right.nd rfl (.inr rfl) (d_lst (d_acons (d_lst (d_acons d_int (d_acons d_int d_anil))) (d_acons (d_lst (d_acons d_int (d_acons d_int d_anil))) (d_acons (d_lst (d_acons d_int (d_acons d_int d_anil))) (d_acons (d_lst (d_acons d_int d_anil)) (d_acons (d_lst (d_acons d_int d_anil)) (d_acons (d_lst (d_acons d_int d_anil)) d_anil))))))))
    (s_cons (s_for (ts := [4, 5]) hpo rfl (i_enum2 rfl fx.u_enumerate (d_acons (d_var 1 (pv 1)) d_anil)) (g_tup rfl (gs_cons (g_name 4 (by decide) sc__law_values_right.nd rfl (by first | exact .inl rfl | exact .inr rfl)) (gs_cons (g_name 5 (by decide) sc__law_values_right.nd rfl (by first | exact .inl rfl | exact .inr rfl)) gs_nil))) (s_cons (s_if (PW.pt (d_or (t_ne (Nat.lt_of_le_of_lt (Nat.add_le_add_left (by decide) _) hu) (d_fn tk (G__law_value_kinds fx bx) (hr.mono (by decide)) hgd rfl fx.g__law_value_kinds fx.k__law_value_kinds (d_acons (d_var 5 (pv 5)) d_anil)) (d_lc (io := []) (own := [("_law_other", 6)]) rfl sc__law_values_right.nd (i_range1 rfl fx.u_range (d_acons d_int d_anil)) (by kernel_rfl) (fun _ _ _ _ _ => (g_name 6 (List.not_mem_nil) sc__law_values_right.nd rfl (by first | exact .inl rfl | exact .inr rfl))) (fun _ _ _ _ _ => d_pts0) (fun _ _ _ _ _ => (d_eq (Nat.lt_of_le_of_lt (Nat.add_le_add_left (by decide) _) hu) (d_var 4 (pv 4)) (d_var 6 (pv 6)))) (by decide))) (d_or1 (d_tval (d_isV fx.xt rfl fx.u_isinstance rfl fx.c_DriveError (d_var 5 (pv 5))))))) (s_one (s_ret d_bl)) s_nil)
    (s_cons (s_if (t_ne (Nat.lt_of_le_of_lt (Nat.add_le_add_left (by decide) _) hu) (d_fn tk (G__law_message_kinds fx bx) (hr.mono (by decide)) hgd rfl fx.g__law_message_kinds fx.k__law_message_kinds (d_acons (d_var 5 (pv 5)) d_anil)) (d_mul (d_lst (d_acons d_bl d_anil)) d_int)) (s_one (s_ret d_bl)) s_nil)
    (s_one (s_if (t_ne (Nat.lt_of_le_of_lt (Nat.add_le_add_left (by decide) _) hu) (d_fn tk (G__law_outer_kinds fx bx) (hr.mono (by decide)) hgd rfl fx.g__law_outer_kinds fx.k__law_outer_kinds (d_acons (d_var 5 (pv 5)) d_anil)) (d_lc (io := []) (own := [("_law_other", 6)]) rfl sc__law_values_right.nd (i_range1 rfl fx.u_range (d_acons d_int d_anil)) (by kernel_rfl) (fun _ _ _ _ _ => (g_name 6 (List.not_mem_nil) sc__law_values_right.nd rfl (by first | exact .inl rfl | exact .inr rfl))) (fun _ _ _ _ _ => d_pts0) (fun _ _ _ _ _ => (d_in (Nat.lt_of_le_of_lt (Nat.add_le_add_left (by decide) _) hu) (d_var 6 (pv 6)) (d_ix (d_var 3 (pv 3)) (d_var 4 (pv 4)) (fun _ _ => rfl)))) (by decide))) (s_one (s_ret d_bl)) s_nil)))))
    (s_one (s_ret d_bl))))))))
  exact fnG_same (fun cs => by simp only [F__law_values_right, List.map_nil, List.append_nil]) z
theorem sc__law_met : FnScope ["_law_way", "_law_some", "_law_text", "e"] ["_law_way", "_law_some", "_law_text"] (defScope (top 31)) := C8.fnScope_by (by decide +kernel)
theorem G__law_met (fx : Fx K mg) (bx : Bx K mg base TFF) : FnG P w K mg base 3 (He.ga K "_law_met") (spD K (tauOf K TFF) [Md.d, Md.d, Md.d] F__law_met) := by
  obtain ⟨fd, F⟩ := fx.f__law_met
  have b : Binds K fd ["_law_way", "_law_some", "_law_text"] [] := F.bindsN fun _ _ _ _ _ _ us hl => match us, hl with | [_, _, _], _ => rfl
  have z := fnG_plain (P := P) (w := w) (mg := mg) (base := base) (τ := tauOf K TFF) (k := 2) (m := m__law_met) (n := 1) [Md.d, Md.d, Md.d] [] F sc__law_met b .nil (fun _ _ => DVs.nil) rfl rfl fun cdv A outer s H E hr hgd cdo tk hpo => by
    have hu : A.units + 3 + 80 < cLine := by have h := hr.un; have e : (A.deeper (PyProof.Rows.envOfC "_law_met" (defScope (top 31)) s.heap.objs.size (He.ga K "_law_met") cdv)).units = A.units + 3 := rfl; omega
    exact (s_one (s_try fx.xt rfl rfl tk (fun W pn xe tk hpo => (s_cons (s_if (t_eq (Nat.lt_of_le_of_lt (Nat.add_le_add_left (by decide) _) hu) (d_var 0 (pv 0)) d_int) (s_one (s_raiseF rfl tk fx.e_UnknownName (GI_UnknownName fx) (fx.ini_UnknownName.choose_spec.bindsN fun _ _ _ _ _ _ us hl => match us, hl with | [_, _], _ => rfl) (hr.mono (by decide)) rfl (d_ix (d_var 1 (pv 1)) d_int (fun _ _ => rfl)))) s_nil)
    (s_cons (s_if (t_eq (Nat.lt_of_le_of_lt (Nat.add_le_add_left (by decide) _) hu) (d_var 0 (pv 0)) d_int) (s_one (s_raiseF rfl tk fx.e_InvalidNumber (GI_InvalidNumber fx) (fx.ini_InvalidNumber.choose_spec.bindsN fun _ _ _ _ _ _ us hl => match us, hl with | [_, _], _ => rfl) (hr.mono (by decide)) rfl (d_ix (d_var 1 (pv 1)) d_int (fun _ _ => rfl)))) s_nil)
    (s_cons (s_if (t_eq (Nat.lt_of_le_of_lt (Nat.add_le_add_left (by decide) _) hu) (d_var 0 (pv 0)) d_int) (s_one (s_raiseF rfl tk fx.e_TooLarge (GI_TooLarge fx) (fx.ini_TooLarge.choose_spec.bindsN fun _ _ _ _ _ _ us hl => match us, hl with | [_, _], _ => rfl) (hr.mono (by decide)) rfl (d_ix (d_var 1 (pv 1)) d_int (fun _ _ => rfl)))) s_nil)
    (s_cons (s_if (t_eq (Nat.lt_of_le_of_lt (Nat.add_le_add_left (by decide) _) hu) (d_var 0 (pv 0)) d_int) (s_one (s_raiseF rfl tk fx.e_NotDriving (GI_NotDriving fx) (fx.ini_NotDriving.choose_spec.bindsN fun _ _ _ _ _ _ us hl => match us, hl with | [_, _], _ => rfl) (hr.mono (by decide)) rfl (d_ix (d_var 1 (pv 1)) d_int (fun _ _ => rfl)))) s_nil)
    (s_cons (s_if (t_eq (Nat.lt_of_le_of_lt (Nat.add_le_add_left (by decide) _) hu) (d_var 0 (pv 0)) d_int) (s_one (s_raiseF rfl tk fx.e_Impossible (GI_Impossible fx) (fx.ini_Impossible.choose_spec.bindsN fun _ _ _ _ _ _ us hl => match us, hl with | [_, _], _ => rfl) (hr.mono (by decide)) rfl (d_ix (d_var 1 (pv 1)) d_int (fun _ _ => rfl)))) s_nil)
    (s_cons (s_if (t_eq (Nat.lt_of_le_of_lt (Nat.add_le_add_left (by decide) _) hu) (d_var 0 (pv 0)) d_int) (s_one (s_raiseF rfl tk fx.e_Conflict (GI_Conflict fx) (fx.ini_Conflict.choose_spec.bindsN fun _ _ _ _ _ _ us hl => match us, hl with | [_, _], _ => rfl) (hr.mono (by decide)) rfl (d_ix (d_var 1 (pv 1)) d_int (fun _ _ => rfl)))) s_nil)
    (s_one (s_raiseM1 rfl tk fx.m_ParseError rfl (d_var 2 (pv 2))))))))))) (.bare rfl fx.c_DriveError (fun c a oe d pn hc hz hf => (s_one (s_ret d_str))) (.named 3 sc__law_met.nd rfl rfl (by decide) rfl fx.c_UnknownName (fun c a oe d pn hc hz hf => (s_one (s_ret (d_ifx (t_eq (Nat.lt_of_le_of_lt (Nat.add_le_add_left (by decide) _) hu) (b_repr bx.sm hgd hu rfl fx.u_repr (d_acons (d_exf fx.xt hc ((by decide +kernel : ∀ c ∈ XTT.cls, XTT.isNo c "name" = true) c hc) hz hf (d_var 3 (pv 3))) d_anil)) (b_repr bx.sm hgd hu rfl fx.u_repr (d_acons (d_ix (d_var 1 (pv 1)) d_int (fun _ _ => rfl)) d_anil))) d_str d_str)))) (.named 3 sc__law_met.nd rfl rfl (by decide) rfl fx.c_InvalidNumber (fun c a oe d pn hc hz hf => (s_one (s_ret (d_ifx (t_eq (Nat.lt_of_le_of_lt (Nat.add_le_add_left (by decide) _) hu) (b_repr bx.sm hgd hu rfl fx.u_repr (d_acons (d_exf fx.xt hc ((by decide +kernel : ∀ c ∈ XTT.cls, XTT.isNo c "value" = true) c hc) hz hf (d_var 3 (pv 3))) d_anil)) (b_repr bx.sm hgd hu rfl fx.u_repr (d_acons (d_ix (d_var 1 (pv 1)) d_int (fun _ _ => rfl)) d_anil))) d_str d_str)))) (.named 3 sc__law_met.nd rfl rfl (by decide) rfl fx.c_TooLarge (fun c a oe d pn hc hz hf => (s_one (s_ret (d_ifx (t_eq (Nat.lt_of_le_of_lt (Nat.add_le_add_left (by decide) _) hu) (b_repr bx.sm hgd hu rfl fx.u_repr (d_acons (d_exf fx.xt hc ((by decide +kernel : ∀ c ∈ XTT.cls, XTT.isNo c "limit" = true) c hc) hz hf (d_var 3 (pv 3))) d_anil)) (b_repr bx.sm hgd hu rfl fx.u_repr (d_acons (d_ix (d_var 1 (pv 1)) d_int (fun _ _ => rfl)) d_anil))) d_str d_str)))) (.named 3 sc__law_met.nd rfl rfl (by decide) rfl fx.c_NotDriving (fun c a oe d pn hc hz hf => (s_one (s_ret (d_ifx (t_eq (Nat.lt_of_le_of_lt (Nat.add_le_add_left (by decide) _) hu) (b_repr bx.sm hgd hu rfl fx.u_repr (d_acons (d_exf fx.xt hc ((by decide +kernel : ∀ c ∈ XTT.cls, XTT.isNo c "paper" = true) c hc) hz hf (d_var 3 (pv 3))) d_anil)) (b_repr bx.sm hgd hu rfl fx.u_repr (d_acons (d_ix (d_var 1 (pv 1)) d_int (fun _ _ => rfl)) d_anil))) d_str d_str)))) (.named 3 sc__law_met.nd rfl rfl (by decide) rfl fx.c_Impossible (fun c a oe d pn hc hz hf => (s_one (s_ret (d_ifx (t_eq (Nat.lt_of_le_of_lt (Nat.add_le_add_left (by decide) _) hu) (b_repr bx.sm hgd hu rfl fx.u_repr (d_acons (d_exf fx.xt hc ((by decide +kernel : ∀ c ∈ XTT.cls, XTT.isNo c "time" = true) c hc) hz hf (d_var 3 (pv 3))) d_anil)) (b_repr bx.sm hgd hu rfl fx.u_repr (d_acons (d_ix (d_var 1 (pv 1)) d_int (fun _ _ => rfl)) d_anil))) d_str d_str)))) (.named 3 sc__law_met.nd rfl rfl (by decide) rfl fx.c_Conflict (fun c a oe d pn hc hz hf => (s_one (s_ret (d_ifx (t_eq (Nat.lt_of_le_of_lt (Nat.add_le_add_left (by decide) _) hu) (b_repr bx.sm hgd hu rfl fx.u_repr (d_acons (d_exf fx.xt hc ((by decide +kernel : ∀ c ∈ XTT.cls, XTT.isNo c "name" = true) c hc) hz hf (d_var 3 (pv 3))) d_anil)) (b_repr bx.sm hgd hu rfl fx.u_repr (d_acons (d_ix (d_var 1 (pv 1)) d_int (fun _ _ => rfl)) d_anil))) d_str d_str)))) .nil)))))))))
  exact fnG_same (fun cs => by simp only [F__law_met, List.map_nil, List.append_nil]) z
theorem sc__law_some_values : FnScope ["_law_pot_here", "_law_text", "_law_few", "_law_found", "_law_papers"] ["_law_pot_here", "_law_text"] (defScope (top 32)) := C8.fnScope_by (by decide +kernel)
theorem G__law_some_values (fx : Fx K mg) (bx : Bx K mg base TFF) : FnG P w K mg base 3 (He.ga K "_law_some_values") (spD K (tauOf K TFF) [Md.x, Md.d] F__law_some_values) := by
  obtain ⟨fd, F⟩ := fx.f__law_some_values
  have b : Binds K fd ["_law_pot_here", "_law_text"] [] := F.bindsN fun _ _ _ _ _ _ us hl => match us, hl with | [_, _], _ => rfl
  have z := fnG_plain (P := P) (w := w) (mg := mg) (base := base) (τ := tauOf K TFF) (k := 2) (m := m__law_some_values) (n := 3) [Md.x, Md.d] [] F sc__law_some_values b .nil (fun _ _ => DVs.nil) rfl rfl fun cdv A outer s H E hr hgd cdo tk hpo => by
    have hu : A.units + 3 + 80 < cLine := by have h := hr.un; have e : (A.deeper (PyProof.Rows.envOfC "_law_some_values" (defScope (top 32)) s.heap.objs.size (He.ga K "_law_some_values") cdv)).units = A.units + 3 := rfl; omega
    exact (s_cons (s_set 2 (by decide) sc__law_some_values.nd rfl (.inl rfl) (d_lst (d_acons d_non (d_acons d_int (d_acons (d_neg d_int) (d_acons (d_pow d_int d_int) (d_acons d_str (d_acons d_str (d_acons (d_tup d_anil) (d_acons (d_tup (d_acons d_str (d_acons (d_tup (d_acons (d_tup (d_acons d_int (d_acons d_int d_anil))) d_anil)) d_anil))) (d_acons (d_dctL [((Sum.inr "a"), (Lit.int 1))] (pps_cons pe_str pe_int pps_nil) rfl rfl (by decide) (by decide) (by decide) (by rfl)) (d_acons (d_lst d_anil) (d_acons (d_lst (d_acons (d_var 1 (pv 1)) d_anil)) (d_acons (d_tup (d_acons (d_var 1 (pv 1)) (d_acons d_int d_anil))) d_anil))))))))))))))
    (s_cons (s_own 3 (by decide) sc__law_some_values.nd rfl (.inl rfl) (d_lst (d_acons (d_fn tk (G__law_one fx bx) (hr.mono (by decide)) hgd rfl fx.g__law_one fx.k__law_one (d_acons (d_var 0 (pv 0)) (d_acons (d_var 2 (pv 2)) d_anil))) (d_acons (d_fn tk (G__law_one fx bx) (hr.mono (by decide)) hgd rfl fx.g__law_one fx.k__law_one (d_acons (d_var 0 (pv 0)) (d_acons (d_var 2 (pv 2)) d_anil))) (d_acons (d_fn tk (G__law_one fx bx) (hr.mono (by decide)) hgd rfl fx.g__law_one fx.k__law_one (d_acons (d_var 0 (pv 0)) (d_acons (d_lst (d_acons d_int (d_acons d_int (d_acons d_int (d_acons d_int (d_acons d_int (d_acons d_int (d_acons d_int (d_acons d_int (d_acons d_int (d_acons d_int (d_acons d_int d_anil)))))))))))) d_anil))) d_anil)))))
    (s_cons (s_set 4 (by decide) sc__law_some_values.nd rfl (.inl rfl) (d_lst (d_acons (d_tup (d_acons d_str (d_acons (d_tup (d_acons (d_tup (d_acons d_int (d_acons d_int d_anil))) d_anil)) d_anil))) (d_acons (d_tup (d_acons d_str (d_acons (d_tup (d_acons (d_tup (d_acons d_int (d_acons d_int d_anil))) (d_acons (d_tup (d_acons d_int (d_acons d_int d_anil))) d_anil))) d_anil))) (d_acons (d_tup (d_acons d_str (d_acons (d_dctL [((Sum.inr "a"), (Lit.int 1))] (pps_cons pe_str pe_int pps_nil) rfl rfl (by decide) (by decide) (by decide) (by rfl)) d_anil))) (d_acons (d_tup (d_acons d_str (d_acons (d_dctL [((Sum.inr "a"), (Lit.int 2)), ((Sum.inr "b"), (Lit.int 4))] (pps_cons pe_str pe_int (pps_cons pe_str pe_int pps_nil)) rfl rfl (by decide) (by decide) (by decide) (by rfl)) d_anil))) d_anil))))))
    (s_cons (s_app 3 (pv 3) (d_fn tk (G__law_one fx bx) (hr.mono (by decide)) hgd rfl fx.g__law_one fx.k__law_one (d_acons (d_var 0 (pv 0)) (d_acons (d_var 4 (pv 4)) d_anil))))
    (s_one (s_ret (d_add (d_var 3 (pv 3)) (d_lst (d_acons (d_fn tk (G__law_take fx bx) (hr.mono (by decide)) hgd rfl fx.g__law_take fx.k__law_take (d_acons (d_var 0 (pv 0)) (d_acons d_int d_anil))) (d_acons (d_fn tk (G__law_one fx bx) (hr.mono (by decide)) hgd rfl fx.g__law_one fx.k__law_one (d_acons (d_var 0 (pv 0)) (d_acons (d_lst (d_acons d_str (d_acons d_str (d_acons d_str (d_acons d_str d_anil))))) d_anil))) d_anil))))))))))
  exact fnG_same (fun cs => by simp only [F__law_some_values, List.map_nil, List.append_nil]) z
theorem sc_law : FnScope ["_law_script", "_law_due", "_law_k", "_law_pot_here", "_law_text", "_law_some", "_law_turn", "_law_way"] ["_law_script"] (defScope (top 33)) := C8.fnScope_by (by decide +kernel)
theorem G_law (fx : Fx K mg) (bx : Bx K mg base TFF) : FnG P w K mg base 4 (He.ga K "law") (spD K (tauOf K TFF) [Md.d] F_law) := by
  obtain ⟨fd, F⟩ := fx.f_law
  have b : Binds K fd ["_law_script"] [] := F.bindsN fun _ _ _ _ _ _ us hl => match us, hl with | [_], _ => rfl
  have z := fnG_plain (P := P) (w := w) (mg := mg) (base := base) (τ := tauOf K TFF) (k := 3) (m := m_law) (n := 7) [Md.d] [] F sc_law b .nil (fun _ _ => DVs.nil) rfl rfl fun cdv A outer s H E hr hgd cdo tk hpo => by
    have hu : A.units + 3 + 80 < cLine := by have h := hr.un; have e : (A.deeper (PyProof.Rows.envOfC "law" (defScope (top 33)) s.heap.objs.size (He.ga K "law") cdv)).units = A.units + 3 := rfl; omega
    exact (s_cons (s_set 1 (by decide) sc_law.nd rfl (.inl rfl) (d_lst (d_acons d_str (d_acons d_str (d_acons d_str (d_acons d_str (d_acons d_str (d_acons d_str (d_acons d_str d_anil)))))))))
    (s_cons (s_for (ts := [2]) hpo rfl (i_range1 rfl fx.u_range (d_acons (b_max rfl rfl fx.u_max (d_acons d_int (d_acons (b_min rfl rfl fx.u_min (d_acons d_int (d_acons (b_len rfl fx.u_len (d_acons (d_var 0 (pv 0)) d_anil)) d_anil))) d_anil))) d_anil)) (g_name 2 (by decide) sc_law.nd rfl (by first | exact .inl rfl | exact .inr rfl)) (s_cons (s_own 3 (by decide) sc_law.nd rfl (.inr rfl) (d_fn tk (G__law_pot fx bx) (hr.mono (by decide)) hgd rfl fx.g__law_pot fx.k__law_pot (d_acons (d_var 0 (pv 0)) (d_acons (d_var 2 (pv 2)) d_anil))))
    (s_cons (s_set 4 (by decide) sc_law.nd rfl (.inr rfl) (m_join d_str (d_acons (d_lc (io := []) (own := [("_law_turn", 6)]) rfl sc_law.nd (i_range1 rfl fx.u_range (d_acons (d_fn tk (G__law_take fx bx) (hr.mono (by decide)) hgd rfl fx.g__law_take fx.k__law_take (d_acons (d_var 3 (pv 3)) (d_acons d_int d_anil))) d_anil)) (by kernel_rfl) (fun _ _ _ _ _ => (g_name 6 (List.not_mem_nil) sc_law.nd rfl (by first | exact .inl rfl | exact .inr rfl))) (fun _ _ _ _ _ => d_pts0) (fun _ _ _ _ _ => (d_fn takes_none5 (G__law_one fx bx) (hr.mono (by decide)) hgd rfl fx.g__law_one fx.k__law_one (d_acons (d_var 3 (pv 3)) (d_acons d_str d_anil)))) (by decide)) d_anil)))
    (s_cons (s_set 5 (by decide) sc_law.nd rfl (.inr rfl) (d_fn tk (G__law_some_values fx bx) (hr.mono (by decide)) hgd rfl fx.g__law_some_values fx.k__law_some_values (d_acons (d_var 3 (pv 3)) (d_acons (d_var 4 (pv 4)) d_anil))))
    (s_cons (s_if (PW.pt (d_or (d_not (d_tval (d_fn tk (G__law_messages_right fx bx) (hr.mono (by decide)) hgd rfl fx.g__law_messages_right fx.k__law_messages_right (d_acons (d_var 4 (pv 4)) d_anil)))) (d_or1 (d_not (d_tval (d_fn tk (G__law_values_right fx bx) (hr.mono (by decide)) hgd rfl fx.g__law_values_right fx.k__law_values_right (d_acons (d_var 5 (pv 5)) d_anil))))))) (s_one (s_ret d_bl)) s_nil)
    (s_one (s_if (t_ne (Nat.lt_of_le_of_lt (Nat.add_le_add_left (by decide) _) hu) (d_lc (io := []) (own := [("_law_way", 7)]) rfl sc_law.nd (i_range1 rfl fx.u_range (d_acons d_int d_anil)) (by kernel_rfl) (fun _ _ _ _ _ => (g_name 7 (List.not_mem_nil) sc_law.nd rfl (by first | exact .inl rfl | exact .inr rfl))) (fun _ _ _ _ _ => d_pts0) (fun _ _ _ _ _ => (d_fn takes_none5 (G__law_met fx bx) (hr.mono (by decide)) hgd rfl fx.g__law_met fx.k__law_met (d_acons (d_var 7 (pv 7)) (d_acons (d_var 5 (pv 5)) (d_acons (d_var 4 (pv 4)) d_anil))))) (by decide)) (d_var 1 (pv 1))) (s_one (s_ret d_bl)) s_nil)))))))
    (s_one (s_ret d_bl))))
  exact fnG_same (fun cs => by simp only [F_law, List.map_nil, List.append_nil]) z
end
end K89

/-! ## K89h -/
set_option Elab.async false
set_option linter.all false
set_option maxRecDepth 100000
set_option maxHeartbeats 0
namespace K89
open PySem PySem.Spec PyProof.Rows L2 DL
def fn : List He.DefD := ([⟨("_law_pot", none), "_law_pot", "_law_pot", defArgs (top 22), defBody (top 22), defScope (top 22), [], []⟩, ⟨("_law_take", none), "_law_take", "_law_take", defArgs (top 23), defBody (top 23), defScope (top 23), [], []⟩, ⟨("_law_message_kinds", none), "_law_message_kinds", "_law_message_kinds", defArgs (top 25), defBody (top 25), defScope (top 25), [], []⟩, ⟨("_law_value_kinds", none), "_law_value_kinds", "_law_value_kinds", defArgs (top 26), defBody (top 26), defScope (top 26), [], []⟩, ⟨("_law_outer_kinds", none), "_law_outer_kinds", "_law_outer_kinds", defArgs (top 27), defBody (top 27), defScope (top 27), [], []⟩, ⟨("_law_with_messages", none), "_law_with_messages", "_law_with_messages", defArgs (top 28), defBody (top 28), defScope (top 28), [], []⟩, ⟨("_law_one", none), "_law_one", "_law_one", defArgs (top 24), defBody (top 24), defScope (top 24), [], []⟩, ⟨("_law_messages_right", none), "_law_messages_right", "_law_messages_right", defArgs (top 29), defBody (top 29), defScope (top 29), [], []⟩] : List He.DefD) ++ ([⟨("_law_values_right", none), "_law_values_right", "_law_values_right", defArgs (top 30), defBody (top 30), defScope (top 30), [], []⟩, ⟨("_law_met", none), "_law_met", "_law_met", defArgs (top 31), defBody (top 31), defScope (top 31), [], []⟩, ⟨("_law_some_values", none), "_law_some_values", "_law_some_values", defArgs (top 32), defBody (top 32), defScope (top 32), [], []⟩, ⟨("law", none), "law", "law", defArgs (top 33), defBody (top 33), defScope (top 33), [], []⟩, ⟨("Conflict", some "__init__"), "__init__", "Conflict.__init__", defArgs (topM 20 0), defBody (topM 20 0), defScope (topM 20 0), [], []⟩, ⟨("Impossible", some "__init__"), "__init__", "Impossible.__init__", defArgs (topM 19 0), defBody (topM 19 0), defScope (topM 19 0), [], []⟩, ⟨("InvalidNumber", some "__init__"), "__init__", "InvalidNumber.__init__", defArgs (topM 16 0), defBody (topM 16 0), defScope (topM 16 0), [], []⟩, ⟨("NotDriving", some "__init__"), "__init__", "NotDriving.__init__", defArgs (topM 18 0), defBody (topM 18 0), defScope (topM 18 0), [], []⟩] : List He.DefD) ++ ([⟨("TooLarge", some "__init__"), "__init__", "TooLarge.__init__", defArgs (topM 17 0), defBody (topM 17 0), defScope (topM 17 0), [], []⟩, ⟨("UnknownName", some "__init__"), "__init__", "UnknownName.__init__", defArgs (topM 15 0), defBody (topM 15 0), defScope (topM 15 0), [], []⟩] : List He.DefD)
def fa : List He.Fa := ([.glo "_law_pot", .keep "_law_pot", .glo "_law_take", .keep "_law_take", .glo "_law_message_kinds", .keep "_law_message_kinds", .glo "_law_value_kinds", .keep "_law_value_kinds", .glo "_law_outer_kinds", .keep "_law_outer_kinds", .glo "_law_with_messages", .keep "_law_with_messages", .glo "_law_one", .keep "_law_one", .glo "_law_messages_right", .keep "_law_messages_right", .glo "_law_values_right", .keep "_law_values_right", .glo "_law_met", .keep "_law_met", .glo "_law_some_values", .keep "_law_some_values", .glo "law", .keep "law", .glo "DriveError", .glo "InvalidModulus", .glo "InvalidName", .glo "InvalidVector", .glo "InvalidMatrix", .glo "InvalidPart"] : List He.Fa) ++ ([.glo "InvalidDiagram", .glo "InvalidEnds", .glo "InvalidRecord", .glo "InvalidGenerators", .glo "InvalidBehaviour", .glo "InvalidMachine", .glo "InvalidOperation", .glo "ParseError", .glo "UnknownName", .glo "InvalidNumber", .glo "TooLarge", .glo "NotDriving", .glo "Impossible", .glo "Conflict", .free "ArithmeticError", .free "IndexError", .free "KeyError", .free "LookupError", .free "OverflowError", .free "RuntimeError", .free "ValueError", .free "abs", .free "enumerate", .free "int", .free "isinstance", .free "len", .free "max", .free "min", .free "range", .free "repr"] : List He.Fa)
def ext : List (Str × List D) := []
def ex2 (K : PySem.W.Frag) : List Bool := [XTT.okB K, tauB K TFF, msgB K "DriveError", msgB K "InvalidBehaviour", msgB K "InvalidDiagram", msgB K "InvalidEnds", msgB K "InvalidGenerators", msgB K "InvalidMachine", msgB K "InvalidMatrix", msgB K "InvalidModulus", msgB K "InvalidName", msgB K "InvalidOperation", msgB K "InvalidPart", msgB K "InvalidRecord", msgB K "InvalidVector", msgB K "ParseError", fldB K "Conflict" "name" [.type "LookupError", .type "Exception", .type "BaseException", .type "object"] "LookupError.__new__", fldB K "Impossible" "time" [.type "RuntimeError", .type "Exception", .type "BaseException", .type "object"] "RuntimeError.__new__", fldB K "InvalidNumber" "value" [.type "IndexError", .type "LookupError", .type "Exception", .type "BaseException", .type "object"] "IndexError.__new__", fldB K "NotDriving" "paper" [.type "ArithmeticError", .type "Exception", .type "BaseException", .type "object"] "ArithmeticError.__new__", fldB K "TooLarge" "limit" [.type "OverflowError", .type "ArithmeticError", .type "Exception", .type "BaseException", .type "object"] "OverflowError.__new__", fldB K "UnknownName" "name" kBase "LookupError.__new__"]
def ex (K : PySem.W.Frag) : Bool := (ext.all fun q => tupB K q.1 q.2) && (ex2 K).all id
theorem ex_at {K : PySem.W.Frag} {i : Nat} {q : Str × List D} (h : ex K = true) (e : ext[i]? = some q) : tupB K q.1 q.2 = true := List.all_eq_true.mp (Bool.and_eq_true_iff.mp h).1 q (List.mem_of_getElem? e)
theorem ex2_at {K : PySem.W.Frag} {i : Nat} {b : Bool} (h : ex K = true) (e : (ex2 K)[i]? = some b) : b = true := List.all_eq_true.mp (Bool.and_eq_true_iff.mp h).2 b (List.mem_of_getElem? e)
abbrev R : PySem.W.OpenRow := PySem.W.OpenLaw.row PySem.Challenge.rw_driveends_k89_errors_by_their_classes
abbrev hk : PySem.W.Hook := He.hookX 4 fa fn [] TFF ex
def ob (s : PySem.W.SharedT) : He.AlX := He.obsX 4 fa fn [] TFF ex (HandSHeadRun.getT s)
theorem ob_eq (s : PySem.W.SharedT) : ob s = hk.obs s.abs := He.obsX_eq (HandSHeadRun.getT_eq s)
def loose : List Str := (["__name__", "DriveError", "InvalidModulus", "InvalidName", "InvalidVector", "InvalidMatrix", "InvalidPart", "InvalidDiagram", "InvalidEnds", "InvalidRecord", "InvalidGenerators", "InvalidBehaviour", "InvalidMachine", "InvalidOperation", "ParseError", "UnknownName", "InvalidNumber", "TooLarge", "NotDriving", "Impossible", "Conflict", "_law_pot", "_law_take", "_law_one", "_law_message_kinds", "_law_value_kinds", "_law_outer_kinds", "_law_with_messages", "_law_messages_right", "_law_values_right"] : List Str) ++ (["_law_met", "_law_some_values"] : List Str)
theorem run (w : World) : HandSHeadRun.RunEq R (PySem.W.view R.prog [33]) hk ob 6000 loose w := by
  intro os
  kernel_rfl
theorem fx_of {w : World} {K : PySem.W.Frag} {h : Heap} {mg : Str → Option Value} (X : K.In h) (G : h.Ns mainGlobals mg) (c : He.SaysX fa fn [] TFF ex w h K) : Fx K mg where
    f__law_pot := c.t.d.def_ 0 (d := ⟨("_law_pot", none), "_law_pot", "_law_pot", defArgs (top 22), defBody (top 22), defScope (top 22), [], []⟩) rfl
    g__law_pot := He.glo_ok X G (c.t.d.fact 0 (f := .glo "_law_pot") rfl)
    k__law_pot := He.keep_ok (c.t.d.fact 1 (f := .keep "_law_pot") rfl)
    f__law_take := c.t.d.def_ 1 (d := ⟨("_law_take", none), "_law_take", "_law_take", defArgs (top 23), defBody (top 23), defScope (top 23), [], []⟩) rfl
    g__law_take := He.glo_ok X G (c.t.d.fact 2 (f := .glo "_law_take") rfl)
    k__law_take := He.keep_ok (c.t.d.fact 3 (f := .keep "_law_take") rfl)
    f__law_message_kinds := c.t.d.def_ 2 (d := ⟨("_law_message_kinds", none), "_law_message_kinds", "_law_message_kinds", defArgs (top 25), defBody (top 25), defScope (top 25), [], []⟩) rfl
    g__law_message_kinds := He.glo_ok X G (c.t.d.fact 4 (f := .glo "_law_message_kinds") rfl)
    k__law_message_kinds := He.keep_ok (c.t.d.fact 5 (f := .keep "_law_message_kinds") rfl)
    f__law_value_kinds := c.t.d.def_ 3 (d := ⟨("_law_value_kinds", none), "_law_value_kinds", "_law_value_kinds", defArgs (top 26), defBody (top 26), defScope (top 26), [], []⟩) rfl
    g__law_value_kinds := He.glo_ok X G (c.t.d.fact 6 (f := .glo "_law_value_kinds") rfl)
    k__law_value_kinds := He.keep_ok (c.t.d.fact 7 (f := .keep "_law_value_kinds") rfl)
    f__law_outer_kinds := c.t.d.def_ 4 (d := ⟨("_law_outer_kinds", none), "_law_outer_kinds", "_law_outer_kinds", defArgs (top 27), defBody (top 27), defScope (top 27), [], []⟩) rfl
    g__law_outer_kinds := He.glo_ok X G (c.t.d.fact 8 (f := .glo "_law_outer_kinds") rfl)
    k__law_outer_kinds := He.keep_ok (c.t.d.fact 9 (f := .keep "_law_outer_kinds") rfl)
    f__law_with_messages := c.t.d.def_ 5 (d := ⟨("_law_with_messages", none), "_law_with_messages", "_law_with_messages", defArgs (top 28), defBody (top 28), defScope (top 28), [], []⟩) rfl
    g__law_with_messages := He.glo_ok X G (c.t.d.fact 10 (f := .glo "_law_with_messages") rfl)
    k__law_with_messages := He.keep_ok (c.t.d.fact 11 (f := .keep "_law_with_messages") rfl)
    f__law_one := c.t.d.def_ 6 (d := ⟨("_law_one", none), "_law_one", "_law_one", defArgs (top 24), defBody (top 24), defScope (top 24), [], []⟩) rfl
    g__law_one := He.glo_ok X G (c.t.d.fact 12 (f := .glo "_law_one") rfl)
    k__law_one := He.keep_ok (c.t.d.fact 13 (f := .keep "_law_one") rfl)
    f__law_messages_right := c.t.d.def_ 7 (d := ⟨("_law_messages_right", none), "_law_messages_right", "_law_messages_right", defArgs (top 29), defBody (top 29), defScope (top 29), [], []⟩) rfl
    g__law_messages_right := He.glo_ok X G (c.t.d.fact 14 (f := .glo "_law_messages_right") rfl)
    k__law_messages_right := He.keep_ok (c.t.d.fact 15 (f := .keep "_law_messages_right") rfl)
    f__law_values_right := c.t.d.def_ 8 (d := ⟨("_law_values_right", none), "_law_values_right", "_law_values_right", defArgs (top 30), defBody (top 30), defScope (top 30), [], []⟩) rfl
    g__law_values_right := He.glo_ok X G (c.t.d.fact 16 (f := .glo "_law_values_right") rfl)
    k__law_values_right := He.keep_ok (c.t.d.fact 17 (f := .keep "_law_values_right") rfl)
    f__law_met := c.t.d.def_ 9 (d := ⟨("_law_met", none), "_law_met", "_law_met", defArgs (top 31), defBody (top 31), defScope (top 31), [], []⟩) rfl
    g__law_met := He.glo_ok X G (c.t.d.fact 18 (f := .glo "_law_met") rfl)
    k__law_met := He.keep_ok (c.t.d.fact 19 (f := .keep "_law_met") rfl)
    f__law_some_values := c.t.d.def_ 10 (d := ⟨("_law_some_values", none), "_law_some_values", "_law_some_values", defArgs (top 32), defBody (top 32), defScope (top 32), [], []⟩) rfl
    g__law_some_values := He.glo_ok X G (c.t.d.fact 20 (f := .glo "_law_some_values") rfl)
    k__law_some_values := He.keep_ok (c.t.d.fact 21 (f := .keep "_law_some_values") rfl)
    f_law := c.t.d.def_ 11 (d := ⟨("law", none), "law", "law", defArgs (top 33), defBody (top 33), defScope (top 33), [], []⟩) rfl
    g_law := He.glo_ok X G (c.t.d.fact 22 (f := .glo "law") rfl)
    k_law := He.keep_ok (c.t.d.fact 23 (f := .keep "law") rfl)
    c_DriveError := He.glo_ok X G (c.t.d.fact 24 (f := .glo "DriveError") rfl)
    c_InvalidModulus := He.glo_ok X G (c.t.d.fact 25 (f := .glo "InvalidModulus") rfl)
    c_InvalidName := He.glo_ok X G (c.t.d.fact 26 (f := .glo "InvalidName") rfl)
    c_InvalidVector := He.glo_ok X G (c.t.d.fact 27 (f := .glo "InvalidVector") rfl)
    c_InvalidMatrix := He.glo_ok X G (c.t.d.fact 28 (f := .glo "InvalidMatrix") rfl)
    c_InvalidPart := He.glo_ok X G (c.t.d.fact 29 (f := .glo "InvalidPart") rfl)
    c_InvalidDiagram := He.glo_ok X G (c.t.d.fact 30 (f := .glo "InvalidDiagram") rfl)
    c_InvalidEnds := He.glo_ok X G (c.t.d.fact 31 (f := .glo "InvalidEnds") rfl)
    c_InvalidRecord := He.glo_ok X G (c.t.d.fact 32 (f := .glo "InvalidRecord") rfl)
    c_InvalidGenerators := He.glo_ok X G (c.t.d.fact 33 (f := .glo "InvalidGenerators") rfl)
    c_InvalidBehaviour := He.glo_ok X G (c.t.d.fact 34 (f := .glo "InvalidBehaviour") rfl)
    c_InvalidMachine := He.glo_ok X G (c.t.d.fact 35 (f := .glo "InvalidMachine") rfl)
    c_InvalidOperation := He.glo_ok X G (c.t.d.fact 36 (f := .glo "InvalidOperation") rfl)
    c_ParseError := He.glo_ok X G (c.t.d.fact 37 (f := .glo "ParseError") rfl)
    c_UnknownName := He.glo_ok X G (c.t.d.fact 38 (f := .glo "UnknownName") rfl)
    c_InvalidNumber := He.glo_ok X G (c.t.d.fact 39 (f := .glo "InvalidNumber") rfl)
    c_TooLarge := He.glo_ok X G (c.t.d.fact 40 (f := .glo "TooLarge") rfl)
    c_NotDriving := He.glo_ok X G (c.t.d.fact 41 (f := .glo "NotDriving") rfl)
    c_Impossible := He.glo_ok X G (c.t.d.fact 42 (f := .glo "Impossible") rfl)
    c_Conflict := He.glo_ok X G (c.t.d.fact 43 (f := .glo "Conflict") rfl)
    xt := XT.okB_ok (ex2_at c.more (i := 0) rfl)
    tu := ex2_at c.more (i := 1) rfl
    m_DriveError := msgB_ok (ex2_at c.more (i := 2) rfl) (He.glo_ok X G (c.t.d.fact 24 (f := .glo "DriveError") rfl))
    m_InvalidBehaviour := msgB_ok (ex2_at c.more (i := 3) rfl) (He.glo_ok X G (c.t.d.fact 34 (f := .glo "InvalidBehaviour") rfl))
    m_InvalidDiagram := msgB_ok (ex2_at c.more (i := 4) rfl) (He.glo_ok X G (c.t.d.fact 30 (f := .glo "InvalidDiagram") rfl))
    m_InvalidEnds := msgB_ok (ex2_at c.more (i := 5) rfl) (He.glo_ok X G (c.t.d.fact 31 (f := .glo "InvalidEnds") rfl))
    m_InvalidGenerators := msgB_ok (ex2_at c.more (i := 6) rfl) (He.glo_ok X G (c.t.d.fact 33 (f := .glo "InvalidGenerators") rfl))
    m_InvalidMachine := msgB_ok (ex2_at c.more (i := 7) rfl) (He.glo_ok X G (c.t.d.fact 35 (f := .glo "InvalidMachine") rfl))
    m_InvalidMatrix := msgB_ok (ex2_at c.more (i := 8) rfl) (He.glo_ok X G (c.t.d.fact 28 (f := .glo "InvalidMatrix") rfl))
    m_InvalidModulus := msgB_ok (ex2_at c.more (i := 9) rfl) (He.glo_ok X G (c.t.d.fact 25 (f := .glo "InvalidModulus") rfl))
    m_InvalidName := msgB_ok (ex2_at c.more (i := 10) rfl) (He.glo_ok X G (c.t.d.fact 26 (f := .glo "InvalidName") rfl))
    m_InvalidOperation := msgB_ok (ex2_at c.more (i := 11) rfl) (He.glo_ok X G (c.t.d.fact 36 (f := .glo "InvalidOperation") rfl))
    m_InvalidPart := msgB_ok (ex2_at c.more (i := 12) rfl) (He.glo_ok X G (c.t.d.fact 29 (f := .glo "InvalidPart") rfl))
    m_InvalidRecord := msgB_ok (ex2_at c.more (i := 13) rfl) (He.glo_ok X G (c.t.d.fact 32 (f := .glo "InvalidRecord") rfl))
    m_InvalidVector := msgB_ok (ex2_at c.more (i := 14) rfl) (He.glo_ok X G (c.t.d.fact 27 (f := .glo "InvalidVector") rfl))
    m_ParseError := msgB_ok (ex2_at c.more (i := 15) rfl) (He.glo_ok X G (c.t.d.fact 37 (f := .glo "ParseError") rfl))
    e_Conflict := fldB_ok PySem.F.excBase_LookupError PySem.F.store_LookupError (ex2_at c.more (i := 16) rfl) (He.glo_ok X G (c.t.d.fact 43 (f := .glo "Conflict") rfl))
    ini_Conflict := c.t.d.def_ 12 (d := ⟨("Conflict", some "__init__"), "__init__", "Conflict.__init__", defArgs (topM 20 0), defBody (topM 20 0), defScope (topM 20 0), [], []⟩) rfl
    e_Impossible := fldB_ok PySem.F.excBase_RuntimeError PySem.F.store_RuntimeError (ex2_at c.more (i := 17) rfl) (He.glo_ok X G (c.t.d.fact 42 (f := .glo "Impossible") rfl))
    ini_Impossible := c.t.d.def_ 13 (d := ⟨("Impossible", some "__init__"), "__init__", "Impossible.__init__", defArgs (topM 19 0), defBody (topM 19 0), defScope (topM 19 0), [], []⟩) rfl
    e_InvalidNumber := fldB_ok PySem.F.excBase_IndexError PySem.F.store_IndexError (ex2_at c.more (i := 18) rfl) (He.glo_ok X G (c.t.d.fact 39 (f := .glo "InvalidNumber") rfl))
    ini_InvalidNumber := c.t.d.def_ 14 (d := ⟨("InvalidNumber", some "__init__"), "__init__", "InvalidNumber.__init__", defArgs (topM 16 0), defBody (topM 16 0), defScope (topM 16 0), [], []⟩) rfl
    e_NotDriving := fldB_ok PySem.F.excBase_ArithmeticError PySem.F.store_ArithmeticError (ex2_at c.more (i := 19) rfl) (He.glo_ok X G (c.t.d.fact 41 (f := .glo "NotDriving") rfl))
    ini_NotDriving := c.t.d.def_ 15 (d := ⟨("NotDriving", some "__init__"), "__init__", "NotDriving.__init__", defArgs (topM 18 0), defBody (topM 18 0), defScope (topM 18 0), [], []⟩) rfl
    e_TooLarge := fldB_ok PySem.F.excBase_OverflowError PySem.F.store_OverflowError (ex2_at c.more (i := 20) rfl) (He.glo_ok X G (c.t.d.fact 40 (f := .glo "TooLarge") rfl))
    ini_TooLarge := c.t.d.def_ 16 (d := ⟨("TooLarge", some "__init__"), "__init__", "TooLarge.__init__", defArgs (topM 17 0), defBody (topM 17 0), defScope (topM 17 0), [], []⟩) rfl
    e_UnknownName := fldB_okK (ex2_at c.more (i := 21) rfl) (He.glo_ok X G (c.t.d.fact 38 (f := .glo "UnknownName") rfl))
    ini_UnknownName := c.t.d.def_ 17 (d := ⟨("UnknownName", some "__init__"), "__init__", "UnknownName.__init__", defArgs (topM 15 0), defBody (topM 15 0), defScope (topM 15 0), [], []⟩) rfl
    u_ArithmeticError := He.free_ok X G (c.t.d.fact 44 (f := .free "ArithmeticError") rfl)
    u_IndexError := He.free_ok X G (c.t.d.fact 45 (f := .free "IndexError") rfl)
    u_KeyError := He.free_ok X G (c.t.d.fact 46 (f := .free "KeyError") rfl)
    u_LookupError := He.free_ok X G (c.t.d.fact 47 (f := .free "LookupError") rfl)
    u_OverflowError := He.free_ok X G (c.t.d.fact 48 (f := .free "OverflowError") rfl)
    u_RuntimeError := He.free_ok X G (c.t.d.fact 49 (f := .free "RuntimeError") rfl)
    u_ValueError := He.free_ok X G (c.t.d.fact 50 (f := .free "ValueError") rfl)
    u_abs := He.free_ok X G (c.t.d.fact 51 (f := .free "abs") rfl)
    u_enumerate := He.free_ok X G (c.t.d.fact 52 (f := .free "enumerate") rfl)
    u_int := He.free_ok X G (c.t.d.fact 53 (f := .free "int") rfl)
    u_isinstance := He.free_ok X G (c.t.d.fact 54 (f := .free "isinstance") rfl)
    u_len := He.free_ok X G (c.t.d.fact 55 (f := .free "len") rfl)
    u_max := He.free_ok X G (c.t.d.fact 56 (f := .free "max") rfl)
    u_min := He.free_ok X G (c.t.d.fact 57 (f := .free "min") rfl)
    u_range := He.free_ok X G (c.t.d.fact 58 (f := .free "range") rfl)
    u_repr := He.free_ok X G (c.t.d.fact 59 (f := .free "repr") rfl)
end K89
open PySem PySem.W PySem.Calls PyProof.Rows
theorem K89_of (hp : ∀ ns : List Int, ns.length ≤ 63 → (∀ i ∈ ns, PySem.Builtin.Int.intBits i ≤ 1048576) → K89.F_law [.imm (.scr (ns.map DL.D.int))] = .ok (.imm (.bl true)) []) : PySem.Challenge.rw_driveends_k89_errors_by_their_classes.Holds := by
  w_on; o_law
  refine HandSHeadRun.head_any (r := OpenLaw.row PySem.Challenge.rw_driveends_k89_errors_by_their_classes) (q := view (OpenLaw.row PySem.Challenge.rw_driveends_k89_errors_by_their_classes).prog [33]) (H := K89.hk) (ob := K89.ob) (M := 6000) (loose := K89.loose) (d := HandSHeadRun.topDef (OpenLaw.row PySem.Challenge.rw_driveends_k89_errors_by_their_classes).prog 33) (kwd := []) K89.ob_eq
    (by kernel_rfl) (fun s => by kernel_rfl) K89.run (by kernel_rfl) (by kernel_rfl) (by kernel_rfl) (by rfl) (by first | assumption | decide +kernel) (by decide +kernel) ⟨rfl, rfl, rfl, rfl, rfl, by decide +kernel⟩ ?hw ?hc
  case hw => w_witness2
  case hc =>
    refine DL.walk_ofV (l := PySem.Challenge.rw_driveends_k89_errors_by_their_classes) (n := 63) (k := 4) (Fl := K89.F_law) (tf := K89.TFF) rfl (by decide) (by kernel_rfl) ⟨rfl, by decide, by decide⟩ (by kernel_rfl) ?F hp
    intro w mg fa h Y G hmg0
    obtain ⟨K, KX, c⟩ := Y
    have hmg : mg ("law" : PySem.Str) = some (.ref fa) := by
      have e : (HandSHeadRun.topDef (OpenLaw.row PySem.Challenge.rw_driveends_k89_errors_by_their_classes).prog 33).name = ("law" : PySem.Str) := by kernel_rfl
      rw [← e]
      exact hmg0
    have fx := K89.fx_of KX G c
    have e := hmg.symm.trans fx.g_law
    cases e
    exact ⟨K, KX, ⟨c.empty, c.out, c.hd⟩, fun base _ _ bx => K89.G_law fx bx⟩

set_option maxRecDepth 100000 in
set_option maxHeartbeats 0 in
theorem PySem.Challenge.cw_driveends_k89_errors_by_their_classes_holds : PySem.Challenge.rw_driveends_k89_errors_by_their_classes.Holds :=
  K89_of fun ns _ _ => K89.e_law ns
