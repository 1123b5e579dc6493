import PyProof.Rows.All
import Wide.All
import OpenK.AllK
import Wide.FinOn
import HandS.ForMost
import HandS.IsInst
import HandS.Walk
import HandS.Zip
import HandS.TupAny
import HandS.Conv
import HandS.SortInts
import HandS.Wide
import HandS.WideBits
import HandS.Flow
import HandS.TupSets
import HandS.OwnEq
import KE.GoesMore
import KE.GoesEnum
import HandS.Dict
import HandS.Style
import KE.KDictDisplayH
import PyProof.Rows.TupDisplay
import HandS.Comp
import HandS.SetFor
import HandS.Strs
import HandS.TupMul
import HandS.DictComp
import HandS.Finally
import HandS.ExcOwn
import HandS.TryMany
import HandS.WordsExc
import HandS.Deep
import HandS.ExcIs
import PyProof.ReprRoads
import HandS.SetKeys
import PyProof.P3In
import KE.LtData
import KE.KDictKeyed
import KE.KEqDict
import PyProof.DictFindH
import HandS.TupLen
import KE.SortData
import KE.KExcSuper
import HandS.Nested
import HandS.ExcInit
import HandS.ExcField
import PySem.Challenge.RW_fullorring_k83_whole_families_counted
set_option Elab.async false
set_option linter.all false
set_option maxRecDepth 100000
set_option maxHeartbeats 4000000

/-! The data layer: what a value is (D), what is owned (Od), how they lie in the abstract heap. -/
namespace DL
open PySem PySem.Spec PyProof.Rows L2

inductive D where
  | non | bl (b : Bool) | int (i : Int) | str (x : Str) | cn (n : Nat)
  | lst (xs : List D) | tup (xs : List D) | obj (c : Nat) (fs : List (Str × D)) | scr (ns : List Int)
  | dik (kvs : List (L2.Key × D)) | dit (kvs : List (List L2.Key × D))
  /-- a dict that keeps what a function of its keys tells: the function's number and what it depends on -/
  | memo (n : Nat) (ps : List (List Int))
  /-- a dict that a loop walks, or has walked -/
  | lik (kvs : List (L2.Key × D)) | lit (kvs : List (List L2.Key × D))
/-- the classes' addresses, and the functions whose values are kept -/
structure Cm where
  a : Nat → Addr
  f : Nat → List (List Int) → List L2.Key → Option D
instance : CoeFun Cm (fun _ => Nat → Addr) := ⟨Cm.a⟩
def tagL (ps : List (List Int)) : List V := ps.flatMap fun r => .non :: r.map V.int
abbrev tagM (n : Nat) (ps : List (List Int)) : HO := .xd ((("" : Str), V.int n) :: (tagL ps).map fun v => (("" : Str), v))
inductive Fd where
  | val (d : D) | lst (ds : List D) | dik (kvs : List (L2.Key × D)) | dit (kvs : List (List L2.Key × D))
inductive Od where
  | fd (x : Fd) | obj (c : Nat) (fs : List (Str × Fd)) | ll (xss : List (List D)) | pl (xs cs : List D)
def Fd.frz : Fd → D
  | .val d => d
  | .lst ds => .lst ds
  | .dik kvs => .dik kvs
  | .dit kvs => .dit kvs
def Od.frz : Od → D
  | .fd x => x.frz
  | .obj c fs => .obj c (fs.map fun q => (q.1, q.2.frz))
  | .ll xss => .lst (xss.map .lst)
  | .pl xs cs => .lst (xs ++ [.lst cs])
abbrev Env := List (Option Od)
abbrev Rg := Addr → Prop

/-- a class of one's own whose instances' fields are plainly read and stored -/
structure CFt (K : PySem.W.Frag) (C : Addr) : Prop where
  cl : Cls K C
  ha : PySem.W.findIn K (.ref C) "__class__" = some (some (.builtin "object.__class__"))
  hn : PySem.W.specialIn K (.builtin "object.__class__") "__get__" = some (some (.builtin "getset_descriptor.__get__"))
  ht : PySem.W.takesIn K (.builtin "object.__class__") = some true
  hm : PySem.W.mroIn K C (.type "object") = some true
structure COk (K : PySem.W.Frag) (C : Addr) (ns : List Str) : Prop where
  ft : CFt K C
  no : ∀ f ∈ ns, NoAttr K C f
section
variable (K : PySem.W.Frag) (cm : Cm) (F : Hp)
mutual
inductive Rp : V → D → Prop
  | non : Rp .non .non
  | bl (b : Bool) : Rp (.bl b) (.bl b)
  | int (i : Int) : Rp (.int i) (.int i)
  | str (x : Str) : Rp (.str x) (.str x)
  | cn (n : Nat) : Rp (.ref (cm n)) (.cn n)
  | lst {a : Addr} {xs : List V} {ds : List D} : F a = some (.lst xs) → RpA xs ds → Rp (.ref a) (.lst ds)
  | scr {a : Addr} {ns : List Int} : SqL K F a (ns.map V.int) → Rp (.ref a) (.scr ns)
  | tup {a : Addr} {xs : List V} {ds : List D} : F a = some (.tup xs) → RpA xs ds → Rp (.ref a) (.tup ds)
  | obj {a dx : Addr} {c : Nat} {fs : List (Str × V)} {gs : List (Str × D)} : F a = some (.ins (cm c) dx fs) → COk K (cm c) (fs.map (·.1)) → fs.map (·.1) = gs.map (·.1) → RpA (fs.map (·.2)) (gs.map (·.2)) → Rp (.ref a) (.obj c gs)
  | dik {a : Addr} {kvs : List (L2.Key × V)} {ks : List (L2.Key × D)} : F a = some (.dK kvs) → kvs.map (·.1) = ks.map (·.1) → RpA (kvs.map (·.2)) (ks.map (·.2)) → Rp (.ref a) (.dik ks)
  | dit {a : Addr} {kvs : List (List L2.Key × V)} {ks : List (List L2.Key × D)} : F a = some (.dT kvs) → kvs.map (·.1) = ks.map (·.1) → RpA (kvs.map (·.2)) (ks.map (·.2)) → Rp (.ref a) (.dit ks)
  | memo {a : Addr} {n : Nat} {ps : List (List Int)} : F a = some (tagM n ps) → Rp (.ref a) (.memo n ps)
  | lik {a : Addr} {od : Obj} {kvs : List (L2.Key × V)} {ks : List (L2.Key × D)} : F a = some (.frz od (.dK kvs)) → kvs.map (·.1) = ks.map (·.1) → RpA (kvs.map (·.2)) (ks.map (·.2)) → Rp (.ref a) (.lik ks)
  | lit {a : Addr} {od : Obj} {kvs : List (List L2.Key × V)} {ks : List (List L2.Key × D)} : F a = some (.frz od (.dT kvs)) → kvs.map (·.1) = ks.map (·.1) → RpA (kvs.map (·.2)) (ks.map (·.2)) → Rp (.ref a) (.lit ks)
inductive RpA : List V → List D → Prop
  | nil : RpA [] []
  | cons {v : V} {vs : List V} {d : D} {ds : List D} : Rp v d → RpA vs ds → RpA (v :: vs) (d :: ds)
end
end
section
variable {K : PySem.W.Frag} {cm : Cm} {F F' H H' : Hp}
mutual
theorem Rp.mono (e : Same F F') : ∀ {v : V} {d : D}, Rp K cm F v d → Rp K cm F' v d
  | _, _, .non => .non
  | _, _, .bl b => .bl b
  | _, _, .int b => .int b
  | _, _, .str b => .str b
  | _, _, .cn b => .cn b
  | _, _, .lst h r => .lst (e _ _ h) (RpA.mono e r)
  | _, _, .scr h => .scr (e.seq h)
  | _, _, .tup h r => .tup (e _ _ h) (RpA.mono e r)
  | _, _, .obj h c n r => .obj (e _ _ h) c n (RpA.mono e r)
  | _, _, .dik h n r => .dik (e _ _ h) n (RpA.mono e r)
  | _, _, .dit h n r => .dit (e _ _ h) n (RpA.mono e r)
  | _, _, .memo h => .memo (e _ _ h)
  | _, _, .lik h n r => .lik (e _ _ h) n (RpA.mono e r)
  | _, _, .lit h n r => .lit (e _ _ h) n (RpA.mono e r)
theorem RpA.mono (e : Same F F') : ∀ {vs : List V} {ds : List D}, RpA K cm F vs ds → RpA K cm F' vs ds
  | _, _, .nil => .nil
  | _, _, .cons h r => .cons (Rp.mono e h) (RpA.mono e r)
end
theorem RpA.len : ∀ {vs : List V} {ds : List D}, RpA K cm F vs ds → vs.length = ds.length
  | _, _, .nil => rfl
  | _, _, .cons h r => by rw [List.length_cons, List.length_cons, RpA.len r]
theorem RpA.app : ∀ {vs ws : List V} {ds es : List D}, RpA K cm F vs ds → RpA K cm F ws es → RpA K cm F (vs ++ ws) (ds ++ es)
  | _, _, _, _, .nil, r => r
  | _, _, _, _, .cons h t, r => .cons h (RpA.app t r)
theorem RpA.get : ∀ {vs : List V} {ds : List D} {i : Nat} {v : V}, RpA K cm F vs ds → vs[i]? = some v → ∃ d, ds[i]? = some d ∧ Rp K cm F v d
  | _, _, _, _, .nil, e => by simp at e
  | _, _, 0, _, .cons h _, e => by simp at e; subst e; exact ⟨_, rfl, h⟩
  | _, _, i + 1, v, .cons _ t, e => by
    obtain ⟨d, h1, h2⟩ := RpA.get (i := i) (v := v) t (by simpa using e)
    exact ⟨d, by simpa using h1, h2⟩
theorem RpA.getD : ∀ {vs : List V} {ds : List D} {i : Nat} {d : D}, RpA K cm F vs ds → ds[i]? = some d → ∃ v, vs[i]? = some v ∧ Rp K cm F v d
  | _, _, _, _, .nil, e => by simp at e
  | _, _, 0, _, .cons h _, e => by simp at e; subst e; exact ⟨_, rfl, h⟩
  | _, _, i + 1, d, .cons _ t, e => by
    obtain ⟨v, h1, h2⟩ := RpA.getD (i := i) (d := d) t (by simpa using e)
    exact ⟨v, by simpa using h1, h2⟩
theorem RpA.set {v : V} {d : D} (h : Rp K cm F v d) : ∀ {vs : List V} {ds : List D} (i : Nat), RpA K cm F vs ds → RpA K cm F (vs.set i v) (ds.set i d)
  | _, _, _, .nil => .nil
  | _, _, 0, .cons _ t => .cons h t
  | _, _, i + 1, .cons q t => .cons q (RpA.set h i t)
theorem RpA.erase : ∀ {vs : List V} {ds : List D} (i : Nat), RpA K cm F vs ds → RpA K cm F (vs.eraseIdx i) (ds.eraseIdx i)
  | _, _, _, .nil => .nil
  | _, _, 0, .cons _ t => t
  | _, _, i + 1, .cons q t => .cons q (RpA.erase i t)
theorem RpA.take : ∀ {vs : List V} {ds : List D} (i : Nat), RpA K cm F vs ds → RpA K cm F (vs.take i) (ds.take i)
  | _, _, 0, _ => .nil
  | _, _, i + 1, .nil => .nil
  | _, _, i + 1, .cons q t => .cons q (RpA.take i t)
theorem RpA.drop : ∀ {vs : List V} {ds : List D} (i : Nat), RpA K cm F vs ds → RpA K cm F (vs.drop i) (ds.drop i)
  | _, _, 0, r => r
  | _, _, i + 1, .nil => .nil
  | _, _, i + 1, .cons q t => RpA.drop i t
theorem RpA.rev : ∀ {vs : List V} {ds : List D}, RpA K cm F vs ds → RpA K cm F vs.reverse ds.reverse
  | _, _, .nil => .nil
  | _, _, .cons q t => by rw [List.reverse_cons, List.reverse_cons]; exact (RpA.rev t).app (.cons q .nil)
theorem RpA.ints : ∀ (ns : List Int), RpA K cm F (ns.map V.int) (ns.map D.int)
  | [] => .nil
  | n :: ns => .cons (.int n) (RpA.ints ns)
/-- all data are ints -/
def toInts : List D → Option (List Int)
  | [] => some []
  | .int i :: r => (toInts r).map (i :: ·)
  | _ => none
theorem RpA.toInts : ∀ {vs : List V} {ds : List D} {ns : List Int}, RpA K cm F vs ds → toInts ds = some ns → vs = ns.map V.int
  | _, _, _, .nil, e => by unfold DL.toInts at e; cases e; rfl
  | _, _, ns, .cons (d := d) (ds := ds) h r, e => by
    cases h <;> unfold DL.toInts at e <;> try cases e
    cases q : DL.toInts ds with
    | none => rw [q] at e; cases e
    | some ms => rw [q] at e; cases e; rw [List.map_cons, RpA.toInts r q]
def toBls : List D → Option (List Bool)
  | [] => some []
  | .bl i :: r => (toBls r).map (i :: ·)
  | _ => none
theorem RpA.toBls : ∀ {vs : List V} {ds : List D} {ns : List Bool}, RpA K cm F vs ds → toBls ds = some ns → vs = ns.map V.bl
  | _, _, _, .nil, e => by unfold DL.toBls at e; cases e; rfl
  | _, _, ns, .cons (d := d) (ds := ds) h r, e => by
    cases h <;> unfold DL.toBls at e <;> try cases e
    cases q : DL.toBls ds with
    | none => rw [q] at e; cases e
    | some ms => rw [q] at e; cases e; rw [List.map_cons, RpA.toBls r q]
end

/-! ### what is owned -/
section
variable (K : PySem.W.Frag) (cm : Cm) (F H : Hp)
inductive OwF : V → Fd → Rg → Prop
  | val {v : V} {d : D} {S : Rg} : Rp K cm F v d → OwF v (.val d) S
  | lst {p : Addr} {vs : List V} {ds : List D} {S : Rg} : H p = some (.lst vs) → RpA K cm F vs ds → S p → OwF (.ref p) (.lst ds) S
  | dik {p : Addr} {kvs : List (L2.Key × V)} {ks : List (L2.Key × D)} {S : Rg} : H p = some (.dK kvs) → kvs.map (·.1) = ks.map (·.1) → RpA K cm F (kvs.map (·.2)) (ks.map (·.2)) → S p → OwF (.ref p) (.dik ks) S
  | dit {p : Addr} {kvs : List (List L2.Key × V)} {ks : List (List L2.Key × D)} {S : Rg} : H p = some (.dT kvs) → kvs.map (·.1) = ks.map (·.1) → RpA K cm F (kvs.map (·.2)) (ks.map (·.2)) → S p → OwF (.ref p) (.dit ks) S
inductive OwFs : List (Str × V) → List (Str × Fd) → Rg → Prop
  | nil {S : Rg} : OwFs [] [] S
  | cons {n : Str} {v : V} {x : Fd} {fs : List (Str × V)} {gs : List (Str × Fd)} {S S1 S2 : Rg} : OwF K cm F H v x S1 → OwFs fs gs S2 → (∀ p, S1 p → ¬ S2 p) → (∀ p, S1 p → S p) → (∀ p, S2 p → S p) → OwFs ((n, v) :: fs) ((n, x) :: gs) S
/-- lists of one's own in a list of one's own -/
inductive LLs : List Addr → List (List D) → Rg → Prop
  | nil {S : Rg} : LLs [] [] S
  | cons {q : Addr} {vs : List V} {ds : List D} {ps : List Addr} {xss : List (List D)} {S : Rg} : H q = some (.lst vs) → RpA K cm F vs ds → S q → LLs ps xss S → LLs (q :: ps) (ds :: xss) S
inductive Ow : V → Od → Rg → Prop
  | fd {v : V} {x : Fd} {S : Rg} : OwF K cm F H v x S → Ow v (.fd x) S
  | obj {p dx : Addr} {c : Nat} {fs : List (Str × V)} {gs : List (Str × Fd)} {S S' : Rg} : H p = some (.ins (cm c) dx fs) → COk K (cm c) (fs.map (·.1)) → OwFs K cm F H fs gs S' → ¬ S' p → (∀ q, S' q → S q) → S p → Ow (.ref p) (.obj c gs) S
  | ll {p : Addr} {ps : List Addr} {xss : List (List D)} {S : Rg} : H p = some (.lst (ps.map V.ref)) → LLs K cm F H ps xss S → (p :: ps).Nodup → S p → Ow (.ref p) (.ll xss) S
  | pl {p q : Addr} {vs ws : List V} {xs cs : List D} {S : Rg} : H p = some (.lst (vs ++ [.ref q])) → RpA K cm F vs xs → H q = some (.lst ws) → RpA K cm F ws cs → p ≠ q → S p → S q → Ow (.ref p) (.pl xs cs) S
end
section
variable {K : PySem.W.Frag} {cm : Cm} {F F' H H' : Hp}
theorem OwF.mono {v : V} {x : Fd} {S S' : Rg} (h : OwF K cm F H v x S) (e : Same F F') (k : ∀ p u, H p = some u → S p → H' p = some u) (s : ∀ p, S p → S' p) : OwF K cm F' H' v x S' := by
  cases h with
  | val r => exact .val (r.mono e)
  | lst h r z => exact .lst (k _ _ h z) (r.mono e) (s _ z)
  | dik h n r z => exact .dik (k _ _ h z) n (r.mono e) (s _ z)
  | dit h n r z => exact .dit (k _ _ h z) n (r.mono e) (s _ z)
theorem OwFs.mono {fs : List (Str × V)} {gs : List (Str × Fd)} {S S' : Rg} (h : OwFs K cm F H fs gs S) (e : Same F F') (k : ∀ p u, H p = some u → S p → H' p = some u) (s : ∀ p, S p → S' p) : OwFs K cm F' H' fs gs S' := by
  induction h generalizing S' with
  | nil => exact .nil
  | cons h r d a b ih => exact .cons (h.mono e (fun p u q z => k p u q (a p z)) fun _ z => z) (ih (fun p u q z => k p u q (b p z)) fun _ z => z) d (fun p z => s p (a p z)) fun p z => s p (b p z)
theorem LLs.mono {ps : List Addr} {xss : List (List D)} {S S' : Rg} (h : LLs K cm F H ps xss S) (e : Same F F') (k : ∀ p u, H p = some u → S p → H' p = some u) (s : ∀ p, S p → S' p) : LLs K cm F' H' ps xss S' := by
  induction h with
  | nil => exact .nil
  | cons h r z t ih => exact .cons (k _ _ h z) (r.mono e) (s _ z) (ih k s)
theorem Ow.mono {v : V} {x : Od} {S S' : Rg} (h : Ow K cm F H v x S) (e : Same F F') (k : ∀ p u, H p = some u → S p → H' p = some u) (s : ∀ p, S p → S' p) : Ow K cm F' H' v x S' := by
  cases h with
  | fd r => exact .fd (r.mono e k s)
  | obj h c r n a z => exact .obj (k _ _ h z) c (r.mono e (fun p u q w => k p u q (a p w)) fun _ w => w) n (fun p w => s p (a p w)) (s _ z)
  | ll h r n z => exact .ll (k _ _ h z) (r.mono e k s) n (s _ z)
  | pl h r h2 r2 n z z2 => exact .pl (k _ _ h z) (r.mono e) (k _ _ h2 z2) (r2.mono e) n (s _ z) (s _ z2)
/-- frozen where F holds all that is owned -/
theorem OwF.frz {v : V} {x : Fd} {S : Rg} (h : OwF K cm F H v x S) (e : Same F F') (k : ∀ p u, H p = some u → S p → F' p = some u) : Rp K cm F' v x.frz := by
  cases h with
  | val r => exact r.mono e
  | lst h r z => exact .lst (k _ _ h z) (r.mono e)
  | dik h n r z => exact .dik (k _ _ h z) n (r.mono e)
  | dit h n r z => exact .dit (k _ _ h z) n (r.mono e)
theorem OwFs.names {fs : List (Str × V)} {gs : List (Str × Fd)} {S : Rg} (h : OwFs K cm F H fs gs S) : fs.map (·.1) = gs.map (·.1) := by
  induction h with
  | nil => rfl
  | cons _ _ _ _ _ ih => rw [List.map_cons, List.map_cons, ih]
theorem OwFs.frz {fs : List (Str × V)} {gs : List (Str × Fd)} {S : Rg} (h : OwFs K cm F H fs gs S) (e : Same F F') (k : ∀ p u, H p = some u → S p → F' p = some u) : RpA K cm F' (fs.map (·.2)) ((gs.map fun q => (q.1, q.2.frz)).map (·.2)) := by
  induction h with
  | nil => exact .nil
  | cons h r d a b ih => exact .cons (h.frz e fun p u q z => k p u q (a p z)) (ih fun p u q z => k p u q (b p z))
theorem LLs.frz {ps : List Addr} {xss : List (List D)} {S : Rg} (h : LLs K cm F H ps xss S) (e : Same F F') (k : ∀ p u, H p = some u → S p → F' p = some u) : RpA K cm F' (ps.map V.ref) (xss.map .lst) := by
  induction h with
  | nil => exact .nil
  | cons h r z t ih => exact .cons (.lst (k _ _ h z) (r.mono e)) (ih k)
theorem Ow.frz {v : V} {x : Od} {S : Rg} (h : Ow K cm F H v x S) (e : Same F F') (k : ∀ p u, H p = some u → S p → F' p = some u) : Rp K cm F' v x.frz := by
  cases h with
  | fd r => exact r.frz e k
  | obj h c r n a z =>
    refine .obj (k _ _ h z) c ?_ (r.frz e fun p u q w => k p u q (a p w))
    rw [r.names, List.map_map]; rfl
  | ll h r n z => exact .lst (k _ _ h z) (r.frz e k)
  | pl h r h2 r2 n z z2 => exact .lst (k _ _ h z) ((r.mono e).app (.cons (.lst (k _ _ h2 z2) (r2.mono e)) .nil))
end

/-! ### the state -/
def Un (O : Nat → Rg) : Rg := fun p => ∃ i, O i p
/-- no mark -/
def NX (u : HO) : Prop := ∀ n ps, u ≠ tagM n ps
/-- no tuple -/
def NT (u : HO) : Prop := (∀ xs, u ≠ .tup xs) ∧ NX u
abbrev HU := {u : HO // NT u}
theorem nt_l {xs : List V} : NT (.lst xs) := ⟨fun _ h => (nomatch h), fun _ _ h => (nomatch h)⟩
theorem nt_k {xs : List (L2.Key × V)} : NT (.dK xs) := ⟨fun _ h => (nomatch h), fun _ _ h => (nomatch h)⟩
theorem nt_t {xs : List (List L2.Key × V)} : NT (.dT xs) := ⟨fun _ h => (nomatch h), fun _ _ h => (nomatch h)⟩
theorem nt_i {a b : Addr} {xs : List (Str × V)} : NT (.ins a b xs) := ⟨fun _ h => (nomatch h), fun _ _ h => (nomatch h)⟩
/-- what is frozen stands in the heap; where a mark stands, something stands -/
def SmH (F H : Hp) : Prop := ∀ p u, F p = some u → (NX u → H p = some u) ∧ ∃ w, H p = some w
section
variable {F F' H H' : Hp}
theorem SmH.refl (F : Hp) : SmH F F := fun _ _ e => ⟨fun _ => e, _, e⟩
theorem SmH.at (e : SmH F H) {p : Addr} {u : HO} (h : F p = some u) (n : NX u := by first | assumption | exact fun _ _ h => nomatch h | exact And.right (by assumption)) : H p = some u := (e p u h).1 n
theorem SmH.free (e : SmH F H) {p : Addr} (h : H p = none) : F p = none := by
  cases q : F p with
  | none => rfl
  | some u =>
    obtain ⟨w, z⟩ := (e p u q).2
    rw [h] at z; cases z
theorem _root_.L2.Same.trh (e : Same F F') (k : SmH F' H) : SmH F H := fun p u h => k p u (e p u h)
theorem SmH.trans (k : SmH F H) (e : Same H H') : SmH F H' := fun p u h => ⟨fun n => e _ _ ((k p u h).1 n), let ⟨w, z⟩ := (k p u h).2; ⟨w, e _ _ z⟩⟩
theorem SmH.rd (e : SmH F H) {p : Addr} {u : HO} (h : L2.Rd F p u) (n : NX u := by first | assumption | exact fun _ _ h => nomatch h | exact And.right (by assumption)) : L2.Rd H p u := h.elim (fun h => .inl (e.at h)) fun ⟨o, h⟩ => .inr ⟨o, e.at h⟩
theorem SmH.seq {K : PySem.W.Frag} {a : Addr} {xs : List V} (e : SmH F H) (h : SqL K F a xs) : SqL K H a xs := by
  rcases h with (h | ⟨o, h⟩) | h
  · exact .inl (.inl (e.at h))
  · exact .inl (.inr ⟨o, e.at h⟩)
  · exact .inr h
theorem SmH.sqT {K : PySem.W.Frag} {a : Addr} {xs : List V} (e : SmH F H) (h : SqT K F a xs) : SqT K H a xs := by
  rcases h with (h | ⟨o, h⟩) | h
  · exact .inl (.inl (e.at h))
  · exact .inl (.inr ⟨o, e.at h⟩)
  · exact .inr h
end
theorem tupT {F H : Hp} {K : PySem.W.Frag} {a : Addr} {xs : List V} (e : SmH F H) (h : F a = some (.tup xs)) : SqT K H a xs := .of (e.at h)
/-- the dicts that keep what functions tell -/
abbrev zK : List L2.Key := [.inl 0, .inl 0]
/-- the keys of such a dict: the first one is there from the start -/
def KOk (cm : Cm) (n : Nat) (ps : List (List Int)) (ks : List (List L2.Key)) : Prop := ks.Nodup ∧ ∀ d, cm.f n ps zK = some d → zK ∈ ks
def MM (K : PySem.W.Frag) (cm : Cm) (F H : Hp) : Prop := ∀ p n ps, F p = some (tagM n ps) → ∃ kvs, H p = some (.dT kvs) ∧ KOk cm n ps (kvs.map (·.1)) ∧ ∀ q ∈ kvs, ∃ d, cm.f n ps q.1 = some d ∧ Rp K cm F q.2 d
section
variable {K : PySem.W.Frag} {cm : Cm} {F F' H H' : Hp}
theorem MM.upd {p : Addr} {o : HO} (m : MM K cm F H) (h : F p = none) : MM K cm F (upd H p o) := fun q n ps e => by
  obtain ⟨kvs, h1, h2⟩ := m q n ps e
  exact ⟨kvs, by rw [upd_ne (ne_of_none e h)]; exact h1, h2⟩
theorem MM.grow (m : MM K cm F H) (h : Same H H') : MM K cm F H' := fun q n ps e => by
  obtain ⟨kvs, h1, h2⟩ := m q n ps e
  exact ⟨kvs, h _ _ h1, h2⟩
theorem MM.ext (m : MM K cm F H) (h : Same F F') (n : ∀ p n ps, F' p = some (tagM n ps) → F p = some (tagM n ps)) : MM K cm F' H := fun q k ps e => by
  obtain ⟨kvs, h1, h2⟩ := m q k ps (n q k ps e)
  exact ⟨kvs, h1, h2.1, fun z hz => let ⟨d, e1, e2⟩ := h2.2 z hz; ⟨d, e1, e2.mono h⟩⟩
end
structure Sts (K : PySem.W.Frag) (cm : Cm) (F H : Hp) (σ : L2.St) (env : Env) (O : Nat → Rg) : Prop where
  fh : SmH F H
  len : σ.length = env.length
  at_ : ∀ i o, env[i]? = some (some o) → ∃ v, σ[i]? = some (some v) ∧ Ow K cm F H v o (O i)
  ow : ∀ i p, O i p → F p = none ∧ ∃ u : HU, H p = some u.1
  dj : ∀ i j p, O i p → O j p → i = j
  mm : MM K cm F H
structure Go (S : Rg) (F H : Hp) (S' : Rg) (F' H' : Hp) : Prop where
  ff : Same F F'
  hh : ∀ p (u : HU), H p = some u.1 → F p = none → ¬ S p → H' p = some u.1
  fr : ∀ p, F' p ≠ none → F p ≠ none ∨ H p = none ∨ S p ∨ ∃ w, H p = some w ∧ ¬ NT w
  ss : ∀ p, S' p → S p ∨ H p = none
  al : ∀ p, H p ≠ none → H' p ≠ none
section
variable {K : PySem.W.Frag} {cm : Cm} {F H F1 H1 F2 H2 : Hp} {S S1 S2 : Rg}
theorem Go.refl : Go S F H S F H := ⟨Same.refl _, fun _ _ h _ _ => h, fun _ h => .inl h, fun _ h => .inl h, fun _ h => h⟩
theorem Go.trans (a : Go S F H S1 F1 H1) (b : Go S1 F1 H1 S2 F2 H2) : Go S F H S2 F2 H2 := by
  refine ⟨a.ff.trans b.ff, fun p u h f n => ?_, fun p h => ?_, fun p h => ?_, fun p h => b.al p (a.al p h)⟩
  · refine b.hh p u (a.hh p u h f n) ?_ fun z => ?_
    · cases q : F1 p with
      | none => rfl
      | some w =>
        rcases a.fr p (by rw [q]; exact fun z => nomatch z) with z | z | z | ⟨w, z, nw⟩
        · exact absurd f z
        · rw [h] at z; cases z
        · exact absurd z n
        · rw [h] at z; exact (nw (Option.some.inj z ▸ u.2)).elim
    · rcases a.ss p z with z | z
      · exact n z
      · rw [z] at h; cases h
  · rcases b.fr p h with z | z | z | ⟨w, z, nw⟩
    · exact a.fr p z
    · refine .inr (.inl ?_)
      cases q : H p with
      | none => rfl
      | some u => exact absurd z (a.al p (by rw [q]; exact fun z => nomatch z))
    · rcases a.ss p z with z | z
      · exact .inr (.inr (.inl z))
      · exact .inr (.inl z)
    · cases q : H p with
      | none => exact .inr (.inl rfl)
      | some u =>
        by_cases hs : S p
        · exact .inr (.inr (.inl hs))
        · by_cases hf : F p = none
          · by_cases hu : NT u
            · rw [a.hh p ⟨u, hu⟩ q hf hs] at z
              exact (nw (Option.some.inj z ▸ hu)).elim
            · exact .inr (.inr (.inr ⟨u, rfl, hu⟩))
          · exact .inl hf
  · rcases b.ss p h with z | z
    · exact a.ss p z
    · refine .inr ?_
      cases q : H p with
      | none => rfl
      | some u => exact absurd z (a.al p (by rw [q]; exact fun z => nomatch z))
theorem Go.mono {T : Rg} (a : Go S F H S1 F1 H1) (h : ∀ p, S p → T p) : Go T F H S1 F1 H1 :=
  ⟨a.ff, fun p u e f n => a.hh p u e f fun z => n (h p z), fun p z => (a.fr p z).imp id (.imp id (.imp (h p) id)), fun p z => (a.ss p z).imp (h p) id, a.al⟩
theorem Go.sub {T : Rg} (a : Go S F H S1 F1 H1) (h : ∀ p, T p → S1 p) : Go S F H T F1 H1 :=
  ⟨a.ff, a.hh, a.fr, fun p z => a.ss p (h p z), a.al⟩
theorem Go.keepO (g : Go S F H S1 F1 H1) {p : Addr} {u : HO} (h : H p = some u) (w : F p = none ∧ ∃ u : HU, H p = some u.1) (n : ¬ S p) : H1 p = some u := by
  obtain ⟨f, v, e⟩ := w
  rw [h] at e
  have e := Option.some.inj e
  subst e
  exact g.hh p v h f n
theorem same_new {p : Addr} {o : HO} (h : H p = none) : Same H (upd H p o) := fun b x e => by
  rw [upd_ne (ne_of_none e h)]
  exact e
variable {σ : L2.St} {env : Env} {O : Nat → Rg}
theorem Sts.fnone (s : Sts K cm F H σ env O) {p : Addr} (h : H p = none) : F p = none := s.fh.free h
/-- a new frozen cell -/
theorem Sts.alloc (s : Sts K cm F H σ env O) {p : Addr} {o : HO} (h : H p = none) (hx : NX o := by first | assumption | exact fun _ _ h => nomatch h | exact And.right (by assumption)) : Sts K cm (upd F p o) (upd H p o) σ env O ∧ Go (Un O) F H (Un O) (upd F p o) (upd H p o) := by
  have hF := s.fnone h
  refine ⟨⟨fun b u e => ?_, s.len, fun i x e => ?_, fun i q z => ?_, s.dj, (s.mm.ext (same_new hF) fun q n ps e => by
    by_cases hb : q = p
    · subst hb; rw [upd_same] at e; exact (hx _ _ (Option.some.inj e)).elim
    · rw [upd_ne hb] at e; exact e).grow (same_new h)⟩, same_new hF, fun q u e _ _ => same_new h q u.1 e, fun q z => ?_, fun q z => .inl z, fun q z => ?_⟩
  · by_cases hb : b = p
    · subst hb; rw [upd_same] at e ⊢; exact ⟨fun _ => e, _, rfl⟩
    · rw [upd_ne hb] at e ⊢; exact s.fh _ _ e
  · obtain ⟨v, e1, ow⟩ := s.at_ i x e
    exact ⟨v, e1, ow.mono (same_new hF) (fun q u e _ => same_new h q u e) fun _ z => z⟩
  · obtain ⟨a, u, b⟩ := s.ow i q z
    have hq : q ≠ p := ne_of_none b h
    exact ⟨by rw [upd_ne hq]; exact a, u, by rw [upd_ne hq]; exact b⟩
  · by_cases hb : q = p
    · subst hb; exact .inr (.inl h)
    · rw [upd_ne hb] at z; exact .inl z
  · by_cases hb : q = p
    · subst hb; rw [upd_same]; exact fun z => nomatch z
    · rw [upd_ne hb]; exact z
/-- a new cell of one's own: in no slot yet -/
theorem Sts.fresh (s : Sts K cm F H σ env O) {p : Addr} {o : HO} (h : H p = none) : Sts K cm F (upd H p o) σ env O ∧ Go (Un O) F H (fun q => q = p ∨ Un O q) F (upd H p o) ∧ F p = none ∧ ¬ Un O p := by
  have hF := s.fnone h
  refine ⟨⟨s.fh.trans (same_new h), s.len, fun i x e => ?_, fun i q z => ?_, s.dj, s.mm.grow (same_new h)⟩, ⟨Same.refl _, fun q u e _ _ => same_new h q u.1 e, fun q z => .inl z, fun q z => ?_, fun q z => ?_⟩, hF, ?_⟩
  · obtain ⟨v, e1, ow⟩ := s.at_ i x e
    exact ⟨v, e1, ow.mono (Same.refl _) (fun q u e _ => same_new h q u e) fun _ z => z⟩
  · obtain ⟨a, u, b⟩ := s.ow i q z
    exact ⟨a, u, same_new h _ _ b⟩
  · rcases z with z | z
    · subst z; exact .inr h
    · exact .inl z
  · by_cases hb : q = p
    · subst hb; rw [upd_same]; exact fun z => nomatch z
    · rw [upd_ne hb]; exact z
  · rintro ⟨i, z⟩
    obtain ⟨_, u, b⟩ := s.ow i p z
    rw [h] at b; cases b
open Classical in
noncomputable def over (S : Rg) (H F : Hp) : Hp := fun p => if S p then H p else F p
theorem over_in {p : Addr} (h : S p) : over S H F p = H p := by unfold over; rw [if_pos h]
theorem over_out {p : Addr} (h : ¬ S p) : over S H F p = F p := by unfold over; rw [if_neg h]
/-- cells of a region are frozen -/
theorem frz_go {R : Rg} (fh : SmH F H) (m : MM K cm F H) (hR : ∀ p, R p → F p = none ∧ ∃ u : HU, H p = some u.1) (hS : ∀ p, R p → S p) :
    Same F (over R H F) ∧ SmH (over R H F) H ∧ MM K cm (over R H F) H ∧ Go S F H (fun p => S p ∧ ¬ R p) (over R H F) H := by
  have h1 : Same F (over R H F) := fun p u e => by
    by_cases z : R p
    · rw [(hR p z).1] at e; cases e
    · rw [over_out z]; exact e
  have h2 : SmH (over R H F) H := fun p u e => by
    by_cases z : R p
    · rw [over_in z] at e; exact ⟨fun _ => e, _, e⟩
    · rw [over_out z] at e; exact fh _ _ e
  have h3 : MM K cm (over R H F) H := m.ext h1 fun p n ps e => by
    by_cases z : R p
    · rw [over_in z] at e
      obtain ⟨_, u, b⟩ := hR p z
      rw [e] at b
      exact (u.2.2 _ _ (Option.some.inj b).symm).elim
    · rw [over_out z] at e; exact e
  refine ⟨h1, h2, h3, h1, fun _ _ e _ _ => e, fun p z => ?_, fun p z => .inl z.1, fun _ z => z⟩
  by_cases r : R p
  · exact .inr (.inr (.inl (hS p r)))
  · rw [over_out r] at z; exact .inl z
/-- slot i is frozen -/
theorem Sts.frz (s : Sts K cm F H σ env O) {i : Nat} {o : Od} {v : V} (e : env[i]? = some (some o)) (ev : σ[i]? = some (some v)) :
    ∃ F' O', Sts K cm F' H σ (env.set i (some (.fd (.val o.frz)))) O' ∧ Go (Un O) F H (Un O') F' H ∧ Rp K cm F' v o.frz := by
  obtain ⟨h1, h2, h3, g⟩ := frz_go (S := Un O) (R := O i) s.fh s.mm (fun p z => s.ow i p z) fun p z => ⟨i, z⟩
  obtain ⟨v', e1, ow⟩ := s.at_ i o e
  rw [ev] at e1; cases e1
  have rp : Rp K cm (over (O i) H F) v o.frz := ow.frz h1 fun p u q z => by rw [over_in z]; exact q
  refine ⟨over (O i) H F, fun j p => j ≠ i ∧ O j p, ⟨h2, by rw [List.length_set]; exact s.len, fun j x q => ?_, fun j p z => ?_, fun j k p z w => s.dj j k p z.2 w.2, h3⟩, g.sub fun p z => ?_, rp⟩
  · by_cases hj : j = i
    · subst hj
      have hlt : j < env.length := (List.getElem?_eq_some_iff.mp e).1
      rw [List.getElem?_set_self hlt] at q
      cases q
      exact ⟨v, ev, .fd (.val rp)⟩
    · rw [List.getElem?_set_ne (Ne.symm hj)] at q
      obtain ⟨u, e2, ow2⟩ := s.at_ j x q
      exact ⟨u, e2, ow2.mono h1 (fun _ _ q _ => q) fun p z => ⟨hj, z⟩⟩
  · have n : ¬ O i p := fun w => z.1 (s.dj _ _ _ z.2 w)
    rw [over_out n]; exact s.ow j p z.2
  · obtain ⟨j, hj, z⟩ := z
    exact ⟨⟨j, z⟩, fun w => hj (s.dj _ _ _ z w)⟩
/-- slot i gets a value -/
theorem Sts.setv (s : Sts K cm F H σ env O) {i : Nat} {v : V} {d : D} (hi : i < env.length) (r : Rp K cm F v d) :
    Sts K cm F H (σ.set i (some v)) (env.set i (some (.fd (.val d)))) O := by
  refine ⟨s.fh, by rw [List.length_set, List.length_set]; exact s.len, fun j x q => ?_, s.ow, s.dj, s.mm⟩
  by_cases hj : j = i
  · subst hj
    rw [List.getElem?_set_self hi] at q
    cases q
    exact ⟨v, by rw [List.getElem?_set_self (by rw [s.len]; exact hi)], .fd (.val r)⟩
  · rw [List.getElem?_set_ne (Ne.symm hj)] at q ⊢
    exact s.at_ j x q
/-- slot i gets what is owned -/
theorem Sts.seto (s : Sts K cm F H σ env O) {i : Nat} {v : V} {o : Od} {R : Rg} (hi : i < env.length) (r : Ow K cm F H v o R) (hR : ∀ p, R p → F p = none ∧ (∃ u : HU, H p = some u.1) ∧ ¬ Un O p) :
    ∃ O', Sts K cm F H (σ.set i (some v)) (env.set i (some o)) O' ∧ ∀ p, Un O' p → R p ∨ Un O p := by
  refine ⟨fun j p => (j = i ∧ R p) ∨ (j ≠ i ∧ O j p), ⟨s.fh, by rw [List.length_set, List.length_set]; exact s.len, fun j x q => ?_, fun j p z => ?_, fun j k p z w => ?_, s.mm⟩, fun p ⟨j, z⟩ => ?_⟩
  · by_cases hj : j = i
    · subst hj
      rw [List.getElem?_set_self hi] at q
      cases q
      exact ⟨v, by rw [List.getElem?_set_self (by rw [s.len]; exact hi)], r.mono (Same.refl _) (fun _ _ q _ => q) fun p z => .inl ⟨rfl, z⟩⟩
    · rw [List.getElem?_set_ne (Ne.symm hj)] at q ⊢
      obtain ⟨u, e2, ow2⟩ := s.at_ j x q
      exact ⟨u, e2, ow2.mono (Same.refl _) (fun _ _ q _ => q) fun p z => .inr ⟨hj, z⟩⟩
  · rcases z with ⟨_, z⟩ | ⟨_, z⟩
    · exact ⟨(hR p z).1, (hR p z).2.1⟩
    · exact s.ow j p z
  · rcases z with ⟨z0, z⟩ | ⟨z0, z⟩ <;> rcases w with ⟨w0, w⟩ | ⟨w0, w⟩
    · rw [z0, w0]
    · exact absurd ⟨k, w⟩ (hR p z).2.2
    · exact absurd ⟨j, z⟩ (hR p w).2.2
    · exact s.dj _ _ _ z w
  · rcases z with ⟨_, z⟩ | ⟨_, z⟩
    · exact .inl z
    · exact .inr ⟨j, z⟩
/-- what slot i owns is changed at p -/
theorem Sts.write (s : Sts K cm F H σ env O) {i : Nat} {o o' : Od} {v : V} {p : Addr} {u : HO} (e : env[i]? = some (some o)) (ev : σ[i]? = some (some v)) (hp : O i p) (r : Ow K cm F (upd H p u) v o' (O i)) (hn : NT u := by first | exact nt_l | exact nt_k | exact nt_t | exact nt_i) :
    Sts K cm F (upd H p u) σ (env.set i (some o')) O ∧ Go (Un O) F H (Un O) F (upd H p u) := by
  have hF := (s.ow i p hp).1
  have hlt : i < env.length := (List.getElem?_eq_some_iff.mp e).1
  refine ⟨⟨fun q w z => ?_, by rw [List.length_set]; exact s.len, fun j x q => ?_, fun j q z => ?_, s.dj, s.mm.upd hF⟩, Same.refl _, fun q w z _ n => ?_, fun q z => .inl z, fun q z => .inl z, fun q z => ?_⟩
  · rw [upd_ne (ne_of_none z hF)]; exact s.fh _ _ z
  · by_cases hj : j = i
    · subst hj
      rw [List.getElem?_set_self hlt] at q
      cases q
      exact ⟨v, ev, r⟩
    · rw [List.getElem?_set_ne (Ne.symm hj)] at q
      obtain ⟨w, e2, ow2⟩ := s.at_ j x q
      refine ⟨w, e2, ow2.mono (Same.refl _) (fun q y e z => ?_) fun _ z => z⟩
      rw [upd_ne (show q ≠ p from fun h => hj (s.dj j i q z (by rw [h]; exact hp)))]; exact e
  · obtain ⟨a, w, c⟩ := s.ow j q z
    by_cases hq : q = p
    · subst hq; exact ⟨a, ⟨u, hn⟩, upd_same⟩
    · exact ⟨a, w, by rw [upd_ne hq]; exact c⟩
  · rw [upd_ne (show q ≠ p from fun h => n ⟨i, by rw [h]; exact hp⟩)]; exact z
  · by_cases hq : q = p
    · subst hq; rw [upd_same]; exact fun z => nomatch z
    · rw [upd_ne hq]; exact z
end
end DL

/-! enumerate of a tuple. -/
namespace PySem
open Sem (wp)
open AutoSeq1 (wpAny_loadPart')
theorem meets_enumerate_newT (l : Addr) (items : Array Value) (n : Nat) (dct : Option Addr) (sl : Array (Option Value)) :
    Meets (Builtin.«enumerate.__new__» ⟨[.type "enumerate", .ref l], []⟩) (fun _ R s => s.heap.get? l = some { cls := .type "tuple", dict := dct, data := .seq items n, slots := sl } ∧
      R (.ok (.ret (.ref (s.heap.push { cls := .type "tuple_iterator", data := .fields #[.ref l, .int 0 0] }).objs.size)))
        { s with heap := (s.heap.push { cls := .type "tuple_iterator", data := .fields #[.ref l, .int 0 0] }).push { cls := .type "enumerate", data := .fields #[.none, .bool false, .ref s.heap.objs.size, rawInt 0, .none, .none] } }) :=
  .of_wp fun prog w A R s h => by
    obtain ⟨hp, g, d, tk, os⟩ := s; obtain ⟨hl, h⟩ := h
    have hsub := sub_enumerate
    have hL : Heap.IsTuple (Shared.heap ⟨hp, g, d, tk, os⟩) l items := ⟨_, hl, rfl, n, rfl⟩
    wp_walk using wpAny_loadPart' hl
    refine wpAny_stack_any fun st => wpAny_pure ?_
    split
    · rename_i c _ _ _ _ _
      cases (c == Value.type "enumerate")
      · wp_walk using wpAny_loadPart' hl, wpAny_pyIter_tuple hL
        exact ⟨_, rfl, h⟩
      · wp_walk using wpAny_loadPart' hl, wpAny_pyIter_tuple hL
        exact ⟨_, rfl, h⟩
    · wp_walk using wpAny_loadPart' hl, wpAny_pyIter_tuple hL
      exact ⟨_, rfl, h⟩
section
variable {prog : Program} {w : World} {A : Around} {E : Value → Shared → Prop} {s : Shared}
theorem call_enumerate_tuple {l : Addr} {items : Array Value} {Q : Value → Shared → Prop} (hL : s.heap.IsTuple l items)
    (h : ∀ h', IsEnum h' (s.heap.objs.size + 1) s.heap.objs.size 0 .none → h'.IsTupleIter s.heap.objs.size l 0 → h'.objs.size = s.heap.objs.size + 2 →
      (∀ b o, s.heap.get? b = some o → h'.get? b = some o) → Q (.ref (s.heap.objs.size + 1)) { s with heap := h' }) :
    wpAny (model prog w) A (call (.type "enumerate") [.ref l]) Q E s := by
  obtain ⟨⟨c, dct, dt, sl⟩, hl, hc, n, hd⟩ := hL
  replace hc : c = .type "tuple" := hc
  replace hd : dt = .seq items n := hd
  subst hc hd
  refine callType_new F.called_enumerate (by decide) (F.typeCall_enumerate_1 _) (F.newCall_enumerate_1 _) (fun obj => F.args_object_init_2 obj _) F.entry_enumerate_new
    (meets_enumerate_newT l items n dct sl) ⟨hl, ?_⟩
  have hz : (s.heap.push { cls := .type "tuple_iterator", data := .fields #[.ref l, .int 0 0] }).objs.size = s.heap.objs.size + 1 := Heap.size_push ..
  show _ ∧ _
  rw [hz]
  have he : IsEnum ((s.heap.push { cls := .type "tuple_iterator", data := .fields #[.ref l, .int 0 0] }).push
      { cls := .type "enumerate", data := .fields #[.none, .bool false, .ref s.heap.objs.size, rawInt 0, .none, .none] }) (s.heap.objs.size + 1) s.heap.objs.size 0 .none := by
    have := Heap.get?_push_size (s.heap.push { cls := .type "tuple_iterator", data := .fields #[.ref l, .int 0 0] })
      (o := { cls := .type "enumerate", data := .fields #[.none, .bool false, .ref s.heap.objs.size, rawInt 0, .none, .none] }) rfl
    rw [hz] at this; exact this
  refine ⟨⟨_, he, rfl⟩, h _ he ⟨_, Heap.get?_push_of_some _ (Heap.get?_push_size _ rfl), rfl, rfl⟩ (by rw [Heap.size_push, hz]) fun b o x => Heap.get?_push_of_some _ (Heap.get?_push_of_some _ x)⟩
end
end PySem
namespace DL
open PySem PySem.Spec PyProof.Rows L2
def IteT (K : PySem.W.Frag) (a : Addr) : It :=
  ⟨fun i H => ∃ (xs : List V) (x : V), SqT K H a xs ∧ xs[i]? = some x, fun i H v H' => ∃ T x, v = .ref T ∧ H T = none ∧ H' = upd H T (.tup [.int (i : Nat), x]) ∧ ∀ xs, SqT K H a xs → xs[i]? = some x, fun i H => ∃ xs : List V, SqT K H a xs ∧ xs.length = i⟩

theorem cls_ne {h : Heap} {a b : Addr} {o u : Obj} (ha : h.get? a = some o) (hb : h.get? b = some u) (d : o.cls ≠ u.cls) : a ≠ b := by
  intro e; subst e; rw [ha] at hb; cases hb; exact d rfl
theorem turn_enumT {P : Program} {w : World} {K : PySem.W.Frag} {elts : List Expr} {kk : Nat} {tpos : Pos} (a e it : Addr) :
    Turn P w K (.Tuple elts kk tpos) (IteT K a) [e, it] e (fun i h => (∃ old, IsEnum h e it ((i : Nat) : Int) old) ∧ h.IsTupleIter it a i ∧ e ≠ it) where
  mem := by simp
  obj := fun i h st b hb => by
    obtain ⟨⟨old, he⟩, ⟨o, ho, hc, hd⟩, _⟩ := st
    have e' : b = e ∨ b = it := by simpa using hb
    rcases e' with z | z
    · rw [z]; exact ⟨_, he, fun v q => nomatch q⟩
    · rw [z]; exact ⟨o, ho, fun v q => by rw [hd] at q; cases q⟩
  keep := fun i h h' st k => let ⟨⟨old, he⟩, hi, hne⟩ := st; ⟨⟨old, k e (by simp) _ he⟩, hi.at fun o q => k it (by simp) o q, hne⟩
  item := by
    intro X hP hw hK hc i pins s σ H E I hf st hg
    subst hP hw hK
    obtain ⟨⟨old, he⟩, hit, hne⟩ := st
    obtain ⟨xs, x, hq, hx⟩ := hg
    obtain ⟨its, rv, ht, hz⟩ := I.tuple hq
    obtain ⟨u, hu, ru⟩ := rv.get hx
    have hel : e < s.heap.objs.size := Heap.lt_size he
    have hil : it < s.heap.objs.size := by obtain ⟨_, q, _⟩ := hit; exact Heap.lt_size q
    have hiT : s.heap.IsTuple a its.toArray := ht
    have hai : a ≠ it := by
      obtain ⟨o1, q1, c1, _⟩ := hiT
      obtain ⟨o2, q2, c2, _⟩ := hit
      exact cls_ne q1 q2 (by rw [c1, c2]; decide)
    have hae : e ≠ a := by
      obtain ⟨o1, q1, c1, _⟩ := hiT
      exact fun z => cls_ne q1 he (by rw [c1]; exact fun w => nomatch (Value.type.inj w : ("tuple" : String) = "enumerate") ) z.symm
    have D := Draws.tuple (prog := X.prog) (w := X.w) (A := X.A.in1) (show X.A.in1.handled = none from I.ok.hd hc) it a hai its.toArray
    refine wpAny_pyNext_enum_itemD D he ⟨hit, hiT⟩ (by simp; exact (List.getElem?_eq_some_iff.mp hu).1) hne (by simp [hne, hae]) fun y h' tk hy ho hst' hT hsz hk => ?_
    have ey : y = u := by
      have : its[i]? = some y := by simpa using hy
      rw [hu] at this; exact (Option.some.inj this).symm
    subst ey
    refine ⟨_, rfl, wpAny_letOwnedTupleGo_enum (s := { s with heap := h', toks := tk + 1 }) ho fun h'' he' sb => ?_⟩
    have hT2 : h''.get? s.heap.objs.size = some { cls := .type "tuple", data := .seq #[.int i tk, y] } := (sb.2 _ (Nat.ne_of_gt hel)).trans hT
    have new : ObjOk X.prog X.w (upd H s.heap.objs.size (.tup [.int (i : Nat), x])) h'' s.heap.objs.size (.tup [.int (i : Nat), x]) :=
      ⟨by show 2 ≤ sizeLine; decide, [.int i tk, y], .cons ⟨_, rfl⟩ (.cons ru .nil), ⟨_, hT2, rfl, _, rfl⟩⟩
    have I1 : Inv X pins σ (upd H s.heap.objs.size (.tup [.int (i : Nat), x])) { s with heap := h'', toks := tk + 1 } :=
      I.turnedNew (ch := [e, it]) (fun b ob hb q => (sb.2 b (fun z => hb (by simp [z]))).trans (hk b ob (fun z => hb (by simp [z])) (fun z => hb (by simp [z])) q)) hf (Nat.le_refl _) new
    refine ⟨.ref s.heap.objs.size, _, I1, rfl, ⟨_, x, rfl, I.hok.fresh (Nat.le_refl _), rfl, fun ys hy => by rw [I.tuple_inj hy hq]; exact hx⟩, ⟨⟨y, ?_⟩, hst'.1.at fun o q => (sb.2 it (Ne.symm hne)).trans q, hne⟩, fun b hb => ?_⟩
    · have e1 : ((i + 1 : Nat) : Int) = (i : Int) + 1 := by omega
      rw [e1]; exact he'
    · have hb' : b < s.heap.objs.size := by
        have e' : b = e ∨ b = it := by simpa using hb
        rcases e' with z | z
        · rw [z]; exact hel
        · rw [z]; exact hil
      rw [upd_ne (Nat.ne_of_lt hb')]
      exact (hf b hb).1
  done := by
    intro X hP hw hK hc i pins s σ H E I hf st hg
    subst hP hw hK
    obtain ⟨⟨old, he⟩, hit, hne⟩ := st
    obtain ⟨xs, hq, hx⟩ := hg
    obtain ⟨its, rv, ht, hz⟩ := I.tuple hq
    obtain ⟨f0, f1, f2, f3, f4, f5⟩ := hf it (by simp)
    have hl := rv.length
    have hiT : s.heap.IsTuple a its.toArray := ht
    have hai : a ≠ it := by
      obtain ⟨o1, q1, c1, _⟩ := hiT
      obtain ⟨o2, q2, c2, _⟩ := hit
      exact cls_ne q1 q2 (by rw [c1, c2]; decide)
    have D := Draws.tuple (prog := X.prog) (w := X.w) (A := X.A.in1) (show X.A.in1.handled = none from I.ok.hd hc) it a hai its.toArray
    have ez : its.toArray.size = i := by simp; omega
    exact wpAny_pyNext_enum_endD D he ⟨by rw [ez]; exact hit, hiT⟩ fun h' eb => ⟨rfl, I.turned (t' := s.toks) (fun b o hb q => eb b o hb q) f0 f1 f3 f4 f5⟩
  self := fun A i s Q E st h => let ⟨⟨_, he⟩, _⟩ := st; wpAny_pyIter_enum he h

theorem walk_enumT {K : PySem.W.Frag} {a : Addr} {xs : List V} : Walk (IteT K a) xs.length (fun H => SqT K H a xs) (YPair (fun i => some (.int (i : Nat))) (fun i => xs[i]?)) :=
  ⟨fun i H hi h => ⟨xs, xs[i], h, List.getElem?_eq_getElem hi⟩, fun H h => ⟨xs, h, rfl⟩, fun i H x H' hi h y => by
    obtain ⟨T, z, e1, e2, e3, e4⟩ := y
    exact ⟨T, _, z, e1, e2, e3, rfl, e4 xs h⟩⟩
end DL

/-! The data layer: judgements, names, constants, operators, comparisons, tests, displays, subscripts. -/
namespace DL
open PySem PySem.Spec PyProof.Rows L2

/-- a run over the slots: none where it is not told what comes -/
abbrev M (α : Type) := Env → Option (α × Env)
def mr {α : Type} (a : α) : M α := fun env => some (a, env)
def mo {α : Type} (a : Option α) : M α := fun env => a.map fun x => (x, env)
def mb {α β : Type} (f : M α) (g : α → M β) : M β := fun env => (f env).bind fun q => g q.1 q.2
theorem mb_some {α β : Type} {f : M α} {g : α → M β} {env : Env} {r : β × Env} (h : mb f g env = some r) : ∃ a env1, f env = some (a, env1) ∧ g a env1 = some r := by
  unfold mb at h
  cases e : f env with
  | none => rw [e] at h; cases h
  | some q => rw [e] at h; exact ⟨q.1, q.2, rfl, h⟩
theorem mo_some {α : Type} {a : Option α} {env : Env} {r : α × Env} (h : mo a env = some r) : a = some r.1 ∧ r.2 = env := by
  unfold mo at h
  cases e : a with
  | none => rw [e] at h; cases h
  | some q => rw [e] at h; cases h; exact ⟨rfl, rfl⟩

section
variable (K : PySem.W.Frag) (cm : Cm) (F H : Hp) (σ : L2.St) (O : Nat → Rg)
/-- what is wanted of a value that comes of the state F H O, the slots then env -/
def Kv (env : Env) (d : D) (Q : VK) : Prop := ∀ F' H' v O', Go (Un O) F H (Un O') F' H' → Sts K cm F' H' σ env O' → Rp K cm F' v d → Q v H'
def Kt (env : Env) (b : Bool) (Q : Bool → Hp → Prop) : Prop := ∀ F' H' O', Go (Un O) F H (Un O') F' H' → Sts K cm F' H' σ env O' → Q b H'
/-- a region apart from the slots' -/
def New (F H : Hp) (O : Nat → Rg) (R : Rg) : Prop := ∀ p, R p → F p = none ∧ (∃ u : HU, H p = some u.1) ∧ ¬ Un O p
def Ko (env : Env) (o : Od) (Q : VK) : Prop := ∀ F' H' v O' R, Go (Un O) F H (fun p => R p ∨ Un O' p) F' H' → Sts K cm F' H' σ env O' → Ow K cm F' H' v o R → New F' H' O' R → Q v H'
end
section
variable {K : PySem.W.Frag} {cm : Cm} {F H F1 H1 : Hp} {σ : L2.St} {O O1 : Nat → Rg} {env : Env} {d : D} {o : Od} {Q : VK}
theorem Kv.go (k : Kv K cm F H σ O env d Q) (g : Go (Un O) F H (Un O1) F1 H1) : Kv K cm F1 H1 σ O1 env d Q := fun F' H' v O' g' s r => k F' H' v O' (g.trans g') s r
theorem Kt.go {b : Bool} {Q : Bool → Hp → Prop} (k : Kt K cm F H σ O env b Q) (g : Go (Un O) F H (Un O1) F1 H1) : Kt K cm F1 H1 σ O1 env b Q := fun F' H' O' g' s => k F' H' O' (g.trans g') s
theorem Ko.go (k : Ko K cm F H σ O env o Q) (g : Go (Un O) F H (Un O1) F1 H1) : Ko K cm F1 H1 σ O1 env o Q := fun F' H' v O' R g' s r n => k F' H' v O' R (g.trans g') s r n
theorem Kv.here (k : Kv K cm F H σ O env d Q) (s : Sts K cm F H σ env O) {v : V} (r : Rp K cm F v d) : Q v H := k F H v O Go.refl s r
theorem Kt.here {b : Bool} {Q : Bool → Hp → Prop} (k : Kt K cm F H σ O env b Q) (s : Sts K cm F H σ env O) : Q b H := k F H O Go.refl s
/-- a new frozen cell as the value -/
theorem Kv.alloc (k : Kv K cm F H σ O env d Q) (s : Sts K cm F H σ env O) {p : Addr} {u : HO} (h : H p = none) (r : ∀ F', Same F F' → F' p = some u → Rp K cm F' (.ref p) d) (hx : NX u := by first | assumption | exact fun _ _ h => nomatch h | exact And.right (by assumption)) : Q (.ref p) (upd H p u) := by
  obtain ⟨s1, g1⟩ := s.alloc (o := u) h hx
  exact k _ _ _ O g1 s1 (r _ (same_new (s.fnone h)) upd_same)
theorem Ko.fresh {ds : List D} (k : Ko K cm F H σ O env (.fd (.lst ds)) Q) (s : Sts K cm F H σ env O) {p : Addr} {vs : List V} (h : H p = none) (r : RpA K cm F vs ds) : Q (.ref p) (upd H p (.lst vs)) := by
  obtain ⟨s1, g1, n1, n2⟩ := s.fresh (o := .lst vs) h
  refine k _ _ _ O (fun q => q = p) g1 s1 (.fd (.lst upd_same r rfl)) fun q e => ?_
  subst e
  exact ⟨n1, ⟨⟨_, nt_l⟩, upd_same⟩, n2⟩
/-- what is new is frozen -/
theorem Kv.frz (k : Kv K cm F H σ O env o.frz Q) : Ko K cm F H σ O env o Q := fun F' H' v O' R g s r n => by
  obtain ⟨h1, h2, h3, g2⟩ := frz_go (S := fun p => R p ∨ Un O' p) (R := R) s.fh s.mm (fun p z => ⟨(n p z).1, (n p z).2.1⟩) fun p z => .inl z
  refine k (over R H' F') H' v O' ((g.trans g2).sub fun p z => ⟨.inr z, fun w => (n p w).2.2 z⟩) ⟨h2, s.len, fun i x e => ?_, fun i p z => ?_, s.dj, h3⟩ (r.frz h1 fun p u q z => by rw [over_in z]; exact q)
  · obtain ⟨u, e1, ow⟩ := s.at_ i x e
    exact ⟨u, e1, ow.mono h1 (fun _ _ q _ => q) fun _ z => z⟩
  · rw [over_out fun w => (n p w).2.2 ⟨i, z⟩]
    exact s.ow i p z
theorem Kv.of (k : Ko K cm F H σ O env (.fd (.val d)) Q) : Kv K cm F H σ O env d Q := fun F' H' v O' g s r =>
  k F' H' v O' (fun _ => False) (g.sub fun p z => z.elim False.elim id) s (.fd (.val r)) fun p z => z.elim
end

/-! ### the judgements -/
def Sm (K : PySem.W.Frag) (cm : Cm) (te : TE) (f : M D) : Prop := ∀ F H σ env O d env' Q, Sts K cm F H σ env O → f env = some (d, env') → Kv K cm F H σ O env' d Q → te σ H Q
def SmO (K : PySem.W.Frag) (cm : Cm) (te : TE) (f : M Od) : Prop := ∀ F H σ env O d env' Q, Sts K cm F H σ env O → f env = some (d, env') → Ko K cm F H σ O env' d Q → te σ H Q
def SmT (K : PySem.W.Frag) (cm : Cm) (te : TT) (f : M Bool) : Prop := ∀ F H σ env O d env' Q, Sts K cm F H σ env O → f env = some (d, env') → Kt K cm F H σ O env' d Q → te σ H Q
def SmA (K : PySem.W.Frag) (cm : Cm) (te : TA) (f : M (List D)) : Prop := ∀ F H σ env O ds env' Q, Sts K cm F H σ env O → f env = some (ds, env') →
  (∀ F' H' vs O', Go (Un O) F H (Un O') F' H' → Sts K cm F' H' σ env' O' → RpA K cm F' vs ds → Q vs H') → te σ H Q
structure DE (X : Cx) (cm : Cm) (e : Expr) (te : TE) (f : M D) : Prop where
  pe : PE X e te
  sm : Sm X.K cm te f
structure DO (X : Cx) (cm : Cm) (e : Expr) (te : TE) (f : M Od) : Prop where
  pe : PE X e te
  sm : SmO X.K cm te f
structure DT (X : Cx) (cm : Cm) (e : Expr) (te : TT) (f : M Bool) : Prop where
  pe : PT X e te
  sm : SmT X.K cm te f
structure DW (X : Cx) (cm : Cm) (e : Expr) (te : TT) (f : M Bool) : Prop where
  pe : PW X e te
  sm : SmT X.K cm te f
structure DA (X : Cx) (cm : Cm) (es : List Expr) (te : TA) (f : M (List D)) : Prop where
  pe : PA X es te
  sm : SmA X.K cm te f
def fz (f : M Od) : M D := fun env => (f env).map fun q => (q.1.frz, q.2)
def ov (f : M D) : M Od := fun env => (f env).map fun q => (.fd (.val q.1), q.2)
section
variable {X : Cx} {cm : Cm} {e a b c : Expr} {es : List Expr} {te ta tb tc : TE} {pos : Pos} {f g fa fb fc : M D}
theorem map_some {α β : Type} {o : Option α} {g : α → β} {r : β} (h : o.map g = some r) : ∃ a, o = some a ∧ g a = r := by
  cases o with
  | none => cases h
  | some a => cases h; exact ⟨a, rfl, rfl⟩
theorem Sm.of {te : TE} {f : M Od} (h : SmO X.K cm te f) : Sm X.K cm te (fz f) := fun F H σ env O d env' Q s e k => by
  obtain ⟨⟨o, env1⟩, e1, e2⟩ := map_some e
  cases e2
  exact h F H σ env O o _ Q s e1 k.frz
theorem SmO.of {te : TE} {f : M D} (h : Sm X.K cm te f) : SmO X.K cm te (ov f) := fun F H σ env O d env' Q s e k => by
  obtain ⟨⟨o, env1⟩, e1, e2⟩ := map_some e
  cases e2
  exact h F H σ env O o _ Q s e1 (Kv.of k)
theorem de_o {f : M Od} (h : DO X cm e te f) : DE X cm e te (fz f) := ⟨h.pe, .of h.sm⟩
theorem do_e (h : DE X cm e te f) : DO X cm e te (ov f) := ⟨h.pe, .of h.sm⟩

/-! ### names, constants -/
/-- slot i as a value: what is owned there is frozen -/
def rd (i : Nat) : M D := fun env => match env[i]? with
  | some (some o) => some (o.frz, env.set i (some (.fd (.val o.frz))))
  | _ => none
theorem dv (i : Nat) {x : Str} (hN : X.N[i]? = some x := by rfl) (hv : Vis X.env.scope x := by first | exact Or.inl rfl | exact Or.inr (Or.inl rfl) | exact Or.inr (Or.inr rfl)) (hd : (x == ("__debug__" : Str)) = false := by decide)
    (hcd : (x == ("__classdict__" : Str)) = false := by decide) : DE X cm (.Name x pos) (tVar i) (rd i) := by
  refine ⟨pe_var hN hv hd hcd, fun F H σ env O d env' Q s e k => ?_⟩
  unfold rd at e
  split at e
  · rename_i o q
    cases e
    obtain ⟨v, ev, ow⟩ := s.at_ i o q
    obtain ⟨F', O', s', g', r⟩ := s.frz q ev
    exact ⟨v, ev, k F' H v O' g' s' r⟩
  · cases e
/-- slot i handed out as it is: the name is not used any more -/
def mv (i : Nat) : M Od := fun env => match env[i]? with
  | some (some o) => some (o, env.set i none)
  | _ => none
theorem do_mv (i : Nat) {x : Str} (hN : X.N[i]? = some x := by rfl) (hv : Vis X.env.scope x := by first | exact Or.inl rfl | exact Or.inr (Or.inl rfl) | exact Or.inr (Or.inr rfl)) (hd : (x == ("__debug__" : Str)) = false := by decide)
    (hcd : (x == ("__classdict__" : Str)) = false := by decide) : DO X cm (.Name x pos) (tVar i) (mv i) := by
  refine ⟨pe_var hN hv hd hcd, fun F H σ env O d env' Q s e k => ?_⟩
  unfold mv at e
  split at e
  · rename_i o q
    obtain ⟨rfl, rfl⟩ := Prod.mk.inj (Option.some.inj e)
    obtain ⟨v, ev, ow⟩ := s.at_ i o q
    refine ⟨v, ev, k F H v (fun j p => j ≠ i ∧ O j p) (O i) (Go.refl.sub fun p z => ?_) ⟨s.fh, by rw [List.length_set]; exact s.len, fun j x z => ?_, fun j p z => s.ow j p z.2, fun j l p z w => s.dj j l p z.2 w.2, s.mm⟩ ow fun p z => ⟨(s.ow i p z).1, (s.ow i p z).2, fun ⟨j, hj, w⟩ => hj (s.dj _ _ _ w z)⟩⟩
    · rcases z with z | ⟨j, _, z⟩
      · exact ⟨i, z⟩
      · exact ⟨j, z⟩
    · have hj : j ≠ i := fun h => by
        subst h
        have hl : j < env.length := (List.getElem?_eq_some_iff.mp q).1
        rw [List.getElem?_set_self hl] at z; cases z
      rw [List.getElem?_set_ne (Ne.symm hj)] at z
      obtain ⟨u, e2, ow2⟩ := s.at_ j x z
      exact ⟨u, e2, ow2.mono (Same.refl _) (fun _ _ q _ => q) fun p z => ⟨hj, z⟩⟩
  · cases e
/-! ### operators -/
def SmR2 (K : PySem.W.Frag) (cm : Cm) (r : R2) (g : D → D → Option D) : Prop := ∀ F H σ env O x y a b d Q, Sts K cm F H σ env O → Rp K cm F x a → Rp K cm F y b → g a b = some d → Kv K cm F H σ O env d Q → r x y H Q
def m2 (g : D → D → Option D) (fa fb : M D) : M D := mb fa fun x => mb fb fun y => mo (g x y)
def m1 (g : D → Option D) (fa : M D) : M D := mb fa fun x => mo (g x)
theorem sm_op2 {r : R2} {g : D → D → Option D} (hr : SmR2 X.K cm r g) (ha : Sm X.K cm ta fa) (hb : Sm X.K cm tb fb) : Sm X.K cm (tOp r ta tb) (m2 g fa fb) := fun F H σ env O d env' Q s e k => by
  obtain ⟨x, env1, e1, e⟩ := mb_some e
  obtain ⟨y, env2, e2, e⟩ := mb_some e
  obtain ⟨e3, e4⟩ := mo_some e
  dsimp only at e3 e4
  subst e4
  refine ha F H σ env O x env1 _ s e1 fun F1 H1 v O1 g1 s1 r1 => ?_
  refine hb F1 H1 σ env1 O1 y _ _ s1 e2 fun F2 H2 w O2 g2 s2 r2 => ?_
  exact hr F2 H2 σ _ O2 v w x y d Q s2 (r1.mono g2.ff) r2 e3 (k.go (g1.trans g2))
theorem de_op {op : Operator} {r : R2} {g : D → D → Option D} (ho : OpR X (binaryOp op) r) (hr : SmR2 X.K cm r g) (ha : DE X cm a ta fa) (hb : DE X cm b tb fb) : DE X cm (.BinOp a op b pos) (tOp r ta tb) (m2 g fa fb) := ⟨pe_op ho ha.pe hb.pe, sm_op2 hr ha.sm hb.sm⟩
theorem de_cmp {op : CmpOp} {r : R2} {g : D → D → Option D} (ho : OpR X (compareOp op) r) (hr : SmR2 X.K cm r g) (ha : DE X cm a ta fa) (hb : DE X cm b tb fb) (hm : behindInMarks op b = false) : DE X cm (.Compare a [op] [b] pos) (tOp r ta tb) (m2 g fa fb) := ⟨pe_cmpR ho ha.pe hb.pe hm, sm_op2 hr ha.sm hb.sm⟩
def toB (d : D) : Option Bool := match d with
  | .bl b => some b
  | _ => none
def tst (f : M D) : M Bool := mb f fun d => mo (toB d)
theorem smt_of (h : Sm X.K cm te f) : SmT X.K cm (tTest te) (tst f) := fun F H σ env O d env' Q s e k => by
  obtain ⟨x, env1, e1, e⟩ := mb_some e
  obtain ⟨e3, e4⟩ := mo_some e
  dsimp only at e3 e4
  subst e4
  refine h F H σ env O x _ _ s e1 fun F1 H1 v O1 g1 s1 r1 => ?_
  cases x <;> cases e3
  cases r1
  exact ⟨d, rfl, k F1 H1 O1 g1 s1⟩
theorem dt_cmp {op : CmpOp} {r : R2} {g : D → D → Option D} (ho : OpR X (compareOp op) r) (hr : SmR2 X.K cm r g) (ha : DE X cm a ta fa) (hb : DE X cm b tb fb) (hm : behindInMarks op b = false) : DT X cm (.Compare a [op] [b] pos) (tTest (tOp r ta tb)) (tst (m2 g fa fb)) := ⟨pt_cmpR ho ha.pe hb.pe hm, smt_of (sm_op2 hr ha.sm hb.sm)⟩
theorem dt_val (h : DE X cm e te f) (he : ∀ whole, isTrue e X.env whole = (do let v ← whole; standAt e.pos; holding [v] (truthy v)) := by intro _; rfl) : DT X cm e (tB te) (tst f) := ⟨pt_val h.pe he, smt_of h.sm⟩
/-- chains of two -/
def mch (g g' : D → D → Option D) (fa fb fc : M D) : M D := mb fa fun x => mb fb fun y => mb (mo ((g x y).bind toB)) fun k => if k = true then mb fc fun z => mo (g' y z) else mr (.bl false)
def Pure2 (K : PySem.W.Frag) (cm : Cm) (r : R2) (g : D → D → Option D) : Prop := ∀ F H x y a b d Q, Rp K cm F x a → Rp K cm F y b → SmH F H → g a b = some d → (∀ v, Rp K cm F v d → Q v H) → r x y H Q
theorem Pure2.sm {r : R2} {g : D → D → Option D} (h : Pure2 X.K cm r g) : SmR2 X.K cm r g := fun F H σ env O x y a b d Q s ra rb e k => h F H x y a b d Q ra rb s.fh e fun v r => k.here s r
end

/-! ### the operators on data -/
def liI (g : Int → Int → D) : D → D → Option D
  | .int i, .int j => some (g i j)
  | _, _ => none
def lcI (C : Int → Int → Bool) (g : Int → Int → D) : D → D → Option D
  | .int i, .int j => if C i j = true then some (g i j) else none
  | _, _ => none
section
variable {K : PySem.W.Frag} {cm : Cm}
theorem pu_I0 {g : Int → Int → V} {h : Int → Int → D} (hh : ∀ i j F, Rp K cm F (g i j) (h i j)) : Pure2 K cm (rI0 g) (liI h) := fun F H x y a b d Q ra rb _ e k => by
  cases a <;> first | (cases e; done) | skip
  cases b <;> cases e
  cases ra; cases rb
  exact ⟨_, _, rfl, rfl, k _ (hh _ _ F)⟩
theorem pu_I {C : Int → Int → Prop} {Cb : Int → Int → Bool} {g : Int → Int → V} {h : Int → Int → D} (hC : ∀ i j, Cb i j = true → C i j) (hh : ∀ i j F, Rp K cm F (g i j) (h i j)) : Pure2 K cm (rI C g) (lcI Cb h) := fun F H x y a b d Q ra rb _ e k => by
  cases a <;> first | (cases e; done) | skip
  cases b <;> first | (cases e; done) | skip
  rename_i i j
  have e : (if Cb i j = true then some (h i j) else none) = some d := e
  by_cases c : Cb i j = true
  · rw [if_pos c] at e
    cases e
    cases ra; cases rb
    exact ⟨_, _, rfl, rfl, hC _ _ c, k _ (hh _ _ F)⟩
  · rw [if_neg c] at e; cases e
def subD := liI fun i j => .int (i - j)
def ltD := liI fun i j => .bl (decide (i < j))
def leD := liI fun i j => .bl (decide (i ≤ j))
def gtD := liI fun i j => .bl (decide (j < i))
def geD := liI fun i j => .bl (decide (j ≤ i))
theorem pu_lt : Pure2 K cm (rI0 fun i j => .bl (decide (i < j))) ltD := pu_I0 fun _ _ _ => .bl _
theorem pu_le : Pure2 K cm (rI0 fun i j => .bl (decide (i ≤ j))) leD := pu_I0 fun _ _ _ => .bl _
theorem pu_gt : Pure2 K cm (rI0 fun i j => .bl (decide (j < i))) gtD := pu_I0 fun _ _ _ => .bl _
theorem pu_ge : Pure2 K cm (rI0 fun i j => .bl (decide (j ≤ i))) geD := pu_I0 fun _ _ _ => .bl _
theorem pu_sub : Pure2 K cm (rI0 fun i j => .int (i - j)) subD := pu_I0 fun _ _ _ => .int _
def mulC (i j : Int) : Bool := decide ((-(2 ^ 64) < i ∧ i < 2 ^ 64) ∨ (-(2 ^ 64) < j ∧ j < 2 ^ 64))
def mulD := lcI mulC fun i j => .int (i * j)
theorem pu_mul : Pure2 K cm (rI CMul fun i j => .int (i * j)) mulD := pu_I (fun _ _ h => show CMul _ _ from by unfold CMul; exact of_decide_eq_true h) fun _ _ _ => .int _
def divC (i j : Int) : Bool := decide (j ≠ 0 ∧ j.natAbs < 1000000000000000000000000000000000)
def CDivW (i j : Int) : Prop := j ≠ 0 ∧ j.natAbs < 1000000000000000000000000000000000
theorem op_fdivW {X} : OpR X (binaryOp .FloorDiv) (rI CDivW fun i j => .int (i.fdiv j)) := opI fun _ _ _ _ _ _ _ hc q => floordiv_int hc.1 q (.inl (PyProof.noPylong_of_log2 (by
  have h0 := hc.1
  have h1 := hc.2
  have h2 := (Nat.log2_lt (k := 200) (show (Int.natAbs _) ≠ 0 from Int.natAbs_ne_zero.mpr h0)).mpr (Nat.lt_trans h1 (by decide))
  omega)))
def divD := lcI divC fun i j => .int (i.fdiv j)
theorem pu_div : Pure2 K cm (rI CDivW fun i j => .int (i.fdiv j)) divD := pu_I (fun _ _ h => show CDivW _ _ from by unfold CDivW; exact of_decide_eq_true h) fun _ _ _ => .int _
def modC (i j : Int) : Bool := decide (j ≠ 0)
def modD := lcI modC fun i j => .int (i.fmod j)
theorem pu_mod : Pure2 K cm (rI (fun _ j => j ≠ 0) fun i j => .int (i.fmod j)) modD := pu_I (fun _ _ h => of_decide_eq_true h) fun _ _ _ => .int _
def powC (i j : Int) : Bool := decide (0 ≤ j ∧ j ≤ 1000000 ∧ i.natAbs < 2 ^ 64)
def powD := lcI powC fun i j => .int (i ^ j.toNat)
theorem pu_pow : Pure2 K cm (rI CPow fun i j => .int (i ^ j.toNat)) powD := pu_I (fun _ _ h => show CPow _ _ from by unfold CPow; exact of_decide_eq_true h) fun _ _ _ => .int _
def shlD := lcI powC fun i j => .int (i * 2 ^ j.toNat)
def shrC (i j : Int) : Bool := decide (0 ≤ j)
def shrD := lcI shrC fun i j => .int (i / 2 ^ j.toNat)
def andD := liI fun i j => .int (Builtin.bitAnd i j)
def negD : D → Option D
  | .int i => some (.int (-i))
  | _ => none
/-- + of ints, texts, tuples, lists (frozen) -/
def addD : D → D → Option D
  | .int i, .int j => some (.int (i + j))
  | .str x, .str y => if x.length + y.length ≤ 16777216 then some (.str (x ++ y)) else none
  | .tup xs, .tup ys => if xs.length + ys.length ≤ 16777216 then some (.tup (xs ++ ys)) else none
  | .lst xs, .lst ys => if xs.length + ys.length ≤ 16777216 then some (.lst (xs ++ ys)) else none
  | _, _ => none
theorem size_le {n : Nat} (h : n ≤ 16777216) : n ≤ sizeLine := by rw [sizeLine_eq]; exact h
def rAddA (K : PySem.W.Frag) : R2 := fun x y H Q => (rI0 (fun i j => .int (i + j)) x y H Q ∨ (∃ i j, x = .str i ∧ y = .str j ∧ i.length + j.length ≤ sizeLine ∧ Q (.str (i ++ j)) H)) ∨ (rCatA K x y H Q ∨ rCat x y H Q)
theorem op_addA {X : Cx} : OpR X (binaryOp .Add) (rAddA X.K) := .or (.or op_add op_add_str) (.or op_catA op_cat)
theorem sr_add : SmR2 K cm (rAddA K) addD := fun F H σ env O x y a b d Q s ra rb e k => by
  cases a <;> cases b <;> try (cases e; done)
  · cases e
    cases ra; cases rb
    exact .inl (.inl ⟨_, _, rfl, rfl, k.here s (.int _)⟩)
  · rename_i i j
    have e : (if i.length + j.length ≤ 16777216 then some (D.str (i ++ j)) else none) = some d := e
    by_cases c : i.length + j.length ≤ 16777216
    · rw [if_pos c] at e; cases e
      cases ra; cases rb
      exact .inl (.inr ⟨_, _, rfl, rfl, size_le c, k.here s (.str _)⟩)
    · rw [if_neg c] at e; cases e
  · rename_i xs ys
    have e : (if xs.length + ys.length ≤ 16777216 then some (D.lst (xs ++ ys)) else none) = some d := e
    by_cases c : xs.length + ys.length ≤ 16777216
    · rw [if_pos c] at e; cases e
      cases ra with
      | lst h1 r1 =>
        cases rb with
        | lst h2 r2 =>
          refine .inr (.inr ⟨_, _, _, _, rfl, rfl, s.fh.at h1, s.fh.at h2, size_le (by rw [r1.len, r2.len]; exact c), fun p hp => ?_⟩)
          exact k.alloc s hp fun F' sm e => .lst e ((r1.app r2).mono sm)
    · rw [if_neg c] at e; cases e
  · rename_i xs ys
    have e : (if xs.length + ys.length ≤ 16777216 then some (D.tup (xs ++ ys)) else none) = some d := e
    by_cases c : xs.length + ys.length ≤ 16777216
    · rw [if_pos c] at e; cases e
      cases ra with
      | tup h1 r1 =>
        rename_i pa va
        cases rb with
        | tup h2 r2 =>
          rename_i pb vb
          refine .inr (.inl ⟨_, _, _, _, rfl, rfl, tupT s.fh h1, tupT s.fh h2, size_le (by rw [r1.len, r2.len]; exact c), fun z => ?_, fun _ z => ?_, fun _ _ p hp => ?_⟩)
          · subst z; cases r1; exact k.here s (.tup h2 r2)
          · subst z; cases r2; rw [List.append_nil] at k; exact k.here s (.tup h1 r1)
          · exact k.alloc s hp fun F' sm e => .tup e ((r1.app r2).mono sm)
    · rw [if_neg c] at e; cases e
end
end DL

/-! The data layer: pure expressions, equality, membership, tests, argument lists, displays, subscripts, fields, calls of built-ins. -/
namespace DL
open PySem PySem.Spec PyProof.Rows L2

/-! ### pure expressions: neither heap nor slots change -/
abbrev P (α : Type) := Env → Option α
def Spu (K : PySem.W.Frag) (cm : Cm) (te : TE) (f : P D) : Prop := ∀ F H σ env O d (Q : VK), Sts K cm F H σ env O → f env = some d → (∀ v, Rp K cm F v d → Q v H) → te σ H Q
/-- what is looked at where it lies -/
def Spx (K : PySem.W.Frag) (cm : Cm) (te : TE) (f : P Fd) : Prop := ∀ F H σ env O x (Q : VK), Sts K cm F H σ env O → f env = some x → (∀ v S, OwF K cm F H v x S → Q v H) → te σ H Q
structure DP (X : Cx) (cm : Cm) (e : Expr) (te : TE) (f : P D) : Prop where
  pe : PE X e te
  sm : Spu X.K cm te f
structure DX (X : Cx) (cm : Cm) (e : Expr) (te : TE) (f : P Fd) : Prop where
  pe : PE X e te
  sm : Spx X.K cm te f
def pu (f : P D) : M D := fun env => (f env).map fun d => (d, env)
def pval (f : P D) : P Fd := fun env => (f env).map .val
def pc (d : D) : P D := fun _ => some d
def p1 (g : D → Option D) (fa : P D) : P D := fun env => (fa env).bind g
def p2 (g : D → D → Option D) (fa fb : P D) : P D := fun env => (fa env).bind fun x => (fb env).bind fun y => g x y
theorem bind_some {α β : Type} {o : Option α} {g : α → Option β} {r : β} (h : o.bind g = some r) : ∃ a, o = some a ∧ g a = some r := by
  cases o with
  | none => cases h
  | some a => exact ⟨a, rfl, h⟩
section
variable {X : Cx} {cm : Cm} {e a b c : Expr} {es : List Expr} {te ta tb tc : TE} {pos : Pos} {f g fa fb fc : P D}
theorem de_p (h : DP X cm e te f) : DE X cm e te (pu f) := ⟨h.pe, fun F H σ env O d env' Q s e k => by
  obtain ⟨d', e1, e2⟩ := map_some e
  cases e2
  exact h.sm F H σ env O d Q s e1 fun v r => k.here s r⟩
theorem dx_p (h : DP X cm e te f) : DX X cm e te (pval f) := ⟨h.pe, fun F H σ env O x Q s e k => by
  obtain ⟨d', e1, e2⟩ := map_some e
  cases e2
  exact h.sm F H σ env O d' Q s e1 fun v r => k v (fun _ => False) (.val r)⟩
theorem sp_c {v : V} {d : D} (r : ∀ F, Rp X.K cm F v d) : Spu X.K cm (tC v) (pc d) := fun F H σ env O d' Q s e k => by
  cases e
  exact k v (r F)
theorem dp_int {i j pos} : DP X cm (.Constant (.int i) j pos) (tC (.int i)) (pc (.int i)) := ⟨pe_int, sp_c fun _ => .int i⟩
theorem dp_bl {i j pos} : DP X cm (.Constant (.bool i) j pos) (tC (.bl i)) (pc (.bl i)) := ⟨pe_bl, sp_c fun _ => .bl i⟩
theorem dp_non {j pos} : DP X cm (.Constant .none j pos) (tC .non) (pc .non) := ⟨pe_non, sp_c fun _ => .non⟩
theorem dp_str {i j pos} : DP X cm (.Constant (.str i) j pos) (tC (.str i)) (pc (.str i)) := ⟨pe_str, sp_c fun _ => .str i⟩
theorem dp_glI {x : Str} {i : Int} (h : ∃ t, X.mg x = some (.int i t)) (hg : Gl X x) (hd : (x == ("__debug__" : Str)) = false := by decide) : DP X cm (.Name x pos) (tC (.int i)) (pc (.int i)) := by
  obtain ⟨t, hm⟩ := h
  exact ⟨pe_glob hg hm ⟨t, rfl⟩ hd, sp_c fun _ => .int i⟩
/-- a slot that holds a value -/
def pd (i : Nat) : P D := fun env => match env[i]? with
  | some (some (.fd (.val d))) => some d
  | _ => none
def px (i : Nat) : P Fd := fun env => match env[i]? with
  | some (some (.fd x)) => some x
  | _ => none
theorem dp (i : Nat) {x : Str} (hN : X.N[i]? = some x := by rfl) (hv : Vis X.env.scope x := by first | exact Or.inl rfl | exact Or.inr (Or.inl rfl) | exact Or.inr (Or.inr rfl)) (hd : (x == ("__debug__" : Str)) = false := by decide)
    (hcd : (x == ("__classdict__" : Str)) = false := by decide) : DP X cm (.Name x pos) (tVar i) (pd i) := by
  refine ⟨pe_var hN hv hd hcd, fun F H σ env O d Q s e k => ?_⟩
  unfold pd at e
  split at e
  · rename_i o q
    cases e
    obtain ⟨v, ev, ow⟩ := s.at_ i _ q
    cases ow with
    | fd r => cases r with
      | val r => exact ⟨v, ev, k v r⟩
  · cases e
theorem dx (i : Nat) {x : Str} (hN : X.N[i]? = some x := by rfl) (hv : Vis X.env.scope x := by first | exact Or.inl rfl | exact Or.inr (Or.inl rfl) | exact Or.inr (Or.inr rfl)) (hd : (x == ("__debug__" : Str)) = false := by decide)
    (hcd : (x == ("__classdict__" : Str)) = false := by decide) : DX X cm (.Name x pos) (tVar i) (px i) := by
  refine ⟨pe_var hN hv hd hcd, fun F H σ env O d Q s e k => ?_⟩
  unfold px at e
  split at e
  · rename_i o q
    cases e
    obtain ⟨v, ev, ow⟩ := s.at_ i _ q
    cases ow with
    | fd r => exact ⟨v, ev, k v _ r⟩
  · cases e
/-! ### fields -/
def fldD (n : Str) : D → Option D
  | .obj _ gs => gs.lookup n
  | _ => none
theorem lookup_pair {α β : Type} {R : α → β → Prop} {n : Str} : ∀ {fs : List (Str × α)} {gs : List (Str × β)} {d : β}, fs.map (·.1) = gs.map (·.1) → (∀ (i : Nat) (x : Str × α) (y : Str × β), fs[i]? = some x → gs[i]? = some y → R x.2 y.2) → gs.lookup n = some d → ∃ v, fs.lookup n = some v ∧ R v d ∧ n ∈ fs.map (·.1)
  | [], [], d, _, _, e => by cases e
  | [], _ :: _, d, h, _, e => by cases h
  | _ :: _, [], d, h, _, e => by cases h
  | (m, v) :: fs, (m', y) :: gs, d, h, r, e => by
    rw [List.map_cons, List.map_cons] at h
    obtain ⟨h1, h2⟩ := List.cons.inj h
    have h1 : m = m' := h1
    subst h1
    rw [List.lookup_cons] at e
    by_cases q : (n == m) = true
    · rw [q] at e
      cases e
      exact ⟨v, by rw [List.lookup_cons, q], r 0 _ _ rfl rfl, by rw [List.map_cons, show n = m from eq_of_beq q]; exact List.mem_cons_self⟩
    · have q : (n == m) = false := by simpa using q
      rw [q] at e
      obtain ⟨w, e1, e2, e3⟩ := lookup_pair (fs := fs) (gs := gs) h2 (fun i x y a b => r (i + 1) x y a b) e
      exact ⟨w, by rw [List.lookup_cons, q]; exact e1, e2, by rw [List.map_cons]; exact List.mem_cons_of_mem _ e3⟩
theorem RpA.at2 {K : PySem.W.Frag} {F : Hp} {vs : List V} {ds : List D} {i : Nat} {v : V} {d : D} (h : RpA K cm F vs ds) (h1 : vs[i]? = some v) (h2 : ds[i]? = some d) : Rp K cm F v d := by
  obtain ⟨d', e1, e2⟩ := h.get h1
  rw [h2] at e1; cases e1; exact e2
theorem fld_rp {F H : Hp} {x : V} {d d' : D} {n : Str} (r : Rp X.K cm F x d) (fh : SmH F H) (e : fldD n d = some d') :
    ∃ a C dx fs v, x = .ref a ∧ H a = some (.ins C dx fs) ∧ Cls X.K C ∧ NoAttr X.K C n ∧ fs.lookup n = some v ∧ Rp X.K cm F v d' := by
  cases d <;> try (cases e; done)
  cases r with
  | obj h c hn ra =>
    obtain ⟨v, e1, e2, e3⟩ := lookup_pair (R := Rp X.K cm F) hn (fun i x y h1 h2 => ra.at2 (i := i) (by rw [List.getElem?_map, h1]; rfl) (by rw [List.getElem?_map, h2]; rfl)) e
    exact ⟨_, _, _, _, v, rfl, fh.at h, c.ft.cl, c.no _ e3, e1, e2⟩
/-- a field of the object in slot i, frozen or one's own: looked at where it lies -/
def pxf (i : Nat) (n : Str) : P Fd := fun env => match env[i]? with
  | some (some (.obj _ gs)) => gs.lookup n
  | some (some (.fd (.val (.obj _ gs)))) => (gs.lookup n).map .val
  | _ => none
theorem OwFs.look {K : PySem.W.Frag} {F H : Hp} {n : Str} {fs : List (Str × V)} {gs : List (Str × Fd)} {S : Rg} {x : Fd} (h : OwFs K cm F H fs gs S) : gs.lookup n = some x → ∃ v S', fs.lookup n = some v ∧ OwF K cm F H v x S' ∧ (∀ p, S' p → S p) ∧ n ∈ fs.map (·.1) := by
  induction h with
  | nil => intro e; cases e
  | @cons m v y fs gs S S1 S2 ow r d a b ih =>
    intro e
    rw [List.lookup_cons] at e
    by_cases q : (n == m) = true
    · rw [q] at e
      cases e
      exact ⟨v, S1, by rw [List.lookup_cons, q], ow, a, by rw [List.map_cons, show n = m from eq_of_beq q]; exact List.mem_cons_self⟩
    · have q : (n == m) = false := by simpa using q
      rw [q] at e
      obtain ⟨w, S', e1, e2, e3, e4⟩ := ih e
      exact ⟨w, S', by rw [List.lookup_cons, q]; exact e1, e2, fun p z => b p (e3 p z), by rw [List.map_cons]; exact List.mem_cons_of_mem _ e4⟩
theorem dxf (i : Nat) {x n : Str} {p1 : Pos} (hb : attributeBase (.Name x p1) n X.env (eval (.Name x p1) X.env) = eval (.Name x p1) X.env := by rfl) (hN : X.N[i]? = some x := by rfl) (hv : Vis X.env.scope x := by first | exact Or.inl rfl | exact Or.inr (Or.inl rfl) | exact Or.inr (Or.inr rfl)) (hd : (x == ("__debug__" : Str)) = false := by decide)
    (hcd : (x == ("__classdict__" : Str)) = false := by decide) : DX X cm (.Attribute (.Name x p1) n pos) (tFld X.K (tVar i) n) (pxf i n) := by
  refine ⟨pe_fld (pe_var hN hv hd hcd) hb, fun F H σ env O y Q s e k => ?_⟩
  unfold pxf at e
  split at e
  · rename_i c gs q
    obtain ⟨v, ev, ow⟩ := s.at_ i _ q
    cases ow with
    | @obj p dx c fs gs S S' h c r nn aa z =>
      obtain ⟨w, S2, e1, e2, _, e3⟩ := r.look e
      exact ⟨_, ev, p, _, dx, fs, w, rfl, h, c.ft.cl, c.no _ e3, e1, k w S2 e2⟩
  · rename_i c gs q
    obtain ⟨d', e1, e2⟩ := map_some e
    cases e2
    obtain ⟨v, ev, ow⟩ := s.at_ i _ q
    cases ow with
    | fd r => cases r with
      | val r =>
        obtain ⟨a, C, dx, fs, w, h1, h2, h3, h4, h5, h6⟩ := fld_rp (n := n) r s.fh e1
        exact ⟨v, ev, a, C, dx, fs, w, h1, h2, h3, h4, h5, k w (fun _ => False) (.val h6)⟩
  · cases e
def pdf (i : Nat) (n : Str) : P D := fun env => match pxf i n env with
  | some (.val d) => some d
  | _ => none
theorem dpf (i : Nat) {x n : Str} {p1 : Pos} (hb : attributeBase (.Name x p1) n X.env (eval (.Name x p1) X.env) = eval (.Name x p1) X.env := by rfl) (hN : X.N[i]? = some x := by rfl) (hv : Vis X.env.scope x := by first | exact Or.inl rfl | exact Or.inr (Or.inl rfl) | exact Or.inr (Or.inr rfl)) (hd : (x == ("__debug__" : Str)) = false := by decide)
    (hcd : (x == ("__classdict__" : Str)) = false := by decide) : DP X cm (.Attribute (.Name x p1) n pos) (tFld X.K (tVar i) n) (pdf i n) := by
  have h := dxf (cm := cm) (pos := pos) i hb hN hv hd hcd
  refine ⟨h.pe, fun F H σ env O d Q s e k => ?_⟩
  unfold pdf at e
  split at e
  · rename_i d' q
    cases e
    refine h.sm F H σ env O _ Q s q fun v S ow => ?_
    cases ow with
    | val r => exact k v r
  · cases e
/-! ### operators, comparisons -/
theorem sp_op2 {r : R2} {g : D → D → Option D} (hr : Pure2 X.K cm r g) (ha : Spu X.K cm ta fa) (hb : Spu X.K cm tb fb) : Spu X.K cm (tOp r ta tb) (p2 g fa fb) := fun F H σ env O d Q s e k => by
  obtain ⟨x, e1, e⟩ := bind_some e
  obtain ⟨y, e2, e⟩ := bind_some e
  exact ha F H σ env O x _ s e1 fun v r1 => hb F H σ env O y _ s e2 fun w r2 => hr F H v w x y d Q r1 r2 s.fh e k
theorem dp_op {op : Operator} {r : R2} {g : D → D → Option D} (ho : OpR X (binaryOp op) r) (hr : Pure2 X.K cm r g) (ha : DP X cm a ta fa) (hb : DP X cm b tb fb) : DP X cm (.BinOp a op b pos) (tOp r ta tb) (p2 g fa fb) := ⟨pe_op ho ha.pe hb.pe, sp_op2 hr ha.sm hb.sm⟩
theorem dp_cmp {op : CmpOp} {r : R2} {g : D → D → Option D} (ho : OpR X (compareOp op) r) (hr : Pure2 X.K cm r g) (ha : DP X cm a ta fa) (hb : DP X cm b tb fb) (hm : behindInMarks op b = false) : DP X cm (.Compare a [op] [b] pos) (tOp r ta tb) (p2 g fa fb) := ⟨pe_cmpR ho ha.pe hb.pe hm, sp_op2 hr ha.sm hb.sm⟩
def addI := liI fun i j => .int (i + j)
theorem pu_addI {K : PySem.W.Frag} : Pure2 K cm (rI0 fun i j => .int (i + j)) addI := pu_I0 fun _ _ _ => .int _
def pch (g g' : D → D → Option D) (fa fb fc : P D) : P D := fun env => (fa env).bind fun x => (fb env).bind fun y => ((g x y).bind toB).bind fun k => if k = true then (fc env).bind fun z => g' y z else some (.bl false)
theorem dp_chain {op op' : CmpOp} {r r' : R2} {g g' : D → D → Option D} (ho : OpR X (compareOp op) r) (hr : Pure2 X.K cm r g) (ho' : OpR X (compareOp op') r') (hr' : Pure2 X.K cm r' g') (ha : DP X cm a ta fa) (hb : DP X cm b tb fb) (hc : DP X cm c tc fc)
    (hm : lastMarks [op, op'] [b, c] = false := by with_unfolding_all rfl) : DP X cm (.Compare a [op, op'] [b, c] pos) (tChain r r' ta tb tc) (pch g g' fa fb fc) := by
  refine ⟨pe_chain ho ho' ha.pe hb.pe hc.pe hm, fun F H σ env O d Q s e k => ?_⟩
  obtain ⟨x, e1, e⟩ := bind_some e
  obtain ⟨y, e2, e⟩ := bind_some e
  obtain ⟨w, e3, e⟩ := bind_some e
  obtain ⟨z, e4, e5⟩ := bind_some e3
  cases z <;> cases e5
  refine ha.sm F H σ env O x _ s e1 fun v r1 => hb.sm F H σ env O y _ s e2 fun u r2 => hr F H v u x y (.bl w) _ r1 r2 s.fh e4 fun z rz => ?_
  cases rz
  refine ⟨w, rfl, ?_⟩
  cases w with
  | true =>
    rw [if_pos rfl] at e ⊢
    obtain ⟨z, e6, e⟩ := bind_some e
    exact hc.sm F H σ env O z _ s e6 fun t r3 => hr' F H u t y z d Q r2 r3 s.fh e k
  | false =>
    rw [if_neg Bool.false_ne_true] at e ⊢
    cases e
    exact k _ (.bl false)
/-- pure tests -/
def SpT (K : PySem.W.Frag) (cm : Cm) (te : TT) (f : P Bool) : Prop := ∀ F H σ env O d (Q : Bool → Hp → Prop), Sts K cm F H σ env O → f env = some d → Q d H → te σ H Q
structure DQ (X : Cx) (cm : Cm) (e : Expr) (te : TT) (f : P Bool) : Prop where
  pe : PT X e te
  sm : SpT X.K cm te f
def tq (f : P D) : P Bool := fun env => (f env).bind toB
def put (f : P Bool) : M Bool := fun env => (f env).map fun d => (d, env)
theorem spt_of (h : Spu X.K cm te f) : SpT X.K cm (tTest te) (tq f) := fun F H σ env O d Q s e k => by
  obtain ⟨x, e1, e⟩ := bind_some e
  refine h F H σ env O x _ s e1 fun v r => ?_
  cases x <;> cases e
  cases r
  exact ⟨d, rfl, k⟩
theorem dt_q {te : TT} {f : P Bool} (h : DQ X cm e te f) : DT X cm e te (put f) := ⟨h.pe, fun F H σ env O d env' Q s e k => by
  obtain ⟨d', e1, e2⟩ := map_some e
  cases e2
  exact h.sm F H σ env O d Q s e1 (k.here s)⟩
theorem dq_cmp {op : CmpOp} {r : R2} {g : D → D → Option D} (ho : OpR X (compareOp op) r) (hr : Pure2 X.K cm r g) (ha : DP X cm a ta fa) (hb : DP X cm b tb fb) (hm : behindInMarks op b = false) : DQ X cm (.Compare a [op] [b] pos) (tTest (tOp r ta tb)) (tq (p2 g fa fb)) := ⟨pt_cmpR ho ha.pe hb.pe hm, spt_of (sp_op2 hr ha.sm hb.sm)⟩
theorem dq_chain {op op' : CmpOp} {r r' : R2} {g g' : D → D → Option D} (ho : OpR X (compareOp op) r) (hr : Pure2 X.K cm r g) (ho' : OpR X (compareOp op') r') (hr' : Pure2 X.K cm r' g') (ha : DP X cm a ta fa) (hb : DP X cm b tb fb) (hc : DP X cm c tc fc)
    (hm : lastMarks [op, op'] [b, c] = false := by with_unfolding_all rfl) : DQ X cm (.Compare a [op, op'] [b, c] pos) (tTest (tChain r r' ta tb tc)) (tq (pch g g' fa fb fc)) := ⟨pt_chain ho ho' ha.pe hb.pe hc.pe hm, spt_of (dp_chain (pos := pos) ho hr ho' hr' ha hb hc hm).sm⟩
/-! and, or, not -/
def mand (f g : M Bool) : M Bool := mb f fun k => if k = true then g else mr false
def mor (f g : M Bool) : M Bool := mb f fun k => if k = true then mr true else g
def mnot (f : M Bool) : M Bool := mb f fun k => mr (!k)
theorem sm_and {t u : TT} {f g : M Bool} (h : SmT X.K cm t f) (h' : SmT X.K cm u g) : SmT X.K cm (tAnd t u) (mand f g) := fun F H σ env O d env' Q s e k => by
  obtain ⟨x, env1, e1, e⟩ := mb_some e
  refine h F H σ env O x _ _ s e1 fun F1 H1 O1 g1 s1 => ?_
  cases x with
  | true => rw [if_pos rfl] at e ⊢; exact h' F1 H1 σ _ O1 d _ Q s1 e (k.go g1)
  | false => rw [if_neg Bool.false_ne_true] at e ⊢; cases e; exact k F1 H1 O1 g1 s1
theorem sm_or {t u : TT} {f g : M Bool} (h : SmT X.K cm t f) (h' : SmT X.K cm u g) : SmT X.K cm (tOr t u) (mor f g) := fun F H σ env O d env' Q s e k => by
  obtain ⟨x, env1, e1, e⟩ := mb_some e
  refine h F H σ env O x _ _ s e1 fun F1 H1 O1 g1 s1 => ?_
  cases x with
  | false => rw [if_neg Bool.false_ne_true] at e ⊢; exact h' F1 H1 σ _ O1 d _ Q s1 e (k.go g1)
  | true => rw [if_pos rfl] at e ⊢; cases e; exact k F1 H1 O1 g1 s1
theorem sm_not {t : TT} {f : M Bool} (h : SmT X.K cm t f) : SmT X.K cm (tNot t) (mnot f) := fun F H σ env O d env' Q s e k => by
  obtain ⟨x, env1, e1, e⟩ := mb_some e
  cases e
  exact h F H σ env O x _ _ s e1 fun F1 H1 O1 g1 s1 => k F1 H1 O1 g1 s1
theorem dw_and1 {te : TT} {f : M Bool} (h : DT X cm a te f) : DW X cm (.BoolOp .And [a] pos) te f := ⟨pw_and1 h.pe, h.sm⟩
theorem dw_or1 {te : TT} {f : M Bool} (h : DT X cm a te f) : DW X cm (.BoolOp .Or [a] pos) te f := ⟨pw_or1 h.pe, h.sm⟩
theorem dw_and {te tu : TT} {f g : M Bool} {rest : List Expr} (h : DT X cm a te f) (h' : DW X cm (.BoolOp .And (b :: rest) pos) tu g) : DW X cm (.BoolOp .And (a :: b :: rest) pos) (tAnd te tu) (mand f g) := ⟨pw_and h.pe h'.pe, sm_and h.sm h'.sm⟩
theorem dw_or {te tu : TT} {f g : M Bool} {rest : List Expr} (h : DT X cm a te f) (h' : DW X cm (.BoolOp .Or (b :: rest) pos) tu g) : DW X cm (.BoolOp .Or (a :: b :: rest) pos) (tOr te tu) (mor f g) := ⟨pw_or h.pe h'.pe, sm_or h.sm h'.sm⟩
theorem dt_w {te : TT} {f : M Bool} (h : DW X cm e te f) : DT X cm e te f := ⟨h.pe.pt, h.sm⟩
theorem dt_not {te : TT} {f : M Bool} (h : DT X cm a te f) : DT X cm (.UnaryOp .Not a pos) (tNot te) (mnot f) := ⟨pt_not h.pe, sm_not h.sm⟩
/-! the same as values: truth values alone -/
def vand (f g : M D) : M D := mb (tst f) fun k => if k = true then g else mr (.bl false)
def vor (f g : M D) : M D := mb (tst f) fun k => if k = true then mr (.bl true) else g
def vnot (f : M D) : M D := mb (tst f) fun k => mr (.bl (!k))
theorem tst_some {f : M D} {env env1 : Env} {k : Bool} (h : tst f env = some (k, env1)) : f env = some (.bl k, env1) := by
  obtain ⟨x, env2, e1, e⟩ := mb_some h
  obtain ⟨e3, e4⟩ := mo_some e
  dsimp only at e3 e4
  subst e4
  cases x <;> cases e3
  exact e1
theorem de_one {op} {f : M D} (h : DE X cm a te f) : DE X cm (.BoolOp op [a] pos) te f := ⟨pe_one h.pe, h.sm⟩
theorem de_and {rest : List Expr} {fa fb : M D} (ha : DE X cm a ta fa) (hb : DE X cm (.BoolOp .And (b :: rest) pos) tb fb) : DE X cm (.BoolOp .And (a :: b :: rest) pos) (tAndV ta tb) (vand fa fb) := by
  refine ⟨pe_and ha.pe hb.pe, fun F H σ env O d env' Q s e k => ?_⟩
  obtain ⟨x, env1, e1, e⟩ := mb_some e
  refine ha.sm F H σ env O _ _ _ s (tst_some e1) fun F1 H1 v O1 g1 s1 r => ?_
  cases r
  refine ⟨x, rfl, ?_⟩
  cases x with
  | true => rw [if_pos rfl] at e ⊢; exact hb.sm F1 H1 σ _ O1 d _ Q s1 e (k.go g1)
  | false => rw [if_neg Bool.false_ne_true] at e ⊢; cases e; exact k F1 H1 _ O1 g1 s1 (.bl false)
theorem de_not {fa : M D} (ha : DE X cm a ta fa) : DE X cm (.UnaryOp .Not a pos) (tNotV ta) (vnot fa) := by
  refine ⟨pe_not ha.pe, fun F H σ env O d env' Q s e k => ?_⟩
  obtain ⟨x, env1, e1, e⟩ := mb_some e
  cases e
  refine ha.sm F H σ env O _ _ _ s (tst_some e1) fun F1 H1 v O1 g1 s1 r => ?_
  cases r
  exact ⟨x, rfl, k F1 H1 _ O1 g1 s1 (.bl _)⟩
def mif {α : Type} (c : M Bool) (f g : M α) : M α := mb c fun k => if k = true then f else g
theorem de_if {tt : TT} {fc : M Bool} {fa fb : M D} (hc : DT X cm c tt fc) (ha : DE X cm a ta fa) (hb : DE X cm b tb fb) : DE X cm (.IfExp c a b pos) (tIf tt ta tb) (mif fc fa fb) := by
  refine ⟨pe_ifExp hc.pe ha.pe hb.pe, fun F H σ env O d env' Q s e k => ?_⟩
  obtain ⟨x, env1, e1, e⟩ := mb_some e
  refine hc.sm F H σ env O x _ _ s e1 fun F1 H1 O1 g1 s1 => ?_
  cases x with
  | true => rw [if_pos rfl] at e ⊢; exact ha.sm F1 H1 σ _ O1 d _ Q s1 e (k.go g1)
  | false => rw [if_neg Bool.false_ne_true] at e ⊢; exact hb.sm F1 H1 σ _ O1 d _ Q s1 e (k.go g1)
/-! ### argument lists, displays -/
def anil : M (List D) := mr []
def acons (f : M D) (g : M (List D)) : M (List D) := mb f fun d => mb g fun ds => mr (d :: ds)
theorem da_nil : DA X cm [] tNil anil := ⟨pa_nil, fun F H σ env O ds env' Q s e k => by cases e; exact k F H [] O Go.refl s .nil⟩
theorem da_cons {fa : M D} {t : TA} {g : M (List D)} (ha : DE X cm e ta fa) (hr : DA X cm es t g) (hs : starEach (e :: es) X.env = (false, eval e X.env) :: starEach es X.env := by rfl) : DA X cm (e :: es) (tCons ta t) (acons fa g) := by
  refine ⟨pa_cons ha.pe hr.pe hs, fun F H σ env O ds env' Q s e k => ?_⟩
  obtain ⟨x, env1, e1, e⟩ := mb_some e
  obtain ⟨y, env2, e2, e⟩ := mb_some e
  cases e
  refine ha.sm F H σ env O x _ _ s e1 fun F1 H1 v O1 g1 s1 r => ?_
  refine hr.sm F1 H1 σ _ O1 y _ _ s1 e2 fun F2 H2 vs O2 g2 s2 rs => ?_
  exact k F2 H2 _ O2 (g1.trans g2) s2 (.cons (r.mono g2.ff) rs)
def szc {α : Type} (n : Nat) (a : α) : Option α := if n ≤ 16777216 then some a else none
theorem szc_some {α : Type} {n : Nat} {a b : α} (h : szc n a = some b) : n ≤ 16777216 ∧ a = b := by
  unfold szc at h
  by_cases c : n ≤ 16777216
  · rw [if_pos c] at h; cases h; exact ⟨c, rfl⟩
  · rw [if_neg c] at h; cases h
def mtup (g : M (List D)) : M D := mb g fun ds => mo (szc ds.length (.tup ds))
def mlst (g : M (List D)) : M Od := mb g fun ds => mo (szc ds.length (.fd (.lst ds)))
theorem de_tup {t : TA} {g : M (List D)} {x1} (h : DA X cm es t g) : DE X cm (.Tuple es x1 pos) (tTup t) (mtup g) := by
  refine ⟨pe_tup h.pe, fun F H σ env O d env' Q s e k => ?_⟩
  obtain ⟨x, env1, e1, e⟩ := mb_some e
  obtain ⟨e3, e4⟩ := mo_some e
  dsimp only at e3 e4
  subst e4
  obtain ⟨hz, rfl⟩ := szc_some e3
  refine h.sm F H σ env O x _ _ s e1 fun F1 H1 vs O1 g1 s1 r => ⟨size_le (by rw [r.len]; exact hz), fun p hp => ?_⟩
  exact (k.go g1).alloc s1 hp fun F' sm e => .tup e (r.mono sm)
theorem do_lst {t : TA} {g : M (List D)} (h : DA X cm es t g) : DO X cm (.List es pos) (tLst t) (mlst g) := by
  refine ⟨pe_lst h.pe, fun F H σ env O d env' Q s e k => ?_⟩
  obtain ⟨x, env1, e1, e⟩ := mb_some e
  obtain ⟨e3, e4⟩ := mo_some e
  dsimp only at e3 e4
  subst e4
  obtain ⟨hz, rfl⟩ := szc_some e3
  refine h.sm F H σ env O x _ _ s e1 fun F1 H1 vs O1 g1 s1 r => ⟨size_le (by rw [r.len]; exact hz), fun p hp => ?_⟩
  exact (k.go g1).fresh s1 hp r
end
end DL

/-! The data layer: equality, membership, subscripts, slices, calls of built-ins, methods of lists. -/
namespace DL
open PySem PySem.Spec PyProof.Rows L2

/-! ### equality of data -/
mutual
def toP : D → Option PyData
  | .non => some .none
  | .bl b => some (.bool b)
  | .int i => some (.int i)
  | .str x => some (.str x)
  | .lst xs => (toPs xs).map .list
  | .tup xs => (toPs xs).map .tuple
  | _ => none
def toPs : List D → Option (List PyData)
  | [] => some []
  | d :: ds => match toP d, toPs ds with
    | some p, some ps => some (p :: ps)
    | _, _ => none
end
section
variable {K : PySem.W.Frag} {cm : Cm} {F H : Hp}
mutual
theorem Rp.dp (fh : SmH F H) : ∀ {v : V} {d : D} {p : PyData}, Rp K cm F v d → toP d = some p → Dp K H v p
  | _, _, p, .non, e => by unfold toP at e; cases e; exact .non
  | _, _, p, .bl b, e => by unfold toP at e; cases e; exact .bl b
  | _, _, p, .int b, e => by unfold toP at e; cases e; exact .int b
  | _, _, p, .str b, e => by unfold toP at e; cases e; exact .str b
  | _, _, p, .lst h r, e => by
    unfold toP at e
    obtain ⟨q, e1, rfl⟩ := map_some e
    exact .lst (.of (fh.at h)) (RpA.dp fh r e1)
  | _, _, p, .tup h r, e => by
    unfold toP at e
    obtain ⟨q, e1, rfl⟩ := map_some e
    exact .tup (tupT fh h) (RpA.dp fh r e1)
  | _, _, p, .cn n, e => by unfold toP at e; cases e
  | _, _, p, .scr h, e => by unfold toP at e; cases e
  | _, _, p, .obj h c n r, e => by unfold toP at e; cases e
  | _, _, p, .dik h n r, e => by unfold toP at e; cases e
  | _, _, p, .dit h n r, e => by unfold toP at e; cases e
  | _, _, p, .memo h, e => by unfold toP at e; cases e
  | _, _, p, .lik h n r, e => by unfold toP at e; cases e
  | _, _, p, .lit h n r, e => by unfold toP at e; cases e
theorem RpA.dp (fh : SmH F H) : ∀ {vs : List V} {ds : List D} {ps : List PyData}, RpA K cm F vs ds → toPs ds = some ps → DpAll K H vs ps
  | _, _, ps, .nil, e => by unfold toPs at e; cases e; exact .nil
  | _, _, ps, .cons h r, e => by
    unfold toPs at e
    split at e
    · rename_i p q e1 e2
      cases e
      exact .cons (Rp.dp fh h e1) (RpA.dp fh r e2)
    · cases e
end
def eqD (a b : D) : Option D := match toP a, toP b with
  | some p, some q => if (SeqAt.shaped p && SeqAt.shaped q) = true then some (.bl (PyData.eqv p q)) else none
  | _, _ => none
def neD (a b : D) : Option D := match toP a, toP b with
  | some p, some q => if (SeqAt.shaped p && SeqAt.shaped q) = true then some (.bl (!PyData.eqv p q)) else none
  | _, _ => none
theorem pu_eq : Pure2 K cm (rEqD K) eqD := fun F H x y a b d Q ra rb fh e k => by
  unfold eqD at e
  split at e
  · rename_i p q e1 e2
    by_cases c : (SeqAt.shaped p && SeqAt.shaped q) = true
    · rw [if_pos c] at e
      cases e
      rw [Bool.and_eq_true] at c
      exact ⟨p, q, ra.dp fh e1, rb.dp fh e2, c.1, c.2, k _ (.bl _)⟩
    · rw [if_neg c] at e; cases e
  · cases e
theorem pu_ne : Pure2 K cm (rNeD K) neD := fun F H x y a b d Q ra rb fh e k => by
  unfold neD at e
  split at e
  · rename_i p q e1 e2
    by_cases c : (SeqAt.shaped p && SeqAt.shaped q) = true
    · rw [if_pos c] at e
      cases e
      rw [Bool.and_eq_true] at c
      exact ⟨p, q, ra.dp fh e1, rb.dp fh e2, c.1, c.2, k _ (.bl _)⟩
    · rw [if_neg c] at e; cases e
  · cases e
/-! is None -/
def isnD (a b : D) : Option D := match b with
  | .non => some (.bl (match a with | .non => true | _ => false))
  | _ => none
def nonD (a b : D) : Option D := match b with
  | .non => some (.bl (!(match a with | .non => true | _ => false)))
  | _ => none
/-! ### membership -/
def toV : D → Option V
  | .non => some .non
  | .bl b => some (.bl b)
  | .int i => some (.int i)
  | .str x => some (.str x)
  | _ => none
def toVs : List D → Option (List V)
  | [] => some []
  | d :: ds => (toV d).bind fun v => (toVs ds).map (v :: ·)
theorem Rp.toV {v w : V} {d : D} (r : Rp K cm F v d) (e : toV d = some w) : v = w ∧ flatV v = true := by
  cases r <;> cases e <;> exact ⟨rfl, rfl⟩
theorem RpA.toVs : ∀ {vs : List V} {ds : List D} {ws : List V}, RpA K cm F vs ds → toVs ds = some ws → vs = ws ∧ vs.all flatV = true
  | _, _, _, .nil, e => by unfold DL.toVs at e; cases e; exact ⟨rfl, rfl⟩
  | _, _, ws, .cons h r, e => by
    unfold DL.toVs at e
    obtain ⟨v, e1, e⟩ := bind_some e
    obtain ⟨vs, e2, rfl⟩ := map_some e
    obtain ⟨rfl, f1⟩ := h.toV e1
    obtain ⟨rfl, f2⟩ := RpA.toVs r e2
    exact ⟨rfl, by rw [List.all_cons, f1, f2]; rfl⟩
/-- the items of what is looked at -/
def itemsF : Fd → Option (List D)
  | .val (.tup xs) => some xs
  | .val (.lst xs) => some xs
  | .val (.scr ns) => some (ns.map .int)
  | .lst xs => some xs
  | _ => none
theorem OwF.seq {v : V} {x : Fd} {S : Rg} {ds : List D} (h : OwF K cm F H v x S) (fh : SmH F H) (e : itemsF x = some ds) : ∃ p vs, v = .ref p ∧ (SqL K H p vs ∨ SqT K H p vs) ∧ RpA K cm F vs ds := by
  cases h with
  | val r =>
    cases r <;> cases e
    · rename_i h r; exact ⟨_, _, rfl, .inl (.of (fh.at h)), r⟩
    · rename_i h; exact ⟨_, _, rfl, .inl (fh.seq h), RpA.ints _⟩
    · rename_i h r; exact ⟨_, _, rfl, .inr (tupT fh h), r⟩
  | lst h r z => cases e; exact ⟨_, _, rfl, .inl (.of h), r⟩
  | dik => cases e
  | dit => cases e
def inD (neg : Bool) (a : D) (x : Fd) : Option D := (toV a).bind fun v => (itemsF x).bind fun ds => (toVs ds).map fun vs => .bl (if neg = true then !inV v vs else inV v vs)
end
section
variable {X : Cx} {cm : Cm} {e a b c : Expr} {es : List Expr} {te ta tb tc : TE} {pos : Pos} {f g fa fb fc : P D} {fx : P Fd}
def pin (neg : Bool) (fa : P D) (fx : P Fd) : P D := fun env => (fa env).bind fun a => (fx env).bind fun x => inD neg a x
theorem sp_in {neg : Bool} (ha : Spu X.K cm ta fa) (hb : Spx X.K cm tb fx) : Spu X.K cm (tOp (rIn X.K neg) ta tb) (pin neg fa fx) := fun F H σ env O d Q s e k => by
  obtain ⟨x, e1, e⟩ := bind_some e
  obtain ⟨y, e2, e⟩ := bind_some e
  obtain ⟨v, e3, e⟩ := bind_some e
  obtain ⟨ds, e4, e⟩ := bind_some e
  obtain ⟨vs, e5, rfl⟩ := map_some e
  refine ha F H σ env O x _ s e1 fun u r1 => hb F H σ env O y _ s e2 fun w S ow => ?_
  obtain ⟨p, ws, rfl, hs, ra⟩ := ow.seq s.fh e4
  obtain ⟨rfl, f1⟩ := r1.toV e3
  obtain ⟨rfl, f2⟩ := ra.toVs e5
  exact ⟨p, _, rfl, hs, f1, f2, k _ (.bl _)⟩
theorem dq_in (ha : DP X cm a ta fa) (hb : DX X cm b tb fx) (hm : behindInMarks .In b = false := by with_unfolding_all rfl) : DQ X cm (.Compare a [.In] [b] pos) (tTest (tOp (rIn X.K false) ta tb)) (tq (pin false fa fx)) := ⟨pt_cmpR op_in_seq ha.pe hb.pe hm, spt_of (sp_in ha.sm hb.sm)⟩
theorem dq_nin (ha : DP X cm a ta fa) (hb : DX X cm b tb fx) (hm : behindInMarks .NotIn b = false := by with_unfolding_all rfl) : DQ X cm (.Compare a [.NotIn] [b] pos) (tTest (tOp (rIn X.K true) ta tb)) (tq (pin true fa fx)) := ⟨pt_cmpR op_notIn_seq ha.pe hb.pe hm, spt_of (sp_in ha.sm hb.sm)⟩
/-- the same where the thing is reckoned with effects: the container is looked at afterwards -/
def minx (neg : Bool) (fa : M D) (fx : P Fd) : M D := mb fa fun a => pu fun env => (fx env).bind fun x => inD neg a x
/-! ### subscripts -/
def ixF (x : Fd) (i : D) : Option D := match i with
  | .int i => match x with
    | .val (.str z) => if z.length ≤ 16777216 then (atI z.cps.toList i).map fun c => .str ⟨#[c]⟩ else none
    | x => (itemsF x).bind fun ds => atI ds i
  | _ => none
theorem atI_len {α β : Type} {xs : List α} {ys : List β} {i : Int} {d : β} (hl : xs.length = ys.length) (e : atI ys i = some d) : ∃ j : Nat, ys[j]? = some d ∧ (∀ v, xs[j]? = some v → atI xs i = some v) := by
  unfold atI at e
  obtain ⟨j, e1, e2⟩ := bind_some e
  refine ⟨j, e2, fun v hv => ?_⟩
  unfold atI
  rw [hl, e1]
  exact hv
theorem ix_core {K : PySem.W.Frag} {F H : Hp} {v w : V} {x : Fd} {i d : D} {S : Rg} {Q : VK} (ow : OwF K cm F H v x S) (fh : SmH F H) (ri : Rp K cm F w i) (e : ixF x i = some d) (k : ∀ u, Rp K cm F u d → Q u H) : rIx K v w H Q := by
  cases i <;> try (cases e; done)
  cases ri
  unfold ixF at e
  dsimp only at e
  split at e
  · rename_i z
    by_cases c : z.length ≤ 16777216
    · rw [if_pos c] at e
      obtain ⟨ch, e1, rfl⟩ := map_some e
      cases ow with
      | val r =>
        cases r
        exact .inr (.inr ⟨_, _, _, rfl, rfl, size_le c, e1, k _ (.str _)⟩)
    · rw [if_neg c] at e; cases e
  · obtain ⟨ds, e1, e2⟩ := bind_some e
    obtain ⟨p, vs, rfl, hs, ra⟩ := ow.seq fh e1
    obtain ⟨j, h1, h2⟩ := atI_len ra.len e2
    obtain ⟨u, h3, ru⟩ := ra.getD h1
    rcases hs with hs | hs
    · exact .inl ⟨p, vs, _, u, rfl, rfl, hs, h2 u h3, k u ru⟩
    · exact .inr (.inl ⟨p, vs, _, u, rfl, rfl, hs, h2 u h3, k u ru⟩)
def pix (fx : P Fd) (fb : P D) : P D := fun env => (fx env).bind fun x => (fb env).bind fun i => ixF x i
theorem dp_ix (ha : DX X cm a ta fx) (hb : DP X cm b tb fb) (hs : PlainIx b := by exact fun _ _ => rfl) : DP X cm (.Subscript a b pos) (tOp (rIx X.K) ta tb) (pix fx fb) := ⟨pe_ix ix_seq ha.pe hb.pe hs, fun F H σ env O d Q s e k => by
  obtain ⟨x, e1, e⟩ := bind_some e
  obtain ⟨i, e2, e⟩ := bind_some e
  exact ha.sm F H σ env O x _ s e1 fun v S ow => hb.sm F H σ env O i _ s e2 fun w r => ix_core ow s.fh r e k⟩
def mix (fa fb : M D) : M D := mb fa fun x => mb fb fun i => mo (ixF (.val x) i)
theorem de_ix {fa fb : M D} (ha : DE X cm a ta fa) (hb : DE X cm b tb fb) (hs : PlainIx b := by exact fun _ _ => rfl) : DE X cm (.Subscript a b pos) (tOp (rIx X.K) ta tb) (mix fa fb) := ⟨pe_ix ix_seq ha.pe hb.pe hs, fun F H σ env O d env' Q s e k => by
  obtain ⟨x, env1, e1, e⟩ := mb_some e
  obtain ⟨i, env2, e2, e⟩ := mb_some e
  obtain ⟨e3, e4⟩ := mo_some e
  dsimp only at e3 e4
  subst e4
  exact ha.sm F H σ env O x _ _ s e1 fun F1 H1 v O1 g1 s1 r1 => hb.sm F1 H1 σ _ O1 i _ _ s1 e2 fun F2 H2 w O2 g2 s2 r2 =>
    ix_core (.val (r1.mono g2.ff) : OwF X.K cm F2 H2 v (.val x) (fun _ => False)) s2.fh r2 e3 fun u ru => k F2 H2 u O2 (g1.trans g2) s2 ru⟩
/-! ### slices of tuples and lists -/
structure DPo (X : Cx) (cm : Cm) (e : Option Expr) (te : TO) (f : P (Option Int)) : Prop where
  pe : PO X e te
  sm : ∀ F H σ env O d (Q : Option Int → Hp → Prop), Sts X.K cm F H σ env O → f env = some d → Q d H → te σ H Q
theorem dpo_none : DPo X cm none tNoPart (fun _ => some none) := ⟨po_none, fun F H σ env O d Q s e k => by cases e; exact k⟩
def ptI (f : P D) : P (Option Int) := fun env => (f env).bind fun d => match d with
  | .int i => some (some i)
  | _ => none
theorem dpo_some (h : DP X cm e te f) : DPo X cm (some e) (tPart te) (ptI f) := ⟨po_some h.pe, fun F H σ env O d Q s e k => by
  obtain ⟨x, e1, e⟩ := bind_some e
  cases x <;> cases e
  refine h.sm F H σ env O _ _ s e1 fun v r => ?_
  cases r
  exact ⟨_, rfl, k⟩⟩
def cutD (xs : List D) (lo hi : Option Int) : List D := (xs.drop (HT.sIx xs.length 0 lo)).take (HT.sIx xs.length xs.length hi - HT.sIx xs.length 0 lo)
def slD (x : D) (lo hi : Option Int) : Option D := match x with
  | .tup xs => some (.tup (cutD xs lo hi))
  | .lst xs => some (.lst (cutD xs lo hi))
  | .scr ns => some (.lst (cutD (ns.map .int) lo hi))
  | _ => none
def rSlB (K : PySem.W.Frag) : V → Option Int → Option Int → Hp → VK → Prop := fun x lo hi H Q => rSlA K x lo hi H Q ∨ rSlL K x lo hi H Q
theorem RpA.cut {K : PySem.W.Frag} {F : Hp} {vs : List V} {ds : List D} (r : RpA K cm F vs ds) (lo hi : Option Int) : RpA K cm F (cutV vs lo hi) (cutD ds lo hi) := by
  unfold cutV cutD
  rw [r.len]
  exact (r.drop _).take _
theorem cutD_whole {xs : List D} {lo hi : Option Int} (h : HT.sIx xs.length 0 lo = 0 ∧ HT.sIx xs.length xs.length hi = xs.length) : cutD xs lo hi = xs := by
  unfold cutD
  rw [h.1, h.2, List.drop_zero, Nat.sub_zero, List.take_length]
def msl (fa : M D) (fl fh : P (Option Int)) : M D := mb fa fun x env => (fl env).bind fun l => (fh env).bind fun h => (slD x l h).map fun d => (d, env)
theorem de_sl {fa : M D} {lo hi : Option Expr} {tl th : TO} {fl fh : P (Option Int)} {p2 : Pos} (ha : DE X cm a ta fa) (hl : DPo X cm lo tl fl) (hh : DPo X cm hi th fh) : DE X cm (.Subscript a (.Slice lo hi none p2) pos) (tSl (rSlB X.K) ta tl th) (msl fa fl fh) := by
  refine ⟨pe_slice (.or sl_tupA sl_list) ha.pe hl.pe hh.pe, fun F H σ env O d env' Q s e k => ?_⟩
  obtain ⟨x, env1, e1, e⟩ := mb_some e
  obtain ⟨l, e2, e⟩ := bind_some e
  obtain ⟨h, e3, e⟩ := bind_some e
  obtain ⟨d', e4, e5⟩ := map_some e
  cases e5
  refine ha.sm F H σ env O x _ _ s e1 fun F1 H1 v O1 g1 s1 r => hl.sm F1 H1 σ _ O1 l _ s1 e2 (hh.sm F1 H1 σ _ O1 h _ s1 e3 ?_)
  cases x <;> try (cases e4; done)
  · rename_i xs
    cases e4
    cases r with
    | lst hp ra =>
      exact .inr ⟨_, _, rfl, .of (s1.fh.at hp), fun p hp => (k.go g1).alloc s1 hp fun F' sm e => .lst e ((ra.cut l h).mono sm)⟩
  · rename_i xs
    cases e4
    cases r with
    | tup hp ra =>
      refine .inl ⟨_, _, rfl, tupT s1.fh hp, fun w => ?_, fun _ p hp' => (k.go g1).alloc s1 hp' fun F' sm e => .tup e ((ra.cut l h).mono sm)⟩
      rw [ra.len] at w
      have e := cutD_whole w
      refine k F1 H1 _ O1 g1 s1 ?_
      rw [e]
      exact .tup hp ra
  · rename_i ns
    cases e4
    cases r with
    | scr hp =>
      exact .inr ⟨_, _, rfl, s1.fh.seq hp, fun p hp => (k.go g1).alloc s1 hp fun F' sm e => .lst e ((RpA.ints _).cut l h)⟩
/-! ### len and other built-ins by values -/
def lenF (x : Fd) : Option D := match x with
  | .val (.str z) => if z.length ≤ 16777216 then some (.int z.length) else none
  | x => (itemsF x).map fun ds => .int ds.length
def plen (fx : P Fd) : P D := fun env => (fx env).bind lenF
theorem dp_len {p : Pos} (hm : X.mg "len" = none) (ha : DX X cm a ta fx) (hg : Gl X "len" := by rfl) (he : starEach [a] X.env = (false, eval a X.env) :: starEach [] X.env := by rfl) (hpl : (backTo pos (starEach [] X.env)).any (·.1) = false := by rfl) :
    DP X cm (.Call (.Name "len" p) [a] [] pos) (tCB (fun xs H Q => ∃ x n, xs = [x] ∧ LenV X.K x H n ∧ Q (.int n) H) (tCons ta tNil)) (plen fx) := by
  refine ⟨pe_callB call_len hg hm PySem.boot_len (pa_cons ha.pe pa_nil he) (by decide) (by decide) he hpl, fun F H σ env O d Q s e k => ?_⟩
  obtain ⟨x, e1, e⟩ := bind_some e
  refine ha.sm F H σ env O x _ s e1 fun v S ow => ?_
  unfold lenF at e
  split at e
  · rename_i z
    by_cases c : z.length ≤ 16777216
    · rw [if_pos c] at e; cases e
      cases ow with
      | val r => cases r; exact ⟨_, _, rfl, ⟨size_le c, rfl⟩, k _ (.int _)⟩
    · rw [if_neg c] at e; cases e
  · obtain ⟨ds, e1, rfl⟩ := map_some e
    obtain ⟨p, vs, rfl, hs, ra⟩ := ow.seq s.fh e1
    refine ⟨_, vs.length, rfl, ?_, by rw [ra.len]; exact k _ (.int _)⟩
    rcases hs with hs | hs
    · exact .inl ⟨vs, hs, rfl⟩
    · exact .inr ⟨vs, hs, rfl⟩
/-- a call of a built-in upon values, by what it does with them -/
def SmR (K : PySem.W.Frag) (cm : Cm) (r : List V → Hp → VK → Prop) (g : List D → Option Od) : Prop := ∀ F H σ env O vs ds o Q, Sts K cm F H σ env O → RpA K cm F vs ds → g ds = some o → Ko K cm F H σ O env o Q → r vs H Q
def mcb (g : List D → Option Od) (fa : M (List D)) : M Od := mb fa fun ds => mo (g ds)
theorem smo_cb {r : List V → Hp → VK → Prop} {g : List D → Option Od} {t : TA} {fa : M (List D)} (hr : SmR X.K cm r g) (ha : SmA X.K cm t fa) : SmO X.K cm (tCB r t) (mcb g fa) := fun F H σ env O d env' Q s e k => by
  obtain ⟨ds, env1, e1, e⟩ := mb_some e
  obtain ⟨e3, e4⟩ := mo_some e
  dsimp only at e3 e4
  subst e4
  exact ha F H σ env O ds _ _ s e1 fun F1 H1 vs O1 g1 s1 r1 => hr F1 H1 σ _ O1 vs ds d Q s1 r1 e3 (k.go g1)
theorem do_cB {id : String} {x : Str} {p : Pos} {r : List V → Hp → VK → Prop} {g : List D → Option Od} {t : TA} {fa : M (List D)} (hc : CallR X (.builtin id) r) (hr : SmR X.K cm r g) (hm : X.mg x = none) (hv : bootBuiltins x = some (.builtin id)) (ha : DA X cm (a :: es) t fa) (hg : Gl X x := by rfl) (hn : x ≠ "__name__" := by decide) (hdb : (x == ("__debug__" : Str)) = false := by decide)
    (he : starEach (a :: es) X.env = (false, eval a X.env) :: starEach es X.env := by rfl) (hpl : (backTo pos (starEach es X.env)).any (·.1) = false := by rfl) : DO X cm (.Call (.Name x p) (a :: es) [] pos) (tCB r t) (mcb g fa) := ⟨pe_callB hc hg hm hv ha.pe hn hdb he hpl, smo_cb hr ha.sm⟩
theorem do_cT {T : String} {x : Str} {p : Pos} {r : List V → Hp → VK → Prop} {g : List D → Option Od} {t : TA} {fa : M (List D)} (hc : CallR X (.type T) r) (hr : SmR X.K cm r g) (hm : X.mg x = none) (hv : bootBuiltins x = some (.type T)) (ha : DA X cm (a :: es) t fa) (hg : Gl X x := by rfl) (hn : x ≠ "__name__" := by decide) (hdb : (x == ("__debug__" : Str)) = false := by decide)
    (he : starEach (a :: es) X.env = (false, eval a X.env) :: starEach es X.env := by rfl) (hpl : (backTo pos (starEach es X.env)).any (·.1) = false := by rfl) : DO X cm (.Call (.Name x p) (a :: es) [] pos) (tCB r t) (mcb g fa) := ⟨pe_callTy hc hg hm hv ha.pe hn hdb he hpl, smo_cb hr ha.sm⟩
end
section
variable {K : PySem.W.Frag} {cm : Cm}
/-- a rule whose answer is a value -/
theorem smr_v {r : List V → Hp → VK → Prop} {g : List D → Option D} (h : ∀ F H σ env O vs ds d Q, Sts K cm F H σ env O → RpA K cm F vs ds → g ds = some d → Kv K cm F H σ O env d Q → r vs H Q) : SmR K cm r (fun ds => (g ds).map fun d => .fd (.val d)) := fun F H σ env O vs ds o Q s ra e k => by
  obtain ⟨d, e1, rfl⟩ := map_some e
  exact h F H σ env O vs ds d Q s ra e1 (Kv.of k)
theorem RpA.one {F : Hp} {vs : List V} {d : D} (h : RpA K cm F vs [d]) : ∃ v, vs = [v] ∧ Rp K cm F v d := by
  cases h with
  | cons h t => cases t; exact ⟨_, rfl, h⟩
theorem RpA.two {F : Hp} {vs : List V} {d e : D} (h : RpA K cm F vs [d, e]) : ∃ v w, vs = [v, w] ∧ Rp K cm F v d ∧ Rp K cm F w e := by
  cases h with
  | cons h t =>
    obtain ⟨w, rfl, r⟩ := t.one
    exact ⟨_, _, rfl, h, r⟩
def minB : List D → Option D
  | [.int i, .int j] => some (.int (if j < i then j else i))
  | _ => none
def maxB : List D → Option D
  | [.int i, .int j] => some (.int (if j > i then j else i))
  | _ => none
def absB : List D → Option D
  | [.int i] => some (.int (if i < 0 then -i else i))
  | _ => none
theorem sr_abs : SmR K cm (fun xs H Q => ∃ i, xs = [.int i] ∧ Q (.int (if i < 0 then -i else i)) H) (fun ds => (absB ds).map fun d => .fd (.val d)) := smr_v fun F H σ env O vs ds d Q s ra e k => by
  unfold absB at e
  split at e
  · cases e
    obtain ⟨v, rfl, r1⟩ := ra.one
    cases r1
    exact ⟨_, rfl, k.here s (.int _)⟩
  · cases e
/-- list(x): of a list, a tuple, the script -/
def listB : List D → Option Od
  | [d] => (itemsF (.val d)).map fun ds => .fd (.lst ds)
  | _ => none
theorem sr_list : SmR K cm (fun xs H Q => ∃ p ys, xs = [.ref p] ∧ (SqL K H p ys ∨ SqT K H p ys) ∧ ∀ l, H l = none → Q (.ref l) (upd H l (.lst ys))) listB := fun F H σ env O vs ds o Q s ra e k => by
  unfold listB at e
  split at e
  · obtain ⟨es, e1, rfl⟩ := map_some e
    obtain ⟨v, rfl, r⟩ := ra.one
    obtain ⟨p, ws, rfl, hs, rs⟩ := (OwF.val r : OwF K cm F H v _ fun _ => False).seq s.fh e1
    exact ⟨p, ws, rfl, hs, fun l hl => k.fresh s hl rs⟩
  · cases e
def isort (l : List Int) : List Int := l.mergeSort (fun a b => decide (a ≤ b))
/-- sorted of ints -/
def sortB : List D → Option Od
  | [.lst ds] => (toInts ds).map fun ns => .fd (.lst ((isort ns).map .int))
  | _ => none
/-! sum of a list or of a tuple of ints -/
section
variable {prog : Program} {w : World} {A : Around} {E : Value → Shared → Prop} {s : Shared} {l : Addr} {xs : Array (Int × Tok)}
theorem iter_intTup {Q : Value → Shared → Prop} (hl : s.heap.IsTuple l (intItems xs))
    (h : ∀ s₂ : Shared, s₂ = { s with heap := s.heap.push { cls := .type "tuple_iterator", data := .fields #[.ref l, .int 0 0] } } →
      (s₂.heap.IsTupleIter s.heap.objs.size l 0 ∧ s₂.heap.IsTuple l (intItems xs)) → (∀ b ∈ [s.heap.objs.size, l], b < s₂.heap.objs.size) → l ≠ s.heap.objs.size → Q (.ref s.heap.objs.size) s₂) :
    wpAny (model prog w) A (pyIter (.ref l)) Q E s := by
  have hlt : l < s.heap.objs.size := by obtain ⟨_, e, _⟩ := hl; exact Heap.lt_size e
  refine wpAny_pyIter_tuple hl (h _ rfl ⟨⟨_, Heap.get?_push_size _ rfl, rfl, rfl⟩, hl.push _⟩ (fun b hb => ?_) (Nat.ne_of_lt hlt))
  show b < (s.heap.push _).objs.size
  rw [Heap.size_push]
  rcases List.mem_cons.mp hb with rfl | hb
  · exact Nat.lt_succ_self _
  · rcases List.mem_cons.mp hb with rfl | hb
    · exact Nat.lt_succ_of_lt hlt
    · cases hb
theorem old_keptT {h' : Heap} (hk : ∀ b o, b ∉ [s.heap.objs.size] → (s.heap.push { cls := .type "tuple_iterator", data := .fields #[.ref l, .int 0 0] }).get? b = some o → h'.get? b = some o) :
    ∀ b o, s.heap.get? b = some o → h'.get? b = some o := fun b o e => by
  refine hk b o (fun hm => ?_) (Heap.get?_push_of_some _ e)
  rcases List.mem_cons.mp hm with e1 | hm
  · exact absurd (e1 ▸ Heap.lt_size e) (Nat.lt_irrefl _)
  · cases hm
theorem sum_intTupG {Q : Value → Shared → Prop} (hh : A.handled = none) (hl : s.heap.IsTuple l (intItems xs))
    (h : ∀ h' tk t', (∀ b o, s.heap.get? b = some o → h'.get? b = some o) → Q (.int (preSum (numAt xs) xs.size) t') { s with heap := h', toks := tk }) :
    wpAny (model prog w) A (call (.builtin "sum") [.ref l]) Q E s := by
  refine call_sum_walkG (iter_intTup hl fun s₂ e st hfp hlI => ?_)
  subst e
  refine ⟨_, _, _, _, _, _, numAt xs, rfl, Walks.tuple (A := A.in1) hh _ l hlI (intItems xs), st, hfp, (fun _ _ => intItems_at), fun h' tk t' hk => ?_⟩
  have := h h' tk t' (old_keptT hk)
  simpa [intItems] using this
end
section
variable {prog : Program} {w : World} {A : Around} {E : Value → Shared → Prop} {s : Shared} {l : Addr} {its : List Value} {ns : List Int} {Q : Value → Shared → Prop}
theorem sum_rawT (hh : A.handled = none) (hl : s.heap.IsTuple l its.toArray) (hi : IntsAre its ns)
    (h : ∀ h' tk t', (∀ b o, s.heap.get? b = some o → h'.get? b = some o) → Q (.int ns.sum t') { s with heap := h', toks := tk }) : wpAny (model prog w) A (call (.builtin "sum") [.ref l]) Q E s := by
  obtain ⟨xs, e⟩ := hi.allInts.items
  have hn : numsOf (intItems xs).toList = ns := by rw [← e]; exact hi.numsOf
  rw [nums_intItems] at hn
  rw [e] at hl
  refine sum_intTupG hh hl fun h' tk t' hk => ?_
  have := h h' tk t' hk
  rw [preSum_eq, List.take_of_length_le (by simp), hn]; exact this
end
def rSumS (K : PySem.W.Frag) : List V → Hp → VK → Prop := fun vs H Q => ∃ (a : Addr) (ns : List Int), vs = [V.ref a] ∧ (SqL K H a (ns.map V.int) ∨ SqT K H a (ns.map V.int)) ∧ Q (.int ns.sum) H
section
variable {X : Cx}
theorem cr_sumS (hc : X.calm = true) : CallR X (.builtin "sum") (rSumS X.K) := by
  intro pins s σ H vs us Q I r h
  obtain ⟨a, ns, rfl, hs, q⟩ := h
  rw [Vals.ref1 r]
  rcases hs with hs | hs
  · obtain ⟨its, rv, hl, _⟩ := I.list hs
    exact sum_raw (I.ok.hd hc) hl.isList rv.ints fun h' tk t' hk => ⟨.int _, H, I.kept hk, ⟨_, rfl⟩, q⟩
  · obtain ⟨its, rv, hl, _⟩ := I.tuple hs
    exact sum_rawT (I.ok.hd hc) (show s.heap.IsTuple a its.toArray from hl) rv.ints fun h' tk t' hk => ⟨.int _, H, I.kept hk, ⟨_, rfl⟩, q⟩
end
def sumB : List D → Option D
  | [.lst ds] => (toInts ds).map fun ns => .int ns.sum
  | [.tup ds] => (toInts ds).map fun ns => .int ns.sum
  | _ => none
theorem sr_sum : SmR K cm (rSumS K) (fun ds => (sumB ds).map fun d => .fd (.val d)) := smr_v fun F H σ env O vs ds d Q s ra e k => by
  unfold sumB at e
  split at e
  · obtain ⟨ns, e1, rfl⟩ := map_some e
    obtain ⟨v, rfl, r⟩ := ra.one
    cases r with
    | lst h rs =>
      have e2 := rs.toInts e1
      subst e2
      exact ⟨_, ns, rfl, .inl (.of (s.fh.at h)), k.here s (.int _)⟩
  · obtain ⟨ns, e1, rfl⟩ := map_some e
    obtain ⟨v, rfl, r⟩ := ra.one
    cases r with
    | tup h rs =>
      have e2 := rs.toInts e1
      subst e2
      exact ⟨_, ns, rfl, .inr (tupT s.fh h), k.here s (.int _)⟩
  · cases e
def allB : List D → Option D
  | [.lst ds] => (toBls ds).map fun ns => .bl (ns.all id)
  | _ => none
def anyB : List D → Option D
  | [.lst ds] => (toBls ds).map fun ns => .bl (ns.any id)
  | _ => none
theorem sr_all : SmR K cm (rAll K) (fun ds => (allB ds).map fun d => .fd (.val d)) := smr_v fun F H σ env O vs ds d Q s ra e k => by
  unfold allB at e
  split at e
  · obtain ⟨ns, e1, rfl⟩ := map_some e
    obtain ⟨v, rfl, r⟩ := ra.one
    cases r with
    | lst h rs =>
      have e2 := rs.toBls e1
      subst e2
      exact ⟨_, ns, rfl, .of (s.fh.at h), k.here s (.bl _)⟩
  · cases e
/-! ### isinstance with a built-in class -/
def tyN : D → Option String
  | .non => some "NoneType"
  | .bl _ => some "bool"
  | .int _ => some "int"
  | .str _ => some "str"
  | .lst _ => some "list"
  | .tup _ => some "tuple"
  | .dik _ => some "dict"
  | .dit _ => some "dict"
  | _ => none
theorem Rp.tyX {F H : Hp} {v : V} {d : D} {T : String} (r : Rp K cm F v d) (fh : SmH F H) (e : tyN d = some T) : TyX K H v (.type T) := by
  cases r <;> cases e
  · exact .base .non
  · exact .base (.bl _)
  · exact .base (.int _)
  · exact .base (.str _)
  · rename_i h _; exact .base (.lst (fh.at h))
  · rename_i h _; exact .base (.tup (fh.at h))
  · rename_i h _ _; exact .base (.dK (fh.at h))
  · rename_i h _ _; exact .base (.dT (fh.at h))
theorem Rp.tyO {F H : Hp} {v : V} {c : Nat} {gs : List (Str × D)} (r : Rp K cm F v (.obj c gs)) (fh : SmH F H) : TyX K H v (.ref (cm c)) := by
  cases r with
  | obj h c _ _ => exact .base (.ins (fh.at h) c.ft.cl c.ft.ha c.ft.hn c.ft.ht c.ft.hm)
/-- isinstance(x, T): tab tells the answer for instances of the classes by their numbers -/
def isiB (T : String) (tab : Nat → Option Bool) (d : D) : Option D := match d with
  | .obj c _ => (tab c).map .bl
  | d => (tyN d).bind fun S => (kitB S T).map .bl
def isiC (tab : Nat → Option Bool) (d : D) : Option D := match d with
  | .obj c _ => (tab c).map .bl
  | d => (tyN d).map fun _ => .bl false
end
section
variable {X : Cx} {cm : Cm} {e a b c : Expr} {es : List Expr} {te ta tb tc : TE} {pos : Pos} {f g fa fb fc : P D} {fx : P Fd}
/-! ### tuple(..), list(range(..)), tuple(range(..)) -/
def tupB (d : D) : Option D := match d with
  | .tup xs => some (.tup xs)
  | .lst xs => some (.tup xs)
  | _ => none
theorem de_tupOf {p : Pos} {fa : M D} (hm : X.mg "tuple" = none) (ha : DE X cm a ta fa) (hg : Gl X "tuple" := by rfl) (na : starEach [a] X.env = (false, eval a X.env) :: starEach [] X.env := by rfl) :
    DE X cm (.Call (.Name "tuple" p) [a] [] pos) (tThen ta (kTup X.K)) (m1 tupB fa) := by
  refine ⟨pe_tupleOf hg hm ha.pe na, fun F H σ env O d env' Q s e k => ?_⟩
  obtain ⟨x, env1, e1, e⟩ := mb_some e
  obtain ⟨e3, e4⟩ := mo_some e
  dsimp only at e3 e4
  subst e4
  refine ha.sm F H σ env O x _ _ s e1 fun F1 H1 v O1 g1 s1 r => ?_
  cases x <;> cases e3
  · cases r with
    | lst h ra => exact .inl ⟨_, _, rfl, .of (s1.fh.at h), fun q hq => (k.go g1).alloc s1 hq fun F' sm e => .tup e (ra.mono sm)⟩
  · cases r with
    | tup h ra => exact .inr ⟨_, _, rfl, tupT s1.fh h, k F1 H1 _ O1 g1 s1 (.tup h ra)⟩
structure DRg (X : Cx) (cm : Cm) (e : Expr) (te : L2.St → Hp → (Int → Int → Hp → Prop) → Prop) (f : M (Int × Int)) : Prop where
  pe : PRg X e te
  sm : ∀ F H σ env O d env' (Q : Int → Int → Hp → Prop), Sts X.K cm F H σ env O → f env = some (d, env') → (∀ F' H' O', Go (Un O) F H (Un O') F' H' → Sts X.K cm F' H' σ env' O' → Q d.1 d.2 H') → te σ H Q
def toI (d : D) : Option Int := match d with
  | .int i => some i
  | _ => none
def rg1 (fa : M D) : M (Int × Int) := mb fa fun x => mo ((toI x).map fun n => (0, n))
def rg2 (fa fb : M D) : M (Int × Int) := mb fa fun x => mb fb fun y => mo ((toI x).bind fun i => (toI y).map fun j => (i, j))
theorem Rp.toI {K : PySem.W.Frag} {F : Hp} {v : V} {d : D} {i : Int} (r : Rp K cm F v d) (e : toI d = some i) : v = .int i := by
  cases r <;> cases e; rfl
theorem drg_1 {p : Pos} {fa : M D} (hm : X.mg "range" = none) (ha : DE X cm a ta fa) (hg : Gl X "range" := by rfl) (na : starEach [a] X.env = (false, eval a X.env) :: starEach [] X.env := by rfl) : DRg X cm (.Call (.Name "range" p) [a] [] pos) (tRg1 ta) (rg1 fa) := by
  refine ⟨prg_1 hg hm ha.pe na, fun F H σ env O d env' Q s e k => ?_⟩
  obtain ⟨x, env1, e1, e⟩ := mb_some e
  obtain ⟨e3, e4⟩ := mo_some e
  dsimp only at e3 e4
  subst e4
  obtain ⟨n, e5, rfl⟩ := map_some e3
  refine ha.sm F H σ env O x _ _ s e1 fun F1 H1 v O1 g1 s1 r => ?_
  exact ⟨n, r.toI e5, k F1 H1 O1 g1 s1⟩
def rgL (a b : Int) : List Int := (List.range (b - a).toNat).map fun i => a + (i : Nat)
theorem rgV_map (a b : Int) : rgV a b = (rgL a b).map V.int := by unfold rgV rgL; rw [List.map_map]; rfl
def rgC (d : Int × Int) : Bool := decide (-16777216 ≤ d.1 ∧ d.1 ≤ 16777216 ∧ d.2 ≤ 16777216 ∧ -16777216 ≤ d.2 ∧ d.2 - d.1 ≤ 16777216)
theorem rgC_ok {d : Int × Int} (h : rgC d = true) : RgOk d.1 d.2 := by
  have h := of_decide_eq_true h
  exact ⟨by omega, by omega, by omega, by omega, by omega⟩
def mlrg (f : M (Int × Int)) : M Od := mb f fun d => mo (if rgC d = true then some (.fd (.lst ((rgL d.1 d.2).map .int))) else none)
def mtrg (f : M (Int × Int)) : M D := mb f fun d => mo (if rgC d = true then some (.tup ((rgL d.1 d.2).map .int)) else none)
theorem ite_some {α : Type} {c : Prop} [Decidable c] {a b : α} (h : (if c then some a else none) = some b) : c ∧ a = b := by
  by_cases q : c
  · rw [if_pos q] at h; cases h; exact ⟨q, rfl⟩
  · rw [if_neg q] at h; cases h
theorem do_lrg {p : Pos} {te : L2.St → Hp → (Int → Int → Hp → Prop) → Prop} {f : M (Int × Int)} (hm : X.mg "list" = none) (h : DRg X cm e te f) (hc : X.calm = true := by rfl) (hg : Gl X "list" := by rfl) (na : starEach [e] X.env = (false, eval e X.env) :: starEach [] X.env := by rfl) :
    DO X cm (.Call (.Name "list" p) [e] [] pos) (tLstRg te) (mlrg f) := by
  refine ⟨pe_listRg hc hg hm h.pe na, fun F H σ env O d env' Q s e k => ?_⟩
  obtain ⟨x, env1, e1, e⟩ := mb_some e
  obtain ⟨e3, e4⟩ := mo_some e
  dsimp only at e3 e4
  subst e4
  obtain ⟨c, rfl⟩ := ite_some e3
  refine h.sm F H σ env O x _ _ s e1 fun F1 H1 O1 g1 s1 => ⟨rgC_ok c, fun q hq => ?_⟩
  rw [rgV_map]
  exact (k.go g1).fresh s1 hq (RpA.ints _)
end
end DL

/-! The data layer: statements, targets, walks, loops, comprehensions. -/
namespace DL
open PySem PySem.Spec PyProof.Rows L2

inductive Out where
  | nx | bk | ct | rt (o : Od)
abbrev G := Env → Option (Out × Env)
/-- the borrowed slots stand -/
structure Bor (B : List Nat) (σ σ' : L2.St) : Prop where
  ln : σ'.length = σ.length
  st : ∀ i ∈ B, σ'[i]? = σ[i]?
theorem Bor.refl {B : List Nat} {σ : L2.St} : Bor B σ σ := ⟨rfl, fun _ _ => rfl⟩
theorem Bor.trans {B : List Nat} {σ σ1 σ2 : L2.St} (a : Bor B σ σ1) (b : Bor B σ1 σ2) : Bor B σ σ2 := ⟨b.ln.trans a.ln, fun i h => (b.st i h).trans (a.st i h)⟩
theorem Bor.set {B : List Nat} {σ : L2.St} {i : Nat} {v : Option V} (h : i ∉ B) : Bor B σ (σ.set i v) := ⟨List.length_set, fun j hj => by
  rw [List.getElem?_set_ne]
  intro e; subst e; exact h hj⟩
/-- what is wanted behind a statement that ends so -/
def EndP (K : PySem.W.Frag) (cm : Cm) (B : List Nat) (Dn : Ends) (F H : Hp) (σ : L2.St) (O : Nat → Rg) (env' : Env) : Out → Prop
  | .nx => ∀ F' H' σ' O', Go (Un O) F H (Un O') F' H' → Sts K cm F' H' σ' env' O' → Bor B σ σ' → Dn.nx σ' H'
  | .bk => ∀ F' H' σ' O', Go (Un O) F H (Un O') F' H' → Sts K cm F' H' σ' env' O' → Bor B σ σ' → Dn.bk σ' H'
  | .ct => ∀ F' H' σ' O', Go (Un O) F H (Un O') F' H' → Sts K cm F' H' σ' env' O' → Bor B σ σ' → Dn.ct σ' H'
  | .rt o => ∀ F' H' σ' v O' R, Go (Un O) F H (fun p => R p ∨ Un O' p) F' H' → Sts K cm F' H' σ' env' O' → Bor B σ σ' → Ow K cm F' H' v o R → New F' H' O' R → Dn.rt v H'
theorem EndP.go {K : PySem.W.Frag} {cm : Cm} {B : List Nat} {Dn : Ends} {F H F1 H1 : Hp} {σ σ1 : L2.St} {O O1 : Nat → Rg} {env' : Env} {out : Out} (k : EndP K cm B Dn F H σ O env' out) (g : Go (Un O) F H (Un O1) F1 H1) (b : Bor B σ σ1) : EndP K cm B Dn F1 H1 σ1 O1 env' out := by
  cases out with
  | nx => exact fun F' H' σ' O' g' s' b' => k F' H' σ' O' (g.trans g') s' (b.trans b')
  | bk => exact fun F' H' σ' O' g' s' b' => k F' H' σ' O' (g.trans g') s' (b.trans b')
  | ct => exact fun F' H' σ' O' g' s' b' => k F' H' σ' O' (g.trans g') s' (b.trans b')
  | rt o => exact fun F' H' σ' v O' R g' s' b' => k F' H' σ' v O' R (g.trans g') s' (b.trans b')
/-- the ends of an inner statement by those of the outer one -/
theorem EndP.imp {K : PySem.W.Frag} {cm : Cm} {B : List Nat} {Dn En : Ends} {F H : Hp} {σ : L2.St} {O : Nat → Rg} {env' : Env} {out : Out} (k : EndP K cm B Dn F H σ O env' out) (h1 : out ≠ .nx) (h2 : En.bk = Dn.bk) (h3 : En.ct = Dn.ct) (h4 : En.rt = Dn.rt) : EndP K cm B En F H σ O env' out := by
  cases out with
  | nx => exact absurd rfl h1
  | bk => unfold EndP at k ⊢; rw [h2]; exact k
  | ct => unfold EndP at k ⊢; rw [h3]; exact k
  | rt o => unfold EndP at k ⊢; rw [h4]; exact k
def SmS (K : PySem.W.Frag) (cm : Cm) (B : List Nat) (ts : TS) (g : G) : Prop := ∀ F H σ env O out env' (Dn : Ends), Sts K cm F H σ env O → g env = some (out, env') → EndP K cm B Dn F H σ O env' out → ts Dn σ H
structure DS (X : Cx) (cm : Cm) (B : List Nat) (st : Stmt) (ts : TS) (g : G) : Prop where
  pe : PS X st ts
  sm : SmS X.K cm B ts g
structure DSs (X : Cx) (cm : Cm) (B : List Nat) (st : List Stmt) (ts : TS) (g : G) : Prop where
  pe : PSs X st ts
  sm : SmS X.K cm B ts g
def gnx : G := fun env => some (.nx, env)
def gseq (g h : G) : G := fun env => (g env).bind fun q => match q.1 with
  | .nx => h q.2
  | o => some (o, q.2)
def gm {α : Type} (f : M α) (g : α → G) : G := fun env => (f env).bind fun q => g q.1 q.2
theorem gm_some {α : Type} {f : M α} {g : α → G} {env : Env} {r : Out × Env} (h : gm f g env = some r) : ∃ a env1, f env = some (a, env1) ∧ g a env1 = some r := by
  unfold gm at h
  obtain ⟨q, e1, e2⟩ := bind_some h
  exact ⟨q.1, q.2, e1, e2⟩
section
variable {X : Cx} {cm : Cm} {B : List Nat} {e a b c : Expr} {es : List Expr} {te ta tb tc : TE} {pos : Pos} {st : Stmt} {rest : List Stmt} {t u : TS} {g h : G}
theorem dss_nil : DSs X cm B [] tNext gnx := ⟨pss_nil, fun F H σ env O out env' Dn s e k => by cases e; exact k F H σ O Go.refl s .refl⟩
theorem sms_seq (h1 : SmS X.K cm B t g) (h2 : SmS X.K cm B u h) : SmS X.K cm B (tSeq t u) (gseq g h) := fun F H σ env O out env' Dn s e k => by
  unfold gseq at e
  obtain ⟨⟨o1, env1⟩, e1, e⟩ := bind_some e
  cases o1 with
  | nx =>
    have e : h env1 = some (out, env') := e
    exact h1 F H σ env O _ env1 _ s e1 fun F1 H1 σ1 O1 g1 s1 b1 => h2 F1 H1 σ1 env1 O1 out env' Dn s1 e (k.go g1 b1)
  | bk =>
    have e : some (Out.bk, env1) = some (out, env') := e
    cases e
    exact h1 F H σ env O _ _ _ s e1 (k.imp (fun z => nomatch z) rfl rfl rfl)
  | ct =>
    have e : some (Out.ct, env1) = some (out, env') := e
    cases e
    exact h1 F H σ env O _ _ _ s e1 (k.imp (fun z => nomatch z) rfl rfl rfl)
  | rt o =>
    have e : some (Out.rt o, env1) = some (out, env') := e
    cases e
    exact h1 F H σ env O _ _ _ s e1 (k.imp (fun z => nomatch z) rfl rfl rfl)
theorem dss_cons (h1 : DS X cm B st t g) (h2 : DSs X cm B rest u h) : DSs X cm B (st :: rest) (tSeq t u) (gseq g h) := ⟨pss_cons h1.pe h2.pe, sms_seq h1.sm h2.sm⟩
theorem dss_one (h1 : DS X cm B st t g) : DSs X cm B [st] t g := ⟨pss_one h1.pe, h1.sm⟩
theorem ds_never : DS X cm B st tNever (fun _ => none) := ⟨ps_never, fun F H σ env O out env' Dn s e k => by cases e⟩
def gret (f : M Od) : G := fun env => (f env).map fun q => (.rt q.1, q.2)
theorem ds_ret {f : M Od} (h : DO X cm e te f) : DS X cm B (.Return (some e) pos) (tRet te) (gret f) := ⟨ps_ret h.pe, fun F H σ env O out env' Dn s e k => by
  obtain ⟨⟨o, env1⟩, e1, e2⟩ := map_some e
  cases e2
  exact h.sm F H σ env O o _ _ s e1 fun F' H' v O' R g s' ow n => k F' H' σ v O' R g s' .refl ow n⟩
def gif (c : M Bool) (g h : G) : G := gm c fun k => if k = true then g else h
theorem ds_if {tt : TT} {fc : M Bool} {sa sb : List Stmt} (hc : DT X cm c tt fc) (ha : DSs X cm B sa t g) (hb : DSs X cm B sb u h) : DS X cm B (.If c sa sb pos) (tIfS tt t u) (gif fc g h) := ⟨ps_if hc.pe ha.pe hb.pe, fun F H σ env O out env' Dn s e k => by
  obtain ⟨x, env1, e1, e⟩ := gm_some e
  refine hc.sm F H σ env O x _ _ s e1 fun F1 H1 O1 g1 s1 => ?_
  cases x with
  | true => rw [if_pos rfl] at e ⊢; exact ha.sm F1 H1 σ env1 O1 out env' Dn s1 e (k.go g1 .refl)
  | false => rw [if_neg Bool.false_ne_true] at e ⊢; exact hb.sm F1 H1 σ env1 O1 out env' Dn s1 e (k.go g1 .refl)⟩
/-- an expression as a statement -/
def gex (f : M D) : G := fun env => (f env).map fun q => (.nx, q.2)
theorem ds_expr {f : M D} (h : DE X cm e te f) (hs : swapsWith e none pos.line X.env = pure false := by rfl) : DS X cm B (.Expr e pos) (tDrop te) (gex f) := ⟨ps_expr h.pe hs, fun F H σ env O out env' Dn s e k => by
  obtain ⟨⟨o, env1⟩, e1, e2⟩ := map_some e
  cases e2
  exact h.sm F H σ env O o _ _ s e1 fun F' H' v O' g s' r => k F' H' σ O' g s' .refl⟩
/-! ### x = e -/
def gst (i : Nat) (f : M Od) : G := fun env => (f env).bind fun q => if i < q.2.length then some (.nx, q.2.set i (some q.1)) else none
theorem sms_asg {i : Nat} {f : M Od} (h : SmO X.K cm te f) (hB : i ∉ B) : SmS X.K cm B (tAsg te (gName i)) (gst i f) := fun F H σ env O out env' Dn s e k => by
  obtain ⟨⟨o, env1⟩, e1, e2⟩ := bind_some e
  obtain ⟨hi, e3⟩ := ite_some e2
  cases e3
  refine h F H σ env O o _ _ s e1 fun F' H' v O' R g s' ow n => ?_
  obtain ⟨O2, s2, sub⟩ := s'.seto (i := i) hi ow n
  exact k F' H' _ O2 (g.sub sub) s2 (.set hB)
theorem ds_set {i : Nat} {x : Str} {pos' : Pos} {f : M Od} (h : DO X cm e te f) (hN : X.N.Nodup) (hB : i ∉ B := by decide) (hi : X.N[i]? = some x := by rfl) (hx : Loc X.env.scope x := by first | exact .inl rfl | exact .inr rfl) (hs : swapsWith e (some (.Name x pos')) pos.line X.env = pure false := by rfl) (hf : X.fn x = true ∨ X.env.scope.names.lookup x = some .local := by first | exact .inl rfl | exact .inr rfl | assumption) :
    DS X cm B (.Assign [.Name x pos'] e pos) (tAsg te (gName i)) (gst i f) := ⟨ps_set hN hi hx h.pe hs hf, sms_asg h.sm hB⟩
/-! ### targets -/
abbrev Tg := D → Env → Option Env
def SmG (K : PySem.W.Frag) (cm : Cm) (B : List Nat) (g : TG) (tg : Tg) : Prop := ∀ F H σ env O x d env' (Q : L2.St → Hp → Prop), Sts K cm F H σ env O → Rp K cm F x d → tg d env = some env' → (∀ σ', Sts K cm F H σ' env' O → Bor B σ σ' → Q σ' H) → g x σ H Q
structure DG (X : Cx) (cm : Cm) (B : List Nat) (e : Expr) (g : TG) (tg : Tg) : Prop where
  pe : PG X e g
  sm : SmG X.K cm B g tg
def tgn (i : Nat) : Tg := fun d env => if i < env.length then some (env.set i (some (.fd (.val d)))) else none
theorem dg_name {i : Nat} {x : Str} (hN : X.N.Nodup) (hB : i ∉ B := by decide) (hi : X.N[i]? = some x := by rfl) (hx : Loc X.env.scope x := by first | exact .inl rfl | exact .inr rfl) (hf : X.fn x = true ∨ X.env.scope.names.lookup x = some .local := by first | exact .inl rfl | exact .inr rfl | assumption) : DG X cm B (.Name x pos) (gName i) (tgn i) := ⟨pg_name hN hi hx hf, fun F H σ env O x d env' Q s r e k => by
  obtain ⟨hi, e3⟩ := ite_some e
  cases e3
  exact k _ (s.setv hi r) (.set hB)⟩
structure DGs (X : Cx) (cm : Cm) (B : List Nat) (es : List Expr) (g : TGs) (tg : List D → Env → Option Env) : Prop where
  pe : PGs X es g
  sm : ∀ F H σ env O xs ds env' (Q : L2.St → Hp → Prop), Sts X.K cm F H σ env O → RpA X.K cm F xs ds → tg ds env = some env' → (∀ σ', Sts X.K cm F H σ' env' O → Bor B σ σ' → Q σ' H) → g xs σ H Q
def tgz : List D → Env → Option Env := fun ds env => match ds with
  | [] => some env
  | _ => none
def tgc (t : Tg) (u : List D → Env → Option Env) : List D → Env → Option Env := fun ds env => match ds with
  | [] => none
  | d :: ds => (t d env).bind fun env1 => u ds env1
theorem dgs_nil : DGs X cm B [] gNil tgz := ⟨pgs_nil, fun F H σ env O xs ds env' Q s r e k => by
  cases r with
  | nil => cases e; exact ⟨rfl, k σ s .refl⟩
  | cons h t => cases e⟩
theorem dgs_cons {t : TG} {u : TGs} {tg : Tg} {tgs : List D → Env → Option Env} (h1 : DG X cm B e t tg) (h2 : DGs X cm B es u tgs) (hs : (assignEach (e :: es) X.env).map (·.2) = assign e X.env :: (assignEach es X.env).map (·.2) := by rfl) : DGs X cm B (e :: es) (gCons t u) (tgc tg tgs) := ⟨pgs_cons h1.pe h2.pe hs, fun F H σ env O xs ds env' Q s r e k => by
  cases r with
  | nil => cases e
  | cons h r =>
    obtain ⟨env1, e1, e2⟩ := bind_some e
    exact ⟨_, _, rfl, h1.sm F H σ env O _ _ _ _ s h e1 fun σ1 s1 b1 => h2.sm F H σ1 env1 O _ _ _ _ s1 r e2 fun σ2 s2 b2 => k σ2 s2 (b1.trans b2)⟩⟩
def tgt (u : List D → Env → Option Env) : Tg := fun d env => match d with
  | .tup ds => u ds env
  | _ => none
theorem dg_tup {k : Nat} {t : TGs} {n : Nat} {tgs : List D → Env → Option Env} (h : DGs X cm B es t tgs) (hl : ∀ ds env env', tgs ds env = some env' → ds.length = n) (hc : X.calm = true := by rfl) (hn : (assignEach es X.env).length = n := by rfl) (hst : (assignEach es X.env).findIdx? (·.1) = none := by rfl) : DG X cm B (.Tuple es k pos) (gTup X.K n t) (tgt tgs) := ⟨pg_tup hc h.pe hn hst, fun F H σ env O x d env' Q s r e k => by
  cases d <;> try (cases e; done)
  cases r with
  | tup hp ra => exact ⟨_, _, rfl, tupT s.fh hp, by rw [ra.len]; exact hl _ _ _ e, h.sm F H σ env O _ _ _ _ s ra e k⟩⟩
theorem tg2_len {t u : Tg} : ∀ ds env env', tgc t (tgc u tgz) ds env = some env' → ds.length = 2
  | [], _, _, e => by cases e
  | [d], env, _, e => by obtain ⟨env1, e1, e2⟩ := bind_some e; cases e2
  | [d, d2], _, _, _ => rfl
  | d :: d2 :: d3 :: ds, env, _, e => by
    obtain ⟨env1, e1, e2⟩ := bind_some e
    obtain ⟨env2, e3, e4⟩ := bind_some e2
    cases e4
/-- target = e, the target a tuple of names -/
def gtg (f : M D) (tg : Tg) : G := fun env => (f env).bind fun q => (tg q.1 q.2).map fun env' => (.nx, env')
/-- a, b = e1, e2 -/
def gpar (i j : Nat) (f : M (List D)) : G := fun env => (f env).bind fun q => match q.1 with
  | [d1, d2] => if i < q.2.length ∧ j < q.2.length then some (.nx, (q.2.set i (some (.fd (.val d1)))).set j (some (.fd (.val d2)))) else none
  | _ => none
/-- x op= e, both values -/
def gaug (i : Nat) (op : D → D → Option D) (f : M D) : G := fun env => (pd i env).bind fun x => (f env).bind fun q => (op x q.1).bind fun z => if i < q.2.length then some (.nx, q.2.set i (some (.fd (.val z)))) else none
theorem ds_aug {i : Nat} {op : Operator} {ti : TIp} {gop : D → D → Option D} {f : M D} (h : DE X cm e te f) (ho : PIp X op ti) (hr : ∀ F H x y a b d Q, Rp X.K cm F x a → Rp X.K cm F y b → gop a b = some d → (∀ v, Rp X.K cm F v d → Q v H) → ti x y H Q)
    (hp : PS X st (tAug i te ti)) (hB : i ∉ B := by decide) : DS X cm B st (tAug i te ti) (gaug i gop f) := ⟨hp, fun F H σ env O out env' Dn s e k => by
  obtain ⟨x, e1, e⟩ := bind_some e
  obtain ⟨⟨y, env1⟩, e2, e⟩ := bind_some e
  obtain ⟨z, e3, e⟩ := bind_some e
  obtain ⟨hi, e4⟩ := ite_some e
  cases e4
  unfold pd at e1
  split at e1
  · rename_i d q
    cases e1
    obtain ⟨v, ev, ow⟩ := s.at_ i _ q
    cases ow with
    | fd r => cases r with
      | val r =>
        refine ⟨v, ev, h.sm F H σ env O y _ _ s e2 fun F' H' w O' g s' r' => ?_⟩
        exact hr F' H' v w x y z _ (r.mono g.ff) r' e3 fun u ru => k F' H' _ O' g (s'.setv hi ru) (.set hB)
  · cases e1⟩
theorem ipI_sm {K : PySem.W.Frag} {g : Int → Int → Int} : ∀ F H x y a b d Q, Rp K cm F x a → Rp K cm F y b → liI (fun i j => .int (g i j)) a b = some d → (∀ v, Rp K cm F v d → Q v H) → ipI g x y H Q := fun F H x y a b d Q ra rb e k => by
  cases a <;> first | (cases e; done) | skip
  cases b <;> cases e
  cases ra; cases rb
  exact ⟨_, _, rfl, rfl, k _ (.int _)⟩
end

/-! ### what a slot owns is changed -/
section
variable {X : Cx} {cm : Cm} {B : List Nat} {e a b c : Expr} {es : List Expr} {te ta tb tc : TE} {pos : Pos} {fb : P D}
/-- a list in slot i -/
def lstAt (i : Nat) (env : Env) : Option (List D) := match env[i]? with
  | some (some (.fd (.lst ds))) => some ds
  | _ => none
theorem lstAt_at {K : PySem.W.Frag} {F H : Hp} {σ : L2.St} {env : Env} {O : Nat → Rg} {i : Nat} {ds : List D} (s : Sts K cm F H σ env O) (e : lstAt i env = some ds) : ∃ p vs, env[i]? = some (some (.fd (.lst ds))) ∧ σ[i]? = some (some (.ref p)) ∧ H p = some (.lst vs) ∧ RpA K cm F vs ds ∧ O i p := by
  unfold lstAt at e
  split at e
  · rename_i q
    cases e
    obtain ⟨v, ev, ow⟩ := s.at_ i _ q
    cases ow with
    | fd r => cases r with
      | lst h r z => exact ⟨_, _, q, ev, h, r, z⟩
  · cases e
theorem Sts.wlst {K : PySem.W.Frag} {F H : Hp} {σ : L2.St} {env : Env} {O : Nat → Rg} {i : Nat} {ds ds' : List D} {p : Addr} {vs' : List V} (s : Sts K cm F H σ env O) (q : env[i]? = some (some (.fd (.lst ds)))) (ev : σ[i]? = some (some (.ref p))) (z : O i p) (r : RpA K cm F vs' ds') :
    Sts K cm F (upd H p (.lst vs')) σ (env.set i (some (.fd (.lst ds')))) O ∧ Go (Un O) F H (Un O) F (upd H p (.lst vs')) := s.write q ev z (.fd (.lst upd_same r z))

theorem szlt {n : Nat} (h : n < 16777216) : n < sizeLine := by rw [sizeLine_eq]; exact h
theorem tyV_l {K : PySem.W.Frag} {H : Hp} {p : Addr} {vs : List V} (h : H p = some (.lst vs)) : tyV K "list" (.ref p) H := .inl ⟨rfl, _, .of h⟩
/-- a method of the list in slot i, upon values -/
def SmM (K : PySem.W.Frag) (cm : Cm) (r : V → List V → Hp → VK → Prop) (g : List D → List D → Option (D × List D)) : Prop := ∀ F H p vs ds xs es d ds' (Q : VK), H p = some (.lst vs) → RpA K cm F vs ds → RpA K cm F xs es → SmH F H → g ds es = some (d, ds') →
  (∀ v vs', Rp K cm F v d → RpA K cm F vs' ds' → Q v (upd H p (.lst vs'))) → r (.ref p) xs H Q
def mme (i : Nat) (g : List D → List D → Option (D × List D)) (f : M (List D)) : M D := fun env => (lstAt i env).bind fun _ => (f env).bind fun q => (lstAt i q.2).bind fun ds => (g ds q.1).map fun r => (r.1, q.2.set i (some (.fd (.lst r.2))))
theorem sm_me {r : V → List V → Hp → VK → Prop} {g : List D → List D → Option (D × List D)} {t : TA} {f : M (List D)} {i : Nat} (hr : SmM X.K cm r g) (ha : SmA X.K cm t f) : Sm X.K cm (tBM X.K "list" r (tVar i) t) (mme i g f) := fun F H σ env O d env' Q s e k => by
  obtain ⟨ds0, e0, e⟩ := bind_some e
  obtain ⟨⟨es, env1⟩, e1, e⟩ := bind_some e
  obtain ⟨ds, e2, e⟩ := bind_some e
  obtain ⟨⟨d', ds'⟩, e3, e4⟩ := map_some e
  cases e4
  obtain ⟨p, vs, q, ev, h, ra, z⟩ := lstAt_at s e0
  refine ⟨_, ev, tyV_l h, ha F H σ env O es env1 _ s e1 fun F1 H1 xs O1 g1 s1 rx => ?_⟩
  obtain ⟨p', vs', q', ev', h', ra', z'⟩ := lstAt_at s1 e2
  have e5 : p' = p := by rw [ev] at ev'; cases ev'; rfl
  subst e5
  refine hr F1 H1 p' vs' ds xs es _ ds' Q h' ra' rx s1.fh e3 fun v vs2 rv r2 => ?_
  obtain ⟨s2, g2⟩ := s1.wlst q' ev' z' r2
  exact k F1 _ v O1 (g1.trans g2) s2 rv
def appL (ds : List D) : List D → Option (D × List D)
  | [d] => if ds.length < 16777216 then some (.non, ds ++ [d]) else none
  | _ => none
theorem sr_app {K : PySem.W.Frag} : SmM K cm rAppend appL := fun F H p vs ds xs es d ds' Q h ra rx fh e k => by
  unfold appL at e
  split at e
  · obtain ⟨c, e⟩ := ite_some e
    cases e
    obtain ⟨v, rfl, rv⟩ := rx.one
    exact ⟨p, vs, v, rfl, rfl, h, szlt (by rw [ra.len]; exact c), k _ _ .non (ra.app (.cons rv .nil))⟩
  · cases e
def extL (ds : List D) : List D → Option (D × List D)
  | [.lst es] => if ds.length + es.length ≤ 16777216 then some (.non, ds ++ es) else none
  | _ => none
def popL (ds : List D) : List D → Option (D × List D)
  | [.int i] => if -(2 ^ 63) ≤ i ∧ i < 2 ^ 63 then (seqIndex? i ds.length).bind fun k => (ds[k]?).map fun d => (d, ds.eraseIdx k) else none
  | _ => none
theorem sr_popAt {K : PySem.W.Frag} : SmM K cm rPopAt popL := fun F H p vs ds xs es d ds' Q h ra rx fh e k => by
  unfold popL at e
  split at e
  · rename_i i
    by_cases c : -(2 ^ 63) ≤ i ∧ i < 2 ^ 63
    · rw [if_pos c] at e
      obtain ⟨j, e1, e⟩ := bind_some e
      obtain ⟨d1, e2, e3⟩ := map_some e
      cases e3
      obtain ⟨v, rfl, rv⟩ := rx.one
      cases rv
      obtain ⟨w, h1, r1⟩ := ra.getD e2
      exact ⟨p, vs, _, j, w, rfl, rfl, h, c.1, c.2, by rw [ra.len]; exact e1, h1, k _ _ r1 (ra.erase j)⟩
    · rw [if_neg c] at e; cases e
  · cases e
section
variable {x : Str} {pn ap cp : Pos} {t : TA} {f : M (List D)} {i : Nat}
theorem de_app (ha : DA X cm [e] t f) (hN : X.N[i]? = some x := by rfl) (hv : Vis X.env.scope x := by first | exact Or.inl rfl | exact Or.inr (Or.inl rfl) | exact Or.inr (Or.inr rfl)) (hd : (x == ("__debug__" : Str)) = false := by decide) (hcd : (x == ("__classdict__" : Str)) = false := by decide)
    (hbase : attributeBase (.Name x pn) "append" X.env (eval (.Name x pn) X.env) = eval (.Name x pn) X.env := by rfl)
    (hfew : ((backTo cp (starEach [e] X.env)).all (fun x => !x.1) && (backToKw cp (keywordEach [] X.env)).all (fun x => x.1.isSome) && decide ([e].length + ([] : List Keyword).length + (if ([] : List Keyword).isEmpty then 0 else 1) < 30)) = true := by rfl)
    (hline : (ap.endLine == cp.line) = true := by rfl) (hs : starEach [e] X.env = (false, eval e X.env) :: starEach [] X.env := by rfl) (hpl : (backTo cp (starEach [] X.env)).any (·.1) = false := by rfl) :
    DE X cm (.Call (.Attribute (.Name x pn) "append" ap) [e] [] cp) (tBM X.K "list" rAppend (tVar i) t) (mme i appL f) :=
  ⟨pe_bm PySem.F.plainAttrs_list PySem.F.slot_list_append PySem.F.type_list_append mt_append (pe_var hN hv hd hcd) ha.pe hbase hfew hline hs hpl, sm_me sr_app ha.sm⟩
theorem de_popAt (ha : DA X cm [e] t f) (hN : X.N[i]? = some x := by rfl) (hv : Vis X.env.scope x := by first | exact Or.inl rfl | exact Or.inr (Or.inl rfl) | exact Or.inr (Or.inr rfl)) (hd : (x == ("__debug__" : Str)) = false := by decide) (hcd : (x == ("__classdict__" : Str)) = false := by decide)
    (hbase : attributeBase (.Name x pn) "pop" X.env (eval (.Name x pn) X.env) = eval (.Name x pn) X.env := by rfl)
    (hfew : ((backTo cp (starEach [e] X.env)).all (fun x => !x.1) && (backToKw cp (keywordEach [] X.env)).all (fun x => x.1.isSome) && decide ([e].length + ([] : List Keyword).length + (if ([] : List Keyword).isEmpty then 0 else 1) < 30)) = true := by rfl)
    (hline : (ap.endLine == cp.line) = true := by rfl) (hs : starEach [e] X.env = (false, eval e X.env) :: starEach [] X.env := by rfl) (hpl : (backTo cp (starEach [] X.env)).any (·.1) = false := by rfl) :
    DE X cm (.Call (.Attribute (.Name x pn) "pop" ap) [e] [] cp) (tBM X.K "list" rPopAt (tVar i) t) (mme i popL f) :=
  ⟨pe_bm PySem.F.plainAttrs_list PySem.F.slot_list_pop PySem.F.type_list_pop mt_popAt (pe_var hN hv hd hcd) ha.pe hbase hfew hline hs hpl, sm_me sr_popAt ha.sm⟩
end
/-- x[i] = e, x a list in a slot, i plain -/
def gsi (j : Nat) (fb : P D) (f : M D) : G := fun env => (f env).bind fun q => (lstAt j q.2).bind fun ds => (fb q.2).bind fun b => (toI b).bind fun z => (ixN ds.length z).map fun n => (.nx, q.2.set j (some (.fd (.lst (ds.set n q.1)))))
theorem ds_si {j : Nat} {x : Str} {px : Pos} {f : M D} {p2 : Pos} (h : DE X cm e te f) (hb : DP X cm b tb fb) (hN : X.N[j]? = some x := by rfl) (hv : Vis X.env.scope x := by first | exact Or.inl rfl | exact Or.inr (Or.inl rfl) | exact Or.inr (Or.inr rfl)) (hd : (x == ("__debug__" : Str)) = false := by decide) (hcd : (x == ("__classdict__" : Str)) = false := by decide)
    (ha : ∀ v, assign (.Subscript (.Name x px) b p2) X.env v = (do
      let ov ← holding [v] (eval (.Name x px) X.env)
      let iv ← holding [v, ov] (eval b X.env)
      standAt p2
      holding [v, ov, iv] (setItem ov iv v)
      release [v, ov, iv] []) := by intro _; rfl)
    (hs : swapsWithSole [.Subscript (.Name x px) b p2] e pos.line X.env = pure false := by rfl) (hw : swappedStores [.Subscript (.Name x px) b p2] e X.env = pure none := by rfl) (h1 : (assignEach [.Subscript (.Name x px) b p2] X.env).map (·.2) = [assign (.Subscript (.Name x px) b p2) X.env] := by rfl) :
    DS X cm B (.Assign [.Subscript (.Name x px) b p2] e pos) (tAsg te (gSub (tVar j) tb rSetL)) (gsi j fb f) := ⟨ps_asg h.pe (pg_sub (pe_var hN hv hd hcd) hb.pe set_list ha) hs hw h1, fun F H σ env O out env' Dn s e k => by
  obtain ⟨⟨d, env1⟩, e1, e⟩ := bind_some e
  obtain ⟨ds, e2, e⟩ := bind_some e
  obtain ⟨i, e3, e⟩ := bind_some e
  obtain ⟨z, e4, e⟩ := bind_some e
  obtain ⟨n, e5, e6⟩ := map_some e
  cases e6
  refine h.sm F H σ env O d _ _ s e1 fun F1 H1 v O1 g1 s1 r => ?_
  obtain ⟨p, vs, q, ev, hp, ra, zz⟩ := lstAt_at s1 e2
  refine ⟨_, ev, hb.sm F1 H1 σ _ O1 i _ s1 e3 fun w rw' => ?_⟩
  obtain ⟨s2, g2⟩ := s1.wlst (vs' := vs.set n v) (ds' := ds.set n d) q ev zz (ra.set r n)
  exact ⟨p, vs, z, n, rfl, rw'.toI e4, hp, by rw [ra.len]; exact e5, k _ _ σ O1 (g1.trans g2) s2 .refl⟩⟩
end

/-! ### walks -/
/-- what a walk gives at its turns: the data, each frozen, or laid anew as a pair -/
def WkD (K : PySem.W.Frag) (cm : Cm) (F : Hp) (J : It) (ds : List D) : Prop := ∃ Y, Walk J ds.length (fun H => SmH F H) Y ∧ ∀ i H x H' d, ds[i]? = some d → SmH F H → Y i H x H' →
  (H' = H ∧ Rp K cm F x d) ∨ ∃ T vs es, x = .ref T ∧ H T = none ∧ H' = upd H T (.tup vs) ∧ d = .tup es ∧ RpA K cm F vs es
def SmI (K : PySem.W.Frag) (cm : Cm) (wi : TI) (f : M (List D)) : Prop := ∀ F H σ env O ds env' (R : It → Hp → Prop), Sts K cm F H σ env O → f env = some (ds, env') →
  (∀ F' H' O' J, Go (Un O) F H (Un O') F' H' → Sts K cm F' H' σ env' O' → WkD K cm F' J ds → R J H') → wi σ H R
structure DI (X : Cx) (cm : Cm) (tg iter : Expr) (wi : TI) (f : M (List D)) : Prop where
  pe : PI X tg iter wi
  sm : SmI X.K cm wi f
section
variable {X : Cx} {cm : Cm} {B : List Nat} {tg e a b c : Expr} {es : List Expr} {te ta tb tc : TE} {pos : Pos} {fb : P D}
theorem wk_list {K : PySem.W.Frag} {F : Hp} {a : Addr} {vs : List V} {ds : List D} (h : SqL K F a vs) (r : RpA K cm F vs ds) : WkD K cm F (Itl K a) ds :=
  ⟨YAt vs, by rw [← r.len]; exact walk_list.mono (fun H fh => fh.seq h) fun _ _ _ _ _ _ y => y, fun i H x H' d hd fh y => .inl ⟨y.1, r.at2 y.2 hd⟩⟩
theorem wk_tup {K : PySem.W.Frag} {F : Hp} {a : Addr} {vs : List V} {ds : List D} (h : SqT K F a vs) (r : RpA K cm F vs ds) : WkD K cm F (Itt K a) ds :=
  ⟨YAt vs, by rw [← r.len]; exact walk_tup.mono (fun H fh => fh.sqT h) fun _ _ _ _ _ _ y => y, fun i H x H' d hd fh y => .inl ⟨y.1, r.at2 y.2 hd⟩⟩
def rgN (lo : Int) (n : Nat) : List D := (List.range n).map fun i => .int (lo + (i : Nat))
theorem wk_range {K : PySem.W.Frag} {F : Hp} {lo : Int} {n : Nat} : WkD K cm F (Itr lo n) (rgN lo n) := by
  have hl : (rgN lo n).length = n := by unfold rgN; rw [List.length_map, List.length_range]
  refine ⟨YFn fun i => .int (lo + i), by rw [hl]; exact walk_range.mono (fun _ _ => trivial) fun _ _ _ _ _ _ y => y, fun i H x H' d hd fh y => .inl ⟨y.1, ?_⟩⟩
  unfold rgN at hd
  rw [List.getElem?_map] at hd
  obtain ⟨j, e1, rfl⟩ := map_some hd
  have hi : i < n := by
    have := (List.getElem?_eq_some_iff.mp e1).1
    rw [List.length_range] at this; exact this
  rw [List.getElem?_range hi] at e1
  cases e1
  rw [y.2]
  exact .int _
def itR1 (f : M D) : M (List D) := mb f fun d => mo ((toI d).bind fun j => if -(2 ^ 62) ≤ j ∧ j < 2 ^ 62 then some (rgN 0 j.toNat) else none)
theorem di_rng1 {p pos : Pos} {f : M D} (hm : X.mg "range" = none) (h : DE X cm a ta f) (hg : Gl X "range" := by rfl) (hs : starEach [a] X.env = [(false, eval a X.env)] := by rfl) : DI X cm tg (.Call (.Name "range" p) [a] [] pos) (iRng1 (tCons ta tNil)) (itR1 f) := ⟨pi_range1 hg hm (pa_cons h.pe pa_nil hs) hs, fun F H σ env O ds env' R s e k => by
  obtain ⟨x, env1, e1, e⟩ := mb_some e
  obtain ⟨e3, e4⟩ := mo_some e
  dsimp only at e3 e4
  subst e4
  obtain ⟨j, e5, e6⟩ := bind_some e3
  obtain ⟨c, rfl⟩ := ite_some e6
  refine h.sm F H σ env O x _ _ s e1 fun F1 H1 v O1 g1 s1 r => ?_
  exact ⟨j, by rw [r.toI e5], c.1, c.2, k F1 H1 O1 _ g1 s1 wk_range⟩⟩
def itR2 (f g : M D) : M (List D) := mb f fun d => mb g fun d2 => mo ((toI d).bind fun i => (toI d2).bind fun j => if -(2 ^ 62) ≤ i ∧ i < 2 ^ 62 ∧ -(2 ^ 62) ≤ j ∧ j < 2 ^ 62 then some (rgN i (j - i).toNat) else none)
theorem di_rng2 {p pos : Pos} {f g : M D} (hm : X.mg "range" = none) (h : DE X cm a ta f) (h2 : DE X cm b tb g) (hg : Gl X "range" := by rfl) (hs : starEach [a, b] X.env = [(false, eval a X.env), (false, eval b X.env)] := by rfl) (hs2 : starEach [b] X.env = [(false, eval b X.env)] := by rfl) :
    DI X cm tg (.Call (.Name "range" p) [a, b] [] pos) (iRng2 (tCons ta (tCons tb tNil))) (itR2 f g) := ⟨pi_range2 hg hm (pa_cons h.pe (pa_cons h2.pe pa_nil hs2) (by rw [hs, hs2])) hs hs2, fun F H σ env O ds env' R s e k => by
  obtain ⟨x, env1, e1, e⟩ := mb_some e
  obtain ⟨y, env2, e2, e⟩ := mb_some e
  obtain ⟨e3, e4⟩ := mo_some e
  dsimp only at e3 e4
  subst e4
  obtain ⟨i, e5, e6⟩ := bind_some e3
  obtain ⟨j, e7, e8⟩ := bind_some e6
  obtain ⟨c, rfl⟩ := ite_some e8
  refine h.sm F H σ env O x _ _ s e1 fun F1 H1 v O1 g1 s1 r1 => h2.sm F1 H1 σ _ O1 y _ _ s1 e2 fun F2 H2 w O2 g2 s2 r2 => ?_
  exact ⟨i, j, by rw [r1.toI e5, r2.toI e7], c, k F2 H2 O2 _ (g1.trans g2) s2 wk_range⟩⟩
/-! enumerate, zip -/
def enD : Nat → List D → List D
  | _, [] => []
  | n, d :: ds => .tup [.int (n : Nat), d] :: enD (n + 1) ds
theorem enD_len : ∀ (n : Nat) (ds : List D), (enD n ds).length = ds.length
  | _, [] => rfl
  | n, d :: ds => by unfold enD; rw [List.length_cons, List.length_cons, enD_len]
theorem enD_at : ∀ (n : Nat) (ds : List D) (i : Nat) (d : D), (enD n ds)[i]? = some d → ∃ x, ds[i]? = some x ∧ d = .tup [.int ((n + i : Nat) : Nat), x]
  | _, [], i, d, e => by simp [enD] at e
  | n, y :: ds, 0, d, e => by simp [enD] at e; exact ⟨y, rfl, e.symm⟩
  | n, y :: ds, i + 1, d, e => by
    simp only [enD, List.getElem?_cons_succ] at e
    obtain ⟨x, h1, h2⟩ := enD_at (n + 1) ds i d e
    exact ⟨x, by simpa using h1, by rw [h2, show n + 1 + i = n + (i + 1) by omega]⟩
theorem wk_enum {K : PySem.W.Frag} {F : Hp} {a : Addr} {vs : List V} {ds : List D} (h : SqL K F a vs) (r : RpA K cm F vs ds) : WkD K cm F (Ite K a) (enD 0 ds) := by
  refine ⟨_, by rw [enD_len, ← r.len]; exact walk_enum.mono (fun H fh => fh.seq h) fun _ _ _ _ _ _ y => y, fun i H x H' d hd fh y => .inr ?_⟩
  obtain ⟨T, u, v, e1, e2, e3, e4, e5⟩ := y
  obtain ⟨z, h1, rfl⟩ := enD_at 0 ds i d hd
  cases e4
  exact ⟨T, _, _, e1, e2, e3, rfl, .cons (by rw [Nat.zero_add]; exact .int _) (.cons (r.at2 e5 h1) .nil)⟩
theorem wk_enumT {K : PySem.W.Frag} {F : Hp} {a : Addr} {vs : List V} {ds : List D} (h : SqT K F a vs) (r : RpA K cm F vs ds) : WkD K cm F (IteT K a) (enD 0 ds) := by
  refine ⟨_, by rw [enD_len, ← r.len]; exact walk_enumT.mono (fun H fh => fh.sqT h) fun _ _ _ _ _ _ y => y, fun i H x H' d hd fh y => .inr ?_⟩
  obtain ⟨T, u, v, e1, e2, e3, e4, e5⟩ := y
  obtain ⟨z, h1, rfl⟩ := enD_at 0 ds i d hd
  cases e4
  exact ⟨T, _, _, e1, e2, e3, rfl, .cons (by rw [Nat.zero_add]; exact .int _) (.cons (r.at2 e5 h1) .nil)⟩
def zpD : List D → List D → List D
  | x :: xs, y :: ys => .tup [x, y] :: zpD xs ys
  | _, _ => []
theorem zpD_len : ∀ xs ys : List D, (zpD xs ys).length = min xs.length ys.length
  | [], _ => by simp [zpD]
  | _ :: _, [] => by simp [zpD]
  | x :: xs, y :: ys => by simp only [zpD, List.length_cons, zpD_len xs ys]; omega
theorem zpD_at : ∀ (xs ys : List D) (i : Nat) (d : D), (zpD xs ys)[i]? = some d → ∃ x y, xs[i]? = some x ∧ ys[i]? = some y ∧ d = .tup [x, y]
  | [], _, i, d, e => by simp [zpD] at e
  | _ :: _, [], i, d, e => by simp [zpD] at e
  | x :: xs, y :: ys, 0, d, e => by simp [zpD] at e; exact ⟨x, y, rfl, rfl, e.symm⟩
  | x :: xs, y :: ys, i + 1, d, e => by
    simp only [zpD, List.getElem?_cons_succ] at e
    obtain ⟨a, b, h1, h2, h3⟩ := zpD_at xs ys i d e
    exact ⟨a, b, by simpa using h1, by simpa using h2, h3⟩
theorem walk_zipT {K : PySem.W.Frag} {a b : Addr} {xs ys : List V} {n : Nat} (hn : n = min xs.length ys.length) : Walk (RZ.ItzT K a b) n (fun H => SqT K H a xs ∧ SqT K H b ys) (YPair (fun i => xs[i]?) (fun i => ys[i]?)) :=
  ⟨fun i H hi h => ⟨xs, ys, xs[i]'(by omega), ys[i]'(by omega), h.1, h.2, List.getElem?_eq_getElem (by omega), List.getElem?_eq_getElem (by omega)⟩, fun H h => ⟨xs, ys, h.1, h.2, by omega⟩, fun i H x H' hi h y => by
    obtain ⟨T, z, u, e1, e2, e3, e4, e5⟩ := y
    exact ⟨T, z, u, e1, e2, e3, e4 xs h.1, e5 ys h.2⟩⟩
def itZ (f : M (List D)) : M (List D) := mb f fun ds => mo (match ds with | [.tup xs, .tup ys] => some (zpD xs ys) | [.lst xs, .lst ys] => some (zpD xs ys) | _ => none)
theorem wk_pair {K : PySem.W.Frag} {F : Hp} {J : It} {vs ws : List V} {xs ys : List D} {G : Hp → Prop} (w : Walk J (min vs.length ws.length) G (YPair (fun i => vs[i]?) (fun i => ws[i]?))) (hG : ∀ H, SmH F H → G H) (r1 : RpA K cm F vs xs) (r2 : RpA K cm F ws ys) : WkD K cm F J (zpD xs ys) := by
  refine ⟨_, by rw [zpD_len, ← r1.len, ← r2.len]; exact w.mono hG fun _ _ _ _ _ _ y => y, fun i H x H' d hd fh y => .inr ?_⟩
  obtain ⟨T, u, v, e1, e2, e3, e4, e5⟩ := y
  obtain ⟨a, b, h1, h2, rfl⟩ := zpD_at xs ys i d hd
  exact ⟨T, _, _, e1, e2, e3, rfl, .cons (r1.at2 e4 h1) (.cons (r2.at2 e5 h2) .nil)⟩
theorem di_zip {t : TA} {f : M (List D)} {p pos tpos : Pos} {elts : List Expr} {kk : Nat} (hm : X.mg "zip" = none) (h : DA X cm [a, b] t f) (hg : Gl X "zip" := by rfl) (hs : starEach [a, b] X.env = (false, eval a X.env) :: starEach [b] X.env := by rfl) (hpl : (backTo pos (starEach [b] X.env)).any (·.1) = false := by rfl) :
    DI X cm (.Tuple elts kk tpos) (.Call (.Name "zip" p) [a, b] [] pos) (RZ.iZipA X.K t) (itZ f) := ⟨RZ.pi_zipA hg hm h.pe hs hpl, fun F H σ env O ds env' R s e k => by
  obtain ⟨x, env1, e1, e⟩ := mb_some e
  obtain ⟨e3, e4⟩ := mo_some e
  dsimp only at e3 e4
  subst e4
  refine h.sm F H σ env O x _ _ s e1 fun F1 H1 vs O1 g1 s1 r => ?_
  split at e3
  · cases e3
    obtain ⟨v, w, rfl, r1, r2⟩ := r.two
    cases r1 with
    | tup h1 ra =>
      cases r2 with
      | tup h2 rb => exact ⟨_, _, _, _, rfl, .inr ⟨tupT s1.fh h1, tupT s1.fh h2, k F1 H1 O1 _ g1 s1 (wk_pair (walk_zipT rfl) (fun H fh => ⟨tupT fh h1, tupT fh h2⟩) ra rb)⟩⟩
  · cases e3
    obtain ⟨v, w, rfl, r1, r2⟩ := r.two
    cases r1 with
    | lst h1 ra =>
      cases r2 with
      | lst h2 rb => exact ⟨_, _, _, _, rfl, .inl ⟨.of (s1.fh.at h1), .of (s1.fh.at h2), k F1 H1 O1 _ g1 s1 (wk_pair (walk_zip rfl) (fun H fh => ⟨.of (fh.at h1), .of (fh.at h2)⟩) ra rb)⟩⟩
  · cases e3⟩
end

/-! ### for -/
/-- a target's step: a pair that was laid anew is frozen first -/
def forD (tg : Tg) (body : G) : List D → G
  | [], env => some (.nx, env)
  | d :: ds, env => (tg d env).bind fun env1 => (body env1).bind fun q => match q.1 with
    | .nx => forD tg body ds q.2
    | .ct => forD tg body ds q.2
    | .bk => some (.nx, q.2)
    | .rt o => some (.rt o, q.2)
def gfor (f : M (List D)) (tg : Tg) (body : G) : G := fun env => (f env).bind fun q => forD tg body q.1 q.2
section
variable {X : Cx} {cm : Cm} {B : List Nat} {tg e a b c iter : Expr} {es : List Expr} {te ta tb tc : TE} {pos : Pos} {fb : P D}
/-- the item of a turn as a frozen datum -/
theorem wk_turn {K : PySem.W.Frag} {F0 F H H' : Hp} {J : It} {ds : List D} {x : V} {d : D} {σ : L2.St} {env : Env} {O : Nat → Rg} (h : (H' = H ∧ Rp K cm F0 x d) ∨ ∃ T vs es, x = .ref T ∧ H T = none ∧ H' = upd H T (.tup vs) ∧ d = .tup es ∧ RpA K cm F0 vs es) (sm : Same F0 F) (s : Sts K cm F H σ env O) :
    ∃ F', Sts K cm F' H' σ env O ∧ Go (Un O) F H (Un O) F' H' ∧ Rp K cm F' x d := by
  rcases h with ⟨rfl, r⟩ | ⟨T, vs, es, rfl, hT, rfl, rfl, r⟩
  · exact ⟨F, s, Go.refl, r.mono sm⟩
  · obtain ⟨s1, g1⟩ := s.alloc (o := .tup vs) hT
    exact ⟨_, s1, g1, .tup upd_same ((r.mono sm).mono (same_new (s.fnone hT)))⟩
theorem ds_for {wi : TI} {g : TG} {tgd : Tg} {t : TS} {f : M (List D)} {body : List Stmt} {gb : G} (hi : DI X cm tg iter wi f) (hg : DG X cm B tg g tgd) (hb : DSs X cm B body t gb) (hc : X.calm = true := by rfl) (hp : PassesOwn (model X.prog X.w) X.A X.env X.xe := by exact PassesOwn.never) (hs : ∀ x, foldedSetIterable iter X.env x = pure x := by intro _; rfl) :
    DS X cm B (.For tg iter body [] pos) (tFor wi g t) (gfor f tgd gb) := ⟨ps_for hp hc hi.pe hg.pe hb.pe hs, fun F H σ env O out env' Dn s e k => by
  obtain ⟨⟨ds, env1⟩, e1, e⟩ := bind_some e
  dsimp only at e
  refine hi.sm F H σ env O ds env1 _ s e1 fun F1 H1 O1 J g1 s1 ⟨Y, W, hY⟩ => ?_
  refine for_it W (fun i σ2 H2 => ∃ F2 env2 O2, Go (Un O) F H (Un O2) F2 H2 ∧ Same F1 F2 ∧ Sts X.K cm F2 H2 σ2 env2 O2 ∧ Bor B σ σ2 ∧ forD tgd gb (ds.drop i) env2 = some (out, env'))
    ⟨F1, env1, O1, g1, Same.refl _, s1, .refl, e⟩ (fun i σ2 H2 _ ⟨F2, env2, O2, _, sm, s2, _, _⟩ => sm.trh s2.fh) ?_ ?_
  · rintro i x σ2 H2 H' hi2 ⟨F2, env2, O2, g2, sm, s2, b2, e2⟩ hy
    have hd : ds[i]? = some ds[i] := List.getElem?_eq_getElem hi2
    rw [List.drop_eq_getElem_cons hi2] at e2
    unfold forD at e2
    obtain ⟨env3, e3, e2⟩ := bind_some e2
    obtain ⟨⟨o4, env4⟩, e4, e2⟩ := bind_some e2
    obtain ⟨F3, s3, g3, r3⟩ := wk_turn (J := J) (ds := ds) (hY i H2 x H' ds[i] hd (sm.trh s2.fh) hy) sm s2
    refine hg.sm F3 H' σ2 env2 O2 x _ env3 _ s3 r3 e3 fun σ4 s4 b4 => ?_
    refine hb.sm F3 H' σ4 env3 O2 o4 env4 _ s4 e4 ?_
    have gg := g2.trans g3
    have bb := b2.trans b4
    cases o4 with
    | nx => exact fun F5 H5 σ5 O5 g5 s5 b5 => ⟨F5, env4, O5, gg.trans g5, (sm.trans g3.ff).trans g5.ff, s5, bb.trans b5, e2⟩
    | ct => exact fun F5 H5 σ5 O5 g5 s5 b5 => ⟨F5, env4, O5, gg.trans g5, (sm.trans g3.ff).trans g5.ff, s5, bb.trans b5, e2⟩
    | bk =>
      have e2 : some (Out.nx, env4) = some (out, env') := e2
      cases e2
      exact fun F5 H5 σ5 O5 g5 s5 b5 => k F5 H5 σ5 O5 (gg.trans g5) s5 (bb.trans b5)
    | rt o =>
      have e2 : some (Out.rt o, env4) = some (out, env') := e2
      cases e2
      exact fun F5 H5 σ5 v O5 R g5 s5 b5 ow n => k F5 H5 σ5 v O5 R (gg.trans g5) s5 (bb.trans b5) ow n
  · rintro σ2 H2 ⟨F2, env2, O2, g2, sm, s2, b2, e2⟩
    rw [List.drop_length] at e2
    cases e2
    exact k F2 H2 σ2 O2 g2 s2 b2⟩
/-! ### while, with so many turns at most -/
end
end DL

/-! The data layer: comprehensions. -/
namespace DL
open PySem PySem.Spec PyProof.Rows L2

def wipeE (env : Env) : List Nat → Env
  | [] => env
  | v :: vs => (wipeE env vs).set v none
def valOnly (env : Env) (i : Nat) : Option Od := match env[i]? with
  | some (some (.fd (.val d))) => some (.fd (.val d))
  | _ => none
def restE (env0 : Env) : List Nat → Env → Env
  | [], env => env
  | v :: vs, env => (restE env0 vs env).set v (valOnly env0 v)
def lcD (vs : List Nat) (tg : Tg) (ft : M Bool) (fe : M D) : List D → List D → Env → Option (List D × Env)
  | [], acc, env => some (acc, env)
  | d :: ds, acc, env => (tg d env).bind fun e1 => (ft e1).bind fun q => if q.1 = true then (fe q.2).bind fun r => if acc.length < 16777216 then lcD vs tg ft fe ds (acc ++ [r.1]) (wipeE r.2 vs) else none else lcD vs tg ft fe ds acc (wipeE q.2 vs)
def mlc (n : Nat) (vs : List Nat) (f : M (List D)) (tg : Tg) (ft : M Bool) (fe : M D) : M Od := fun env => (f env).bind fun q => if q.2.length = n then (lcD vs tg ft fe q.1 [] (wipeE q.2 vs)).map fun r => (.fd (.lst r.1), restE q.2 vs r.2) else none
def compl (n : Nat) (vs : List Nat) : List Nat := (List.range n).filter fun i => !vs.contains i
theorem restE_len (env0 : Env) : ∀ (vs : List Nat) (env : Env), (restE env0 vs env).length = env.length
  | [], _ => rfl
  | v :: vs, env => by unfold restE; rw [List.length_set, restE_len]
theorem restE_out {env0 : Env} {i : Nat} : ∀ {vs : List Nat} {env : Env}, i ∉ vs → (restE env0 vs env)[i]? = env[i]?
  | [], _, _ => rfl
  | v :: vs, env, h => by
    unfold restE
    rw [List.getElem?_set_ne (fun e => h (by rw [e]; exact List.mem_cons_self))]
    exact restE_out fun z => h (List.mem_cons_of_mem _ z)
theorem restE_in {env0 : Env} {i : Nat} {o : Od} : ∀ {vs : List Nat} {env : Env}, i ∈ vs → (restE env0 vs env)[i]? = some (some o) → valOnly env0 i = some o
  | [], _, h, _ => absurd h (by simp)
  | v :: vs, env, h, e => by
    unfold restE at e
    by_cases hv : v = i
    · subst hv
      by_cases hl : v < (restE env0 vs env).length
      · rw [List.getElem?_set_self hl] at e
        exact Option.some.inj e
      · rw [List.getElem?_eq_none (by rw [List.length_set]; omega)] at e; cases e
    · rw [List.getElem?_set_ne hv] at e
      exact restE_in ((List.mem_cons.mp h).resolve_left fun z => hv z.symm) e
section
variable {K : PySem.W.Frag} {cm : Cm} {F H F1 H1 : Hp} {σ : L2.St} {env env1 : Env} {O O1 : Nat → Rg}
theorem Sts.unset2 (s : Sts K cm F H σ env O) (i : Nat) : Sts K cm F H (σ.set i none) (env.set i none) O := by
  refine ⟨s.fh, by rw [List.length_set, List.length_set]; exact s.len, fun j x q => ?_, s.ow, s.dj, s.mm⟩
  by_cases hj : j = i
  · subst hj
    by_cases hl : j < env.length
    · rw [List.getElem?_set_self hl] at q; cases q
    · rw [List.getElem?_eq_none (by rw [List.length_set]; omega)] at q; cases q
  · rw [List.getElem?_set_ne (Ne.symm hj)] at q ⊢
    exact s.at_ j x q
theorem Sts.wipe (s : Sts K cm F H σ env O) : ∀ vs : List Nat, Sts K cm F H (L2.wipe σ vs) (wipeE env vs) O
  | [] => s
  | v :: vs => (Sts.wipe s vs).unset2 v
theorem Sts.rest {vs : List Nat} (s0 : Sts K cm F H σ env O) (s : Sts K cm F1 H1 (L2.wipe σ vs) env1 O1) (sm : Same F F1) : Sts K cm F1 H1 σ (restE env vs env1) O1 := by
  refine ⟨s.fh, by rw [restE_len, ← s.len, wipe_length], fun i o e => ?_, s.ow, s.dj, s.mm⟩
  by_cases hi : i ∈ vs
  · have e1 := restE_in hi e
    unfold valOnly at e1
    split at e1
    · rename_i d q
      cases e1
      obtain ⟨v, ev, ow⟩ := s0.at_ i _ q
      cases ow with
      | fd r => cases r with
        | val r => exact ⟨v, ev, .fd (.val (r.mono sm))⟩
    · cases e1
  · rw [restE_out hi] at e
    obtain ⟨v, ev, ow⟩ := s.at_ i o e
    exact ⟨v, (wipe_some ev).1, ow⟩
/-- a cell that is in no slot -/
structure Apart (F H : Hp) (O : Nat → Rg) (D : Addr) (u : HO) : Prop where
  h : H D = some u
  f : F D = none
  o : ¬ Un O D
  n : NT u
theorem Apart.go {D : Addr} {u : HO} (a : Apart F H O D u) (g : Go (Un O) F H (Un O1) F1 H1) : Apart F1 H1 O1 D u := by
  refine ⟨g.hh _ ⟨u, a.n⟩ a.h a.f a.o, ?_, fun z => ?_, a.n⟩
  · cases q : F1 D with
    | none => rfl
    | some w =>
      rcases g.fr D (by rw [q]; exact fun z => nomatch z) with z | z | z | ⟨w, z, nw⟩
      · exact absurd a.f z
      · rw [a.h] at z; cases z
      · exact absurd z a.o
      · rw [a.h] at z; exact (nw (Option.some.inj z ▸ a.n)).elim
  · rcases g.ss D z with z | z
    · exact a.o z
    · rw [a.h] at z; cases z
theorem Go.lift {S S1 : Rg} (g : Go S F H S1 F1 H1) (R : Rg) : Go (fun p => R p ∨ S p) F H (fun p => R p ∨ S1 p) F1 H1 :=
  ⟨g.ff, fun p u e f n => g.hh p u e f fun z => n (.inr z), fun p z => (g.fr p z).imp id (.imp id (.imp .inr id)), fun p z => z.elim (fun z => .inl (.inl z)) fun z => (g.ss p z).imp .inr id, g.al⟩
theorem Apart.put {D : Addr} {u w : HO} (a : Apart F H O D u) (s : Sts K cm F H σ env O) (hw : NT w := by first | exact nt_l | exact nt_k | exact nt_t | exact nt_i) : Sts K cm F (upd H D w) σ env O ∧ Go (fun p => p = D ∨ Un O p) F H (fun p => p = D ∨ Un O p) F (upd H D w) ∧ Apart F (upd H D w) O D w := by
  refine ⟨⟨fun p x e => ?_, s.len, fun i o e => ?_, fun i p z => ?_, s.dj, s.mm.upd a.f⟩, ⟨Same.refl _, fun p x e _ n => ?_, fun p z => .inl z, fun p z => .inl z, fun p z => ?_⟩, ⟨upd_same, a.f, a.o, hw⟩⟩
  · rw [upd_ne (ne_of_none e a.f)]; exact s.fh _ _ e
  · obtain ⟨v, ev, ow⟩ := s.at_ i o e
    exact ⟨v, ev, ow.mono (Same.refl _) (fun q y e2 z => by rw [upd_ne (show q ≠ D from fun h => a.o ⟨i, by rw [← h]; exact z⟩)]; exact e2) fun _ z => z⟩
  · obtain ⟨h1, x, h2⟩ := s.ow i p z
    exact ⟨h1, x, by rw [upd_ne (show p ≠ D from fun h => a.o ⟨i, by rw [← h]; exact z⟩)]; exact h2⟩
  · rw [upd_ne (show p ≠ D from fun h => n (.inl h))]; exact e
  · by_cases h : p = D
    · subst h; rw [upd_same]; exact fun z => nomatch z
    · rw [upd_ne h]; exact z
theorem wipe_in {i n : Nat} (τ : L2.St) (vs : List Nat) : i ∈ vs → τ.length = n → (L2.wipe τ vs)[i]? = if i < n then some none else none := by
  induction vs with
  | nil => intro h; exact absurd h (by simp)
  | cons v vs ih =>
    intro h ht
    unfold L2.wipe
    by_cases hv : v = i
    · subst hv
      by_cases c : v < n
      · rw [if_pos c, List.getElem?_set_self (by rw [wipe_length, ht]; exact c)]
      · rw [if_neg c, List.getElem?_eq_none (by rw [List.length_set, wipe_length, ht]; omega)]
    · rw [List.getElem?_set_ne hv]
      exact ih ((List.mem_cons.mp h).resolve_left fun z => hv z.symm) ht
theorem wipe_same {σ2 : L2.St} {n : Nat} {vs : List Nat} (hn : σ.length = n) (hb : Bor (compl n vs) (L2.wipe σ vs) σ2) : L2.wipe σ2 vs = L2.wipe σ vs := by
  have hl : σ2.length = n := by rw [hb.ln, wipe_length]; exact hn
  refine List.ext_getElem? fun i => ?_
  by_cases hi : i ∈ vs
  · rw [wipe_in σ2 vs hi hl, wipe_in σ vs hi hn]
  · rw [wipe_out hi]
    by_cases c : i < n
    · exact hb.st i (List.mem_filter.mpr ⟨List.mem_range.mpr c, by simpa using hi⟩)
    · rw [List.getElem?_eq_none (by omega), List.getElem?_eq_none (by rw [wipe_length]; omega)]
end
structure DTs (X : Cx) (cm : Cm) (ifs : List Expr) (te : TT) (f : M Bool) : Prop where
  pe : PTs X ifs te
  sm : SmT X.K cm te f
section
variable {X : Cx} {cm : Cm} {elt tg iter c : Expr} {ifs : List Expr} {scope : Scope} {own : List (Str × Nat)} {pos : Pos} {wi : TI} {g : TG} {tt : TT} {te : TE} {f : M (List D)} {tgd : Tg} {ft : M Bool} {fe : M D}
theorem dts_nil : DTs X cm [] tYes (mr true) := ⟨pts_nil, fun F H σ env O d env' Q s e k => by cases e; exact k.here s⟩
theorem dts_one (h : DT X cm c tt ft) : DTs X cm [c] tt ft := ⟨pts_one h.pe, h.sm⟩
theorem sm_lc {n : Nat} {K : PySem.W.Frag} {vs : List Nat} (hi : SmI K cm wi f) (hg : SmG K cm (compl n vs) g tgd) (ht : SmT K cm tt ft) (he : Sm K cm te fe) : SmO K cm (tLc wi g tt te vs) (mlc n vs f tgd ft fe) := fun F H σ env O o env' Q s e k => by
  obtain ⟨⟨ds, env1⟩, e1, e⟩ := bind_some e
  have hen : env1.length = n := by
    by_cases c : env1.length = n
    · exact c
    · rw [if_neg c] at e; cases e
  rw [if_pos hen] at e
  obtain ⟨⟨ys, envf⟩, e2, e3⟩ := map_some e
  cases e3
  dsimp only at e2
  refine hi F H σ env O ds env1 _ s e1 fun F1 H1 O1 J g1 s1 ⟨Y, W, hY⟩ D hD => ?_
  obtain ⟨sf, gf, f1, f2⟩ := s1.fresh (o := .lst []) hD
  refine lc_it W (fun i H2 => ∃ F2 env2 O2 acc ws, Go (Un O) F H (fun p => p = D ∨ Un O2 p) F2 H2 ∧ Same F1 F2 ∧ Sts K cm F2 H2 (wipe σ vs) env2 O2 ∧ Apart F2 H2 O2 D (.lst ws) ∧ RpA K cm F2 ws acc ∧ lcD vs tgd ft fe (ds.drop i) acc env2 = some (ys, envf))
    ⟨F1, wipeE env1 vs, O1, [], [], g1.trans gf, Same.refl _, sf.wipe vs, ⟨upd_same, f1, f2, nt_l⟩, .nil, e2⟩ (fun i H2 _ ⟨F2, env2, O2, _, _, _, sm, s2, _⟩ => sm.trh s2.fh) ?_ ?_
  · rintro i x H2 H' hi2 ⟨F2, env2, O2, acc, ws, g2, sm, s2, ap, ra, e4⟩ hy
    have hd : ds[i]? = some ds[i] := List.getElem?_eq_getElem hi2
    rw [List.drop_eq_getElem_cons hi2] at e4
    unfold lcD at e4
    obtain ⟨env3, e5, e4⟩ := bind_some e4
    obtain ⟨⟨kb, env4⟩, e6, e4⟩ := bind_some e4
    dsimp only at e4
    obtain ⟨F3, s3, g3, r3⟩ := wk_turn (J := J) (ds := ds) (hY i H2 x H' ds[i] hd (sm.trh s2.fh) hy) sm s2
    have ap3 := ap.go g3
    have gg3 := g2.trans ((g3.lift fun p => p = D))
    refine hg F3 H' (wipe σ vs) env2 O2 x _ env3 _ s3 r3 e5 fun σ4 s4 b4 => ?_
    have ew : wipe σ4 vs = wipe σ vs := wipe_same (by rw [s1.len]; exact hen) b4
    refine ⟨ew, ht F3 H' σ4 env3 O2 kb env4 _ s4 e6 fun F5 H5 O5 g5 s5 => ?_⟩
    have ap5 := ap3.go g5
    have gg5 := gg3.trans (g5.lift fun p => p = D)
    have sm5 := (sm.trans g3.ff).trans g5.ff
    cases kb with
    | false =>
      rw [if_neg Bool.false_ne_true] at e4 ⊢
      refine ⟨F5, wipeE env4 vs, O5, acc, ws, gg5, sm5, ?_, ap5, (ra.mono g3.ff).mono g5.ff, e4⟩
      have := s5.wipe vs
      rw [ew] at this
      exact this
    | true =>
      rw [if_pos rfl] at e4 ⊢
      obtain ⟨⟨y, env6⟩, e7, e4⟩ := bind_some e4
      dsimp only at e4
      have hz : acc.length < 16777216 := by
        by_cases c : acc.length < 16777216
        · exact c
        · rw [if_neg c] at e4; cases e4
      rw [if_pos hz] at e4
      refine he F5 H5 σ4 env4 O5 y env6 _ s5 e7 fun F6 H6 v O6 g6 s6 r6 => ?_
      have ap6 := ap5.go g6
      have ra6 := ((ra.mono g3.ff).mono g5.ff).mono g6.ff
      refine ⟨ws, ap6.h, szlt (by rw [ra6.len]; exact hz), ?_⟩
      obtain ⟨s7, g7, ap7⟩ := ap6.put (w := .lst (ws ++ [v])) s6
      refine ⟨F6, wipeE env6 vs, O6, acc ++ [y], ws ++ [v], (gg5.trans (g6.lift fun p => p = D)).trans g7, sm5.trans g6.ff, ?_, ap7, ra6.app (.cons r6 .nil), e4⟩
      have := s7.wipe vs
      rw [ew] at this
      exact this
  · rintro H2 ⟨F2, env2, O2, acc, ws, g2, sm, s2, ap, ra, e4⟩
    rw [List.drop_length] at e4
    cases e4
    refine k F2 H2 (.ref D) O2 (fun p => p = D) g2 (s1.rest s2 sm) (.fd (.lst ap.h ra rfl)) fun p e => ?_
    subst e
    exact ⟨ap.f, ⟨⟨_, ap.n⟩, ap.h⟩, ap.o⟩

/-- what a meaning alone tells of a value, a test, a target -/
def teOf (K : PySem.W.Frag) (cm : Cm) (f : M D) : TE := fun σ H Q => ∃ F env O d env', Sts K cm F H σ env O ∧ f env = some (d, env') ∧ Kv K cm F H σ O env' d Q
def ttOf (K : PySem.W.Frag) (cm : Cm) (f : M Bool) : TT := fun σ H Q => ∃ F env O d env', Sts K cm F H σ env O ∧ f env = some (d, env') ∧ Kt K cm F H σ O env' d Q
def tgOf (K : PySem.W.Frag) (cm : Cm) (B : List Nat) (tg : Tg) : TG := fun x σ H Q => ∃ F env O d env', Sts K cm F H σ env O ∧ Rp K cm F x d ∧ tg d env = some env' ∧ ∀ σ', Sts K cm F H σ' env' O → Bor B σ σ' → Q σ' H
theorem de_cn {X : Cx} {e : Expr} {f : M D} (h : ∃ te, DE X cm e te f) : DE X cm e (teOf X.K cm f) f := by
  obtain ⟨te, h⟩ := h
  exact ⟨⟨fun pins s σ H Q I ⟨F, env, O, d, env', st, e1, k⟩ => h.pe.run pins s σ H Q I (h.sm F H σ env O d env' Q st e1 k)⟩, fun F H σ env O d env' Q s e k => ⟨F, env, O, d, env', s, e, k⟩⟩
theorem dts_cn {X : Cx} {f : M Bool} (h : ∃ te, DTs X cm ifs te f) : DTs X cm ifs (ttOf X.K cm f) f := by
  obtain ⟨te, h⟩ := h
  exact ⟨⟨fun pins s σ H Q I ⟨F, env, O, d, env', st, e1, k⟩ => h.pe.run pins s σ H Q I (h.sm F H σ env O d env' Q st e1 k)⟩, fun F H σ env O d env' Q s e k => ⟨F, env, O, d, env', s, e, k⟩⟩
theorem dg_cn {X : Cx} {B : List Nat} {e : Expr} {f : Tg} (h : ∃ te, DG X cm B e te f) : DG X cm B e (tgOf X.K cm B f) f := by
  obtain ⟨te, h⟩ := h
  exact ⟨⟨fun pins s σ H v u Q I r ⟨F, env, O, d, env', st, rp, e1, k⟩ => h.pe.run pins s σ H v u Q I r (h.sm F H σ env O v d env' Q st rp e1 k)⟩, fun F H σ env O x d env' Q s r e k => ⟨F, env, O, d, env', s, r, e, k⟩⟩
theorem do_lc {n : Nat} {vs : List Nat} (hN : X.N.Nodup) (hi : DI X cm tg iter wi f) (ok : BlkOk X.N X.env.scope scope own)
    (hg : ∀ (s : Shared) (H : Hp) (C : Addr) (cl : List (Str × Addr)) (fp : List Addr), ∃ g, DG (X.blk s H scope (compEnvC scope cl C X.env) fp) cm (compl n vs) tg g tgd) (ht : ∀ (s : Shared) (H : Hp) (C : Addr) (cl : List (Str × Addr)) (fp : List Addr), ∃ tt, DTs (X.blk s H scope (compEnvC scope cl C X.env) fp) cm ifs tt ft)
    (he : ∀ (s : Shared) (H : Hp) (C : Addr) (cl : List (Str × Addr)) (fp : List Addr), ∃ te, DE (X.blk s H scope (compEnvC scope cl C X.env) fp) cm elt te fe) (hvs : own.map (·.2) = vs := by rfl) (hc : X.calm = true := by rfl) (hs : ∀ x, foldedSetIterable iter X.env x = pure x := by intro _; rfl) :
    DO X cm (.ListComp elt [⟨tg, iter, ifs, 0⟩] scope pos) (tLc wi (tgOf X.K cm (compl n vs) tgd) (ttOf X.K cm ft) (teOf X.K cm fe) vs) (mlc n vs f tgd ft fe) := by
  subst hvs
  have hg := fun s H C cl fp => dg_cn (hg s H C cl fp)
  have ht := fun s H C cl fp => dts_cn (ht s H C cl fp)
  have he := fun s H C cl fp => de_cn (he s H C cl fp)
  exact ⟨pe_lc hc hN hi.pe ok (fun s H C cl fp => (hg s H C cl fp).pe) (fun s H C cl fp => (ht s H C cl fp).pe) (fun s H C cl fp => (he s H C cl fp).pe) hs, sm_lc hi.sm (hg X.s_0 X.H_0 0 [] []).sm (ht X.s_0 X.H_0 0 [] []).sm (he X.s_0 X.H_0 0 [] []).sm⟩
end
end DL

/-! The data layer: defs and calls. -/
namespace DL
open PySem PySem.Spec PyProof.Rows L2

section
variable {X : Cx} {cm : Cm} {B : List Nat} {elt tg iter c : Expr} {ifs : List Expr} {scope : Scope} {own : List (Str × Nat)} {pos : Pos} {wi : TI} {g : TG} {tt : TT} {te : TE} {f : M (List D)} {tgd : Tg} {ft : M Bool} {fe : M D}
/-- y = [elt for ..] -/
theorem ds_setLc {i n : Nat} {vs : List Nat} {y : Str} {py spos : Pos} (hN : X.N.Nodup) (hsw : swapsWith (.ListComp elt [⟨tg, iter, ifs, 0⟩] scope pos) (some (.Name y py)) spos.line X.env = pure true) (hi : DI X cm tg iter wi f) (ok : BlkOk X.N X.env.scope scope own)
    (hg : ∀ (s : Shared) (H : Hp) (C : Addr) (cl : List (Str × Addr)) (fp : List Addr), ∃ g, DG (X.blk s H scope (compEnvC scope cl C X.env) fp) cm (compl n vs) tg g tgd) (ht : ∀ (s : Shared) (H : Hp) (C : Addr) (cl : List (Str × Addr)) (fp : List Addr), ∃ tt, DTs (X.blk s H scope (compEnvC scope cl C X.env) fp) cm ifs tt ft)
    (he : ∀ (s : Shared) (H : Hp) (C : Addr) (cl : List (Str × Addr)) (fp : List Addr), ∃ te, DE (X.blk s H scope (compEnvC scope cl C X.env) fp) cm elt te fe) (hvs : own.map (·.2) = vs := by rfl) (hB : i ∉ B := by decide) (hy : X.N[i]? = some y := by rfl) (hyl : X.env.scope.names.lookup y = some .local := by rfl) (hc : X.calm = true := by rfl) (hs : ∀ x, foldedSetIterable iter X.env x = pure x := by intro _; rfl) :
    DS X cm B (.Assign [.Name y py] (.ListComp elt [⟨tg, iter, ifs, 0⟩] scope pos) spos) (tAsg (tLc wi (tgOf X.K cm (compl n vs) tgd) (ttOf X.K cm ft) (teOf X.K cm fe) vs) (gName i)) (gst i (mlc n vs f tgd ft fe)) := by
  subst hvs
  have hg := fun s H C cl fp => dg_cn (hg s H C cl fp)
  have ht := fun s H C cl fp => dts_cn (ht s H C cl fp)
  have he := fun s H C cl fp => de_cn (he s H C cl fp)
  exact ⟨ps_setLc hc hN hy hyl hsw hi.pe ok (fun s H C cl fp => (hg s H C cl fp).pe) (fun s H C cl fp => (ht s H C cl fp).pe) (fun s H C cl fp => (he s H C cl fp).pe) hs, sms_asg (sm_lc hi.sm (hg X.s_0 X.H_0 0 [] []).sm (ht X.s_0 X.H_0 0 [] []).sm (he X.s_0 X.H_0 0 [] []).sm) hB⟩
end

/-! ### what a def does with its arguments -/
abbrev Fn := Env → Option (Od × Env)
def outA (B : List Nat) (args env : Env) : Env := (List.range args.length).map fun i => if B.contains i = true then (env[i]?).join else valOnly args i
def runD (np n : Nat) (B : List Nat) (g : G) : Fn := fun args => if args.length = np then (g (args ++ List.replicate (n - np) none)).bind fun q => match q.1 with
    | .nx => some (.fd (.val .non), outA B args q.2)
    | .rt o => some (o, outA B args q.2)
    | _ => none
  else none
def spD (K : PySem.W.Frag) (cm : Cm) (p : Fn) (n : Nat) : Sp := fun vs H Q _ => vs.length = n ∧ ∃ F args O o args', Sts K cm F H (vs.map some) args O ∧ p args = some (o, args') ∧ Ko K cm F H (vs.map some) O args' o Q
section
variable {K : PySem.W.Frag} {cm : Cm} {F H : Hp} {σ : L2.St} {env : Env} {O : Nat → Rg}
theorem Sts.more (s : Sts K cm F H σ env O) (m : Nat) : Sts K cm F H (σ ++ List.replicate m none) (env ++ List.replicate m none) O := by
  refine ⟨s.fh, by rw [List.length_append, List.length_append, s.len, List.length_replicate, List.length_replicate], fun i o e => ?_, s.ow, s.dj, s.mm⟩
  by_cases hi : i < env.length
  · rw [List.getElem?_append_left hi] at e
    rw [List.getElem?_append_left (by rw [s.len]; exact hi)]
    exact s.at_ i o e
  · rw [List.getElem?_append_right (by omega), List.getElem?_replicate] at e
    by_cases c : i - env.length < m
    · rw [if_pos c] at e; cases e
    · rw [if_neg c] at e; cases e
/-- the arguments behind the body -/
theorem Sts.back {F1 H1 : Hp} {σ1 : L2.St} {env1 : Env} {O1 : Nat → Rg} {B : List Nat} {m : Nat} (s : Sts K cm F H σ env O) (s1 : Sts K cm F1 H1 σ1 env1 O1) (b : Bor B (σ ++ List.replicate m none) σ1) (ff : Same F F1) :
    Sts K cm F1 H1 σ (outA B env env1) (fun i p => B.contains i = true ∧ i < env.length ∧ O1 i p) := by
  have hl : (outA B env env1).length = env.length := by unfold outA; rw [List.length_map, List.length_range]
  refine ⟨s1.fh, by rw [hl]; exact s.len, fun i o e => ?_, fun i p z => s1.ow i p z.2.2, fun i j p z w => s1.dj i j p z.2.2 w.2.2, s1.mm⟩
  have hi : i < env.length := by rw [← hl]; exact (List.getElem?_eq_some_iff.mp e).1
  unfold outA at e
  rw [List.getElem?_map, List.getElem?_range hi] at e
  have e : (if B.contains i = true then (env1[i]?).join else valOnly env i) = some o := Option.some.inj e
  by_cases c : B.contains i = true
  · rw [if_pos c] at e
    have e2 : env1[i]? = some (some o) := by
      cases q : env1[i]? with
      | none => rw [q] at e; cases e
      | some x => rw [q] at e; exact congrArg some e
    obtain ⟨v, ev, ow⟩ := s1.at_ i o e2
    refine ⟨v, ?_, ow.mono (Same.refl _) (fun _ _ q _ => q) fun p z => ⟨c, hi, z⟩⟩
    have := b.st i (by simpa using c)
    rw [List.getElem?_append_left (by rw [s.len]; exact hi)] at this
    rw [← this]; exact ev
  · rw [if_neg c] at e
    unfold valOnly at e
    split at e
    · rename_i d q
      cases e
      obtain ⟨v, ev, ow⟩ := s.at_ i _ q
      cases ow with
      | fd r => cases r with
        | val r => exact ⟨v, ev, .fd (.val (r.mono ff))⟩
    · cases e
theorem un_sub {O1 : Nat → Rg} {B : List Nat} {n : Nat} {p : Addr} (h : Un (fun i p => B.contains i = true ∧ i < n ∧ O1 i p) p) : Un O1 p := let ⟨i, _, _, z⟩ := h; ⟨i, z⟩
end
section
variable {P : Program} {w : World} {K : PySem.W.Frag} {mg : Str → Option Value} {base : Heap} {cm : Cm}
end
/-! ### calls by values -/
def vals (ds : List D) : Env := ds.map fun d => some (.fd (.val d))
theorem sts_vals {K : PySem.W.Frag} {cm : Cm} {F H : Hp} (fh : SmH F H) (mm : MM K cm F H) : ∀ {vs : List V} {ds : List D}, RpA K cm F vs ds → Sts K cm F H (vs.map some) (vals ds) (fun _ _ => False) := fun {vs ds} r => by
  refine ⟨fh, by unfold vals; rw [List.length_map, List.length_map, r.len], fun i o e => ?_, fun i p z => z.elim, fun i j p z => z.elim, mm⟩
  unfold vals at e
  rw [List.getElem?_map] at e
  obtain ⟨d, e1, e2⟩ := map_some e
  cases e2
  obtain ⟨v, h1, h2⟩ := r.getD e1
  exact ⟨v, by rw [List.getElem?_map, h1]; rfl, .fd (.val h2)⟩
section
variable {K : PySem.W.Frag} {cm : Cm} {F H F1 H1 F2 H2 : Hp} {σ σc : L2.St} {env envc : Env} {O Oc : Nat → Rg} {R : Rg} {v : V} {o : Od} {Q : VK}
/-- behind a call that was handed values alone -/
theorem Sts.callV (s : Sts K cm F H σ env O) (g : Go (Un fun _ _ => False) F H (fun p => R p ∨ Un Oc p) F1 H1) (fh : SmH F1 H1) (mm : MM K cm F1 H1) : Sts K cm F1 H1 σ env O ∧ Go (Un O) F H (fun p => R p ∨ Un O p) F1 H1 := by
  have nn : ∀ p, ¬ Un (fun (_ : Nat) (_ : Addr) => False) p := fun p ⟨_, z⟩ => z
  refine ⟨⟨fh, s.len, fun i o e => ?_, fun i p z => ?_, s.dj, mm⟩, ⟨g.ff, fun p u e f _ => g.hh p u e f (nn p), fun p z => (g.fr p z).imp id (.imp id (.imp (fun z => absurd z (nn p)) id)), fun p z => ?_, g.al⟩⟩
  · obtain ⟨w, ev, ow⟩ := s.at_ i o e
    exact ⟨w, ev, ow.mono g.ff (fun p u q z => g.keepO q (s.ow _ _ z) (nn p)) fun _ z => z⟩
  · obtain ⟨a, u, b⟩ := s.ow i p z
    refine ⟨?_, u, g.hh p u b a (nn p)⟩
    cases q : F1 p with
    | none => rfl
    | some w =>
      rcases g.fr p (by rw [q]; exact fun z => nomatch z) with z | z | z | ⟨w, z, nw⟩
      · exact absurd a z
      · rw [b] at z; cases z
      · exact absurd z (nn p)
      · rw [b] at z; exact (nw (Option.some.inj z ▸ u.2)).elim
  · rcases z with z | z
    · rcases g.ss p (.inl z) with w | w
      · exact absurd w (nn p)
      · exact .inr w
    · exact .inl z
theorem Ko.callV (k : Ko K cm F H σ O env o Q) (s : Sts K cm F H σ env O) {vs : List V} {args' : Env} : Ko K cm F H (vs.map some) (fun _ _ => False) args' o Q := fun F1 H1 v Oc R g sc ow n => by
  obtain ⟨s1, g1⟩ := s.callV g sc.fh sc.mm
  refine k F1 H1 v O R g1 s1 ow fun p z => ⟨(n p z).1, (n p z).2.1, fun w => ?_⟩
  rcases g.ss p (.inl z) with ⟨_, y⟩ | y
  · exact y
  · obtain ⟨i, y2⟩ := w
    obtain ⟨_, u, b⟩ := s.ow i p y2
    rw [y] at b; cases b
/-- slot i is lent to a call as its first argument -/
theorem Sts.lend (s : Sts K cm F H σ env O) {i : Nat} {v0 : V} {o0 : Od} (e : env[i]? = some (some o0)) (ev : σ[i]? = some (some v0)) {vs : List V} {ds : List D} (r : RpA K cm F vs ds) :
    Sts K cm F H ((v0 :: vs).map some) (some o0 :: vals ds) (fun j p => j = 0 ∧ O i p) := by
  have sv := sts_vals (cm := cm) s.fh s.mm r
  refine ⟨s.fh, by rw [List.length_map, List.length_cons, List.length_cons]; have := sv.len; rw [List.length_map] at this; rw [this], fun j o q => ?_, fun j p z => s.ow i p z.2, fun j l p z w => z.1.trans w.1.symm, s.mm⟩
  cases j with
  | zero =>
    cases q
    obtain ⟨v, ev', ow⟩ := s.at_ i o0 e
    rw [ev] at ev'; cases ev'
    exact ⟨v0, rfl, ow.mono (Same.refl _) (fun _ _ q _ => q) fun p z => ⟨rfl, z⟩⟩
  | succ j =>
    obtain ⟨v, e1, ow⟩ := sv.at_ j o q
    exact ⟨v, e1, ow.mono (Same.refl _) (fun _ _ q _ => q) fun p z => z.elim⟩
theorem Ko.lend {o1 : Option Od} {rest : Env} {i : Nat} {v0 : V} {vs : List V} (k : Ko K cm F H σ O (env.set i o1) o Q) (s : Sts K cm F H σ env O) (ev : σ[i]? = some (some v0)) (hi : i < env.length) :
    Ko K cm F H ((v0 :: vs).map some) (fun j p => j = 0 ∧ O i p) (o1 :: rest) o Q := fun F1 H1 v Oc R g sc ow n => by
  have ui : ∀ p, Un (fun j p => j = 0 ∧ O i p) p → O i p := fun p ⟨_, _, z⟩ => z
  have oth : ∀ j p, j ≠ i → O j p → ¬ Un (fun j p => j = 0 ∧ O i p) p := fun j p hj z w => hj (s.dj j i p z (ui p w))
  have hOc : ∀ p, Oc 0 p → O i p ∨ H p = none := fun p z => (g.ss p (.inr ⟨0, z⟩)).imp (ui p) id
  refine k F1 H1 v (fun j p => (j = i ∧ Oc 0 p) ∨ (j ≠ i ∧ O j p)) R ?_ ?_ ow ?_
  · refine ⟨g.ff, fun p u e f z => g.hh p u e f fun w => z ⟨i, ui p w⟩, fun p z => (g.fr p z).imp id (.imp id (.imp (fun w => ⟨i, ui p w⟩) id)), fun p z => ?_, g.al⟩
    rcases z with z | ⟨j, ⟨_, z⟩ | ⟨_, z⟩⟩
    · exact (g.ss p (.inl z)).imp (fun w => ⟨i, ui p w⟩) id
    · exact (hOc p z).imp (fun w => ⟨i, w⟩) id
    · exact .inl ⟨j, z⟩
  · refine ⟨sc.fh, by rw [List.length_set]; exact s.len, fun j o q => ?_, fun j p z => ?_, fun j l p z w => ?_, sc.mm⟩
    · by_cases hj : j = i
      · subst hj
        rw [List.getElem?_set_self hi] at q
        have q := Option.some.inj q
        subst q
        obtain ⟨u, e1, ow1⟩ := sc.at_ 0 o rfl
        have e1 : some (some v0) = some (some u) := e1
        cases e1
        exact ⟨v0, ev, ow1.mono (Same.refl _) (fun _ _ q _ => q) fun p z => .inl ⟨rfl, z⟩⟩
      · rw [List.getElem?_set_ne (Ne.symm hj)] at q
        obtain ⟨u, e1, ow1⟩ := s.at_ j o q
        exact ⟨u, e1, ow1.mono g.ff (fun p y e z => g.keepO e (s.ow _ _ z) (oth j p hj z)) fun p z => .inr ⟨hj, z⟩⟩
    · rcases z with ⟨_, z⟩ | ⟨hj, z⟩
      · exact sc.ow 0 p z
      · obtain ⟨a, u, b⟩ := s.ow j p z
        refine ⟨?_, u, g.hh p u b a (oth j p hj z)⟩
        cases q : F1 p with
        | none => rfl
        | some w =>
          rcases g.fr p (by rw [q]; exact fun z => nomatch z) with y | y | y | ⟨w, y, nw⟩
          · exact absurd a y
          · rw [b] at y; cases y
          · exact absurd y (oth j p hj z)
          · rw [b] at y; exact (nw (Option.some.inj y ▸ u.2)).elim
    · have cross : ∀ m, m ≠ i → Oc 0 p → O m p → False := fun m hm z w => by
        rcases hOc p z with y | y
        · exact hm (s.dj m i p w y)
        · obtain ⟨_, u, b⟩ := s.ow m p w
          rw [y] at b; cases b
      rcases z with ⟨hj, z⟩ | ⟨hj, z⟩ <;> rcases w with ⟨hl, w⟩ | ⟨hl, w⟩
      · rw [hj, hl]
      · exact (cross l hl z w).elim
      · exact (cross j hj w z).elim
      · exact s.dj j l p z w
  · intro p z
    refine ⟨(n p z).1, (n p z).2.1, fun ⟨j, w⟩ => ?_⟩
    rcases w with ⟨_, w⟩ | ⟨hj, w⟩
    · exact (n p z).2.2 ⟨0, w⟩
    · rcases g.ss p (.inl z) with y | y
      · exact oth j p hj w y
      · obtain ⟨_, u, b⟩ := s.ow j p w
        rw [y] at b; cases b
end
section
variable {X : Cx} {cm : Cm} {a b c e : Expr} {es : List Expr} {te ta tb tc : TE} {pos : Pos} {t : TA} {fa : M (List D)} {p : Fn} {n : Nat} {k : Nat} {f C : Addr} {fd : FuncData} {ps : List Str} {x : Str} {pp : Pos} {i : Nat}
theorem smo_cv {E : XK} (ha : SmA X.K cm t fa) : SmO X.K cm (tCall (spD X.K cm p n) [] E t) (fun env => (fa env).bind fun q => if q.1.length = n then (p (vals q.1)).map fun r => (r.1, q.2) else none) := fun F H σ env O o env' Q s e kk => by
  obtain ⟨⟨ds, env1⟩, e1, e⟩ := bind_some e
  dsimp only at e
  have hl : ds.length = n := by
    by_cases c : ds.length = n
    · exact c
    · rw [if_neg c] at e; cases e
  rw [if_pos hl] at e
  obtain ⟨⟨o1, args'⟩, e2, e3⟩ := map_some e
  cases e3
  refine ha F H σ env O ds _ _ s e1 fun F1 H1 vs O1 g1 s1 r => ⟨by rw [List.append_nil, r.len]; exact hl, F1, vals ds, _, _, args', by rw [List.append_nil]; exact sts_vals s1.fh s1.mm r, e2, ?_⟩
  rw [List.append_nil]
  exact (kk.go g1).callV s1
def mcl (p : Fn) (n : Nat) (fa : M (List D)) : M Od := fun env => (fa env).bind fun q => if q.1.length = n then (p (vals q.1)).map fun r => (r.1, q.2) else none
/-- f(e, ..), values alone -/
theorem do_call (Fo : FnOk X.prog X.w X.K X.mg X.base CX0 k f fd ps (spD X.K cm p n)) (hr : Room k X.A) (hm : X.mg x = some (.ref f)) (hk : PySem.W.keepIn X.K (.ref f) = true) (hb : Binds X.K fd ps []) (ha : DA X cm (e :: es) t fa) (hg : Gl X x := by rfl) (hdb : (x == ("__debug__" : Str)) = false := by decide) (he : starEach (e :: es) X.env = (false, eval e X.env) :: starEach es X.env := by rfl) (hpl : (backTo pos (starEach es X.env)).any (·.1) = false := by rfl) :
    DO X cm (.Call (.Name x pp) (e :: es) [] pos) (tCall (spD X.K cm p n) [] E0 t) (mcl p n fa) := ⟨pe_call Fo hr hg hm hk hb .nil pass0 ha.pe hdb he hpl, smo_cv ha.sm⟩
theorem do_call0 (Fo : FnOk X.prog X.w X.K X.mg X.base CX0 k f fd ps (spD X.K cm p n)) (hr : Room k X.A) (hm : X.mg x = some (.ref f)) (hk : PySem.W.keepIn X.K (.ref f) = true) (hb : Binds X.K fd ps []) (hg : Gl X x := by rfl) (hdb : (x == ("__debug__" : Str)) = false := by decide) :
    DO X cm (.Call (.Name x pp) [] [] pos) (tCall (spD X.K cm p n) [] E0 tNil) (mcl p n anil) := ⟨pe_call0 Fo hr hg hm hk hb .nil pass0 hdb, smo_cv da_nil.sm⟩
/-- what slot i holds is lent as the first argument -/
def mcb1 (i : Nat) (p : Fn) (n : Nat) (fa : M (List D)) : M Od := fun env => ((env[i]?).join).bind fun _ => (fa env).bind fun q => ((q.2[i]?).join).bind fun o => if q.1.length + 1 = n then (p (some o :: vals q.1)).bind fun r => (r.2[0]?).map fun o1 => (r.1, q.2.set i o1) else none
theorem join_some {α : Type} {o : Option (Option α)} {a : α} (h : o.join = some a) : o = some (some a) := by
  cases o with
  | none => cases h
  | some x => exact congrArg some h
theorem smo_cb1 {E : XK} (ha : SmA X.K cm t fa) : SmO X.K cm (tCall (spD X.K cm p n) [] E (tCons (tVar i) t)) (mcb1 i p n fa) := fun F H σ env O o env' Q s e kk => by
  obtain ⟨o0, e0, e⟩ := bind_some e
  obtain ⟨⟨ds, env1⟩, e1, e⟩ := bind_some e
  obtain ⟨o2, e2, e⟩ := bind_some e
  dsimp only at e
  have hl : ds.length + 1 = n := by
    by_cases c : ds.length + 1 = n
    · exact c
    · rw [if_neg c] at e; cases e
  rw [if_pos hl] at e
  obtain ⟨⟨o3, args'⟩, e3, e⟩ := bind_some e
  obtain ⟨o1, e4, e5⟩ := map_some e
  cases e5
  obtain ⟨v0, ev0, _⟩ := s.at_ i o0 (join_some e0)
  refine ⟨v0, ev0, ha F H σ env O ds _ _ s e1 fun F1 H1 vs O1 g1 s1 r => ?_⟩
  have hi : i < env1.length := (List.getElem?_eq_some_iff.mp (join_some e2)).1
  refine ⟨by rw [List.append_nil, List.length_cons, r.len]; exact hl, F1, some o2 :: vals ds, _, _, args', by rw [List.append_nil]; exact s1.lend (join_some e2) ev0 r, e3, ?_⟩
  rw [List.append_nil]
  cases args' with
  | nil => cases e4
  | cons y rest =>
    have e4 : some y = some o1 := e4
    cases e4
    exact (kk.go g1).lend s1 ev0 hi
theorem do_callB (i : Nat) {y : Str} {py : Pos} (Fo : FnOk X.prog X.w X.K X.mg X.base CX0 k f fd ps (spD X.K cm p n)) (hr : Room k X.A) (hm : X.mg x = some (.ref f)) (hk : PySem.W.keepIn X.K (.ref f) = true) (hb : Binds X.K fd ps []) (ha : DA X cm es t fa) (hg : Gl X x := by rfl) (hdb : (x == ("__debug__" : Str)) = false := by decide) (he : starEach (.Name y py :: es) X.env = (false, eval (.Name y py) X.env) :: starEach es X.env := by rfl) (hpl : (backTo pos (starEach es X.env)).any (·.1) = false := by rfl)
    (hN : X.N[i]? = some y := by rfl) (hv : Vis X.env.scope y := by first | exact Or.inl rfl | exact Or.inr (Or.inl rfl) | exact Or.inr (Or.inr rfl)) (hd : (y == ("__debug__" : Str)) = false := by decide) (hcd : (y == ("__classdict__" : Str)) = false := by decide) :
    DO X cm (.Call (.Name x pp) (.Name y py :: es) [] pos) (tCall (spD X.K cm p n) [] E0 (tCons (tVar i) t)) (mcb1 i p n fa) := ⟨pe_call Fo hr hg hm hk hb .nil pass0 (pa_cons (pe_var hN hv hd hcd) ha.pe he) hdb he hpl, smo_cb1 ha.sm⟩
end
/-! ### methods -/
def noM (m : Str) (c : Nat) (o : Od) : Bool := match o with
  | .obj c' gs => c' == c && (gs.lookup m).isNone
  | .fd (.val (.obj c' gs)) => c' == c && (gs.lookup m).isNone
  | _ => false
def mmt (m : Str) (c : Nat) (i : Nat) (p : Fn) (n : Nat) (fa : M (List D)) : M Od := fun env => ((env[i]?).join).bind fun o0 => if noM m c o0 = true then (fa env).bind fun q => ((q.2[i]?).join).bind fun o => if q.1.length + 1 = n then (p (some o :: vals q.1)).bind fun r => (r.2[0]?).map fun o1 => (r.1, q.2.set i o1) else none else none
section
variable {X : Cx} {cm : Cm} {a b c e : Expr} {es : List Expr} {te ta tb tc : TE} {pos apos : Pos} {t : TA} {fa : M (List D)} {p : Fn} {n : Nat} {k : Nat} {f : Addr} {fd : FuncData} {ps : List Str} {x m : Str} {pp : Pos} {i cl : Nat}
/-! ### C(..) -/
def mmk (c : Nat) (p : Fn) (n : Nat) (fa : M (List D)) : M Od := fun env => (fa env).bind fun q => if q.1.length + 1 = n then (p (some (.obj c []) :: vals q.1)).bind fun r => match r.1, r.2 with
    | .fd (.val .non), some o :: _ => some (o, q.2)
    | _, _ => none
  else none
theorem smo_mk {E : XK} (ct : CFt X.K (cm cl)) (ha : SmA X.K cm t fa) : SmO X.K cm (tMake (cm cl) (spD X.K cm p n) [] E t) (mmk cl p n fa) := fun F H σ env O o env' Q s e kk => by
  obtain ⟨⟨ds, env1⟩, e1, e⟩ := bind_some e
  dsimp only at e
  have hl : ds.length + 1 = n := by
    by_cases c : ds.length + 1 = n
    · exact c
    · rw [if_neg c] at e; cases e
  rw [if_pos hl] at e
  obtain ⟨⟨o3, args'⟩, e3, e⟩ := bind_some e
  dsimp only at e
  split at e
  · rename_i o4 rest
    cases e
    refine ha F H σ env O ds _ _ s e1 fun F1 H1 vs O1 g1 s1 r x dx nx nd ne => ?_
    have ndx : upd H1 dx (.own x) x = none := by rw [upd_ne (Ne.symm ne)]; exact nx
    -- the dict's own cell is frozen, the instance's is one's own
    obtain ⟨s2, g2⟩ := s1.alloc (o := .own x) nd
    obtain ⟨s3, g3, f3, o3⟩ := s2.fresh (o := .ins (cm cl) dx []) ndx
    have r3 := r.mono g2.ff
    have sv := sts_vals (cm := cm) s3.fh s3.mm r3
    refine ⟨by rw [List.append_nil, List.length_cons, r.len]; exact hl, upd F1 dx (.own x), some (.obj cl []) :: vals ds, fun j p => j = 0 ∧ p = x, _, some o :: rest, ?_, e3, ?_⟩
    · rw [List.append_nil]
      refine ⟨s3.fh, by rw [List.length_map, List.length_cons, List.length_cons]; have := sv.len; rw [List.length_map] at this; rw [this], fun j o q => ?_, fun j p z => ?_, fun j l p z w => z.1.trans w.1.symm, s3.mm⟩
      · cases j with
        | zero =>
          cases q
          exact ⟨.ref x, rfl, .obj (S' := fun _ => False) upd_same ⟨ct, fun f hf => absurd hf (by simp)⟩ .nil id (fun q z => z.elim) ⟨rfl, rfl⟩⟩
        | succ j =>
          obtain ⟨v, e1, ow⟩ := sv.at_ j o q
          exact ⟨v, e1, ow.mono (Same.refl _) (fun _ _ q _ => q) fun p z => z.elim⟩
      · obtain ⟨_, rfl⟩ := z
        exact ⟨f3, ⟨_, nt_i⟩, upd_same⟩
    · rw [List.append_nil]
      intro F4 H4 v Oc R g sc ow n4
      cases ow with
      | fd rr =>
        cases rr with
        | val rr =>
          cases rr
          refine ⟨rfl, ?_⟩
          obtain ⟨u, eu, owu⟩ := sc.at_ 0 o rfl
          have eu : some (some (V.ref x)) = some (some u) := eu
          cases eu
          -- from the maker's state to the caller's
          have ux : ∀ p, Un (fun j p => j = 0 ∧ p = x) p → p = x := fun p ⟨_, _, z⟩ => z
          have oth : ∀ j p, O1 j p → p ≠ x := fun j p z h => o3 ⟨j, by rw [← h]; exact z⟩
          have hOc : ∀ p, Oc 0 p → p = x ∨ upd (upd H1 dx (.own x)) x (.ins (cm cl) dx []) p = none := fun p z => (g.ss p (.inr ⟨0, z⟩)).imp (ux p) id
          have gg : Go (fun p => p = x ∨ Un O1 p) (upd F1 dx (.own x)) (upd (upd H1 dx (.own x)) x (.ins (cm cl) dx [])) (fun p => Oc 0 p ∨ Un O1 p) F4 H4 := by
            refine ⟨g.ff, fun p u e f z => g.hh p u e f fun w => z (.inl (ux p w)), fun p z => (g.fr p z).imp id (.imp id (.imp (fun w => .inl (ux p w)) id)), fun p z => ?_, g.al⟩
            rcases z with z | z
            · exact (hOc p z).imp .inl id
            · exact .inl (.inr z)
          have s4 : Sts X.K cm F4 H4 σ env' O1 := by
            refine ⟨sc.fh, s3.len, fun j o q => ?_, fun j p z => ?_, s3.dj, sc.mm⟩
            · obtain ⟨u, e1, ow1⟩ := s3.at_ j o q
              exact ⟨u, e1, ow1.mono g.ff (fun p y e z => g.keepO e (s3.ow _ _ z) fun w => oth j p z (ux p w)) fun _ z => z⟩
            · obtain ⟨a, u, b⟩ := s3.ow j p z
              refine ⟨?_, u, g.hh p u b a fun w => oth j p z (ux p w)⟩
              cases q : F4 p with
              | none => rfl
              | some w =>
                rcases g.fr p (by rw [q]; exact fun z => nomatch z) with y | y | y | ⟨w, y, nw⟩
                · exact absurd a y
                · rw [b] at y; cases y
                · exact absurd (ux p y) (oth j p z)
                · rw [b] at y; exact (nw (Option.some.inj y ▸ u.2)).elim
          refine kk F4 H4 (.ref x) O1 (Oc 0) (((g1.trans g2).trans g3).trans gg) s4 owu fun p z => ⟨(sc.ow 0 p z).1, (sc.ow 0 p z).2, fun ⟨j, w⟩ => ?_⟩
          rcases hOc p z with y | y
          · exact oth j p w y
          · obtain ⟨_, u, b⟩ := s3.ow j p w
            rw [y] at b; cases b
  · cases e
theorem do_make (cl : Nat) (ct : CFt X.K (cm cl)) (Mq : Mk X.K (cm cl) f) (Fo : FnOk X.prog X.w X.K X.mg X.base CX0 k f fd ps (spD X.K cm p n)) (hr : Room (k + 1) X.A) (hm : X.mg x = some (.ref (cm cl))) (hb : Binds X.K fd ps []) (ha : DA X cm (e :: es) t fa) (hg : Gl X x := by rfl) (hdb : (x == ("__debug__" : Str)) = false := by decide) (he : starEach (e :: es) X.env = (false, eval e X.env) :: starEach es X.env := by rfl) (hpl : (backTo pos (starEach es X.env)).any (·.1) = false := by rfl) :
    DO X cm (.Call (.Name x pp) (e :: es) [] pos) (tMake (cm cl) (spD X.K cm p n) [] E0 t) (mmk cl p n fa) := ⟨pe_make Mq Fo hr hg hm hb .nil pass0 ha.pe hdb he hpl, smo_mk ct ha.sm⟩
end
end DL

/-! The data layer: fields stored, own ==, sets. -/
namespace DL
open PySem PySem.Spec PyProof.Rows L2

/-! ### x.f = e, x an own object in a slot -/
def putG (n : Str) (x : Fd) : List (Str × Fd) → List (Str × Fd)
  | [] => [(n, x)]
  | (m, y) :: r => if m = n then (m, x) :: r else (m, y) :: putG n x r
theorem putF_mem {n f : Str} {v : V} : ∀ {fs : List (Str × V)}, f ∈ (putF n v fs).map (·.1) → f = n ∨ f ∈ fs.map (·.1)
  | [], h => by unfold putF at h; simp at h; exact .inl h
  | (a, y) :: fs, h => by
    unfold putF at h
    by_cases q : a = n
    · rw [if_pos q, List.map_cons] at h
      exact .inr (by rw [List.map_cons]; exact h)
    · rw [if_neg q, List.map_cons] at h
      rw [List.map_cons]
      rcases List.mem_cons.mp h with h | h
      · exact .inr (by rw [h]; exact List.mem_cons_self)
      · exact (putF_mem h).imp id (List.mem_cons_of_mem _)
section
variable {K : PySem.W.Frag} {cm : Cm} {F H : Hp}
theorem OwFs.put {n : Str} {v : V} {x : Fd} {R : Rg} (ow : OwF K cm F H v x R) : ∀ {fs : List (Str × V)} {gs : List (Str × Fd)} {S : Rg}, OwFs K cm F H fs gs S → (∀ p, R p → ¬ S p) → OwFs K cm F H (putF n v fs) (putG n x gs) (fun p => R p ∨ S p) := by
  intro fs gs S h
  induction h with
  | nil => intro _; exact .cons ow .nil (S2 := fun _ => False) (fun _ _ z => z) (fun p z => .inl z) fun p z => z.elim
  | @cons m w y fs gs S S1 S2 o1 r d a b ih =>
    intro hd
    unfold putF putG
    by_cases q : m = n
    · rw [if_pos q, if_pos q]
      exact .cons ow r (fun p z w => hd p z (b p w)) (fun p z => .inl z) fun p z => .inr (b p z)
    · rw [if_neg q, if_neg q]
      exact .cons o1 (ih fun p z w => hd p z (b p w)) (fun p z w => w.elim (fun w => hd p w (a p z)) (d p z)) (fun p z => .inr (a p z)) fun p z => z.imp id (b p)
end
def gfs (i : Nat) (n : Str) (cs : List Nat) (f : M Od) : G := fun env => (f env).bind fun q => match q.1, q.2[i]? with
  | .fd x, some (some (.obj c gs)) => if cs.contains c = true ∧ gs.length < 1000 then some (.nx, q.2.set i (some (.obj c (putG n x gs)))) else none
  | _, _ => none
section
variable {X : Cx} {cm : Cm} {B : List Nat} {a b c e : Expr} {es : List Expr} {te ta tb tc : TE} {pos apos : Pos} {t : TA} {i : Nat} {x n : Str}
theorem ds_fs {f : M Od} {p1 p2 : Pos} (cs : List Nat) (h : DO X cm e te f) (hno : ∀ c ∈ cs, NoAttr X.K (cm c) n) (hN : X.N[i]? = some x := by rfl) (hv : Vis X.env.scope x := by first | exact Or.inl rfl | exact Or.inr (Or.inl rfl) | exact Or.inr (Or.inr rfl)) (hd : (x == ("__debug__" : Str)) = false := by decide) (hcd : (x == ("__classdict__" : Str)) = false := by decide)
    (hs : swapsWith e (some (.Attribute (.Name x p1) n p2)) pos.line X.env = pure false := by rfl) :
    DS X cm B (.Assign [.Attribute (.Name x p1) n p2] e pos) (sFld X.K (tVar i) te n) (gfs i n cs f) := ⟨ps_fld (pe_var hN hv hd hcd) h.pe hs, fun F H σ env O out env' Dn s e k => by
  obtain ⟨⟨o, env1⟩, e1, e⟩ := bind_some e
  dsimp only at e
  split at e
  · rename_i y c gs q
    obtain ⟨⟨c1, c2⟩, e3⟩ := ite_some e
    cases e3
    refine h.sm F H σ env O _ _ _ s e1 fun F1 H1 v O1 R g1 s1 ow nw => ?_
    obtain ⟨w, ev, ow1⟩ := s1.at_ i _ q
    cases ow with
    | fd r =>
    cases ow1 with
    | @obj p dx c fs gs S S' h1 h2 h3 h4 h5 h6 =>
      have hln : fs.length = gs.length := by
        have := congrArg List.length h3.names
        rwa [List.length_map, List.length_map] at this
      have hcn := hno c (by simpa using c1)
      refine ⟨_, ev, p, _, dx, fs, rfl, h1, h2.ft.cl, hcn, by rw [hln]; exact c2, ?_⟩
      have hi : i < env1.length := (List.getElem?_eq_some_iff.mp q).1
      have pR : ¬ R p := fun z => (nw p z).2.2 ⟨i, h6⟩
      have Fp : F1 p = none := (s1.ow i p h6).1
      have RO : ∀ p, R p → ¬ S' p := fun p z w => (nw p z).2.2 ⟨i, h5 p w⟩
      have own : OwFs X.K cm F1 (upd H1 p (.ins (cm c) dx (putF n v fs))) (putF n v fs) (putG n y gs) (fun p => R p ∨ S' p) :=
        (h3.put r RO).mono (Same.refl _) (fun q u e z => by rw [upd_ne (show q ≠ p from fun h => by subst h; exact z.elim pR h4)]; exact e) fun _ z => z
      have nm : COk X.K (cm c) ((putF n v fs).map (·.1)) := ⟨h2.ft, fun f hf => (putF_mem hf).elim (fun h => by rw [h]; exact hcn) (h2.no f)⟩
      have up : ∀ q u, q ≠ p → H1 q = some u → upd H1 p (.ins (cm c) dx (putF n v fs)) q = some u := fun q u h e => by rw [upd_ne h]; exact e
      refine k F1 _ σ (fun j q => (j = i ∧ (R q ∨ O1 i q)) ∨ (j ≠ i ∧ O1 j q)) (g1.trans ⟨Same.refl _, fun q u e _ z => up q u (fun h => z (.inr ⟨i, by rw [h]; exact h6⟩)) e, fun q z => .inl z, fun q z => ?_, fun q z => ?_⟩) ⟨fun q u e => ?_, by rw [List.length_set]; exact s1.len, fun j o qq => ?_, fun j q z => ?_, fun j l q z w => ?_, s1.mm.upd Fp⟩ .refl
      · obtain ⟨j, z⟩ := z
        rcases z with ⟨_, z | z⟩ | ⟨_, z⟩
        · exact .inl (.inl z)
        · exact .inl (.inr ⟨i, z⟩)
        · exact .inl (.inr ⟨j, z⟩)
      · by_cases h : q = p
        · subst h; rw [upd_same]; exact fun z => nomatch z
        · rw [upd_ne h]; exact z
      · rw [upd_ne (ne_of_none e Fp)]; exact s1.fh _ _ e
      · by_cases hj : j = i
        · subst hj
          rw [List.getElem?_set_self hi] at qq
          cases qq
          exact ⟨.ref p, ev, .obj upd_same nm own (fun z => z.elim pR h4) (fun q z => .inl ⟨rfl, z.imp id (h5 q)⟩) (.inl ⟨rfl, .inr h6⟩)⟩
        · rw [List.getElem?_set_ne (Ne.symm hj)] at qq
          obtain ⟨u, e2, ow2⟩ := s1.at_ j o qq
          exact ⟨u, e2, ow2.mono (Same.refl _) (fun q y e z => up q y (fun h => hj (s1.dj j i q z (by rw [h]; exact h6))) e) fun q z => .inr ⟨hj, z⟩⟩
      · have hex : ∀ q, (∃ u : HU, H1 q = some u.1) → ∃ u : HU, upd H1 p (.ins (cm c) dx (putF n v fs)) q = some u.1 := fun q ⟨u, e⟩ => by
          by_cases h : q = p
          · subst h; exact ⟨⟨_, nt_i⟩, upd_same⟩
          · exact ⟨u, up q u.1 h e⟩
        rcases z with ⟨_, z | z⟩ | ⟨_, z⟩
        · exact ⟨(nw q z).1, hex q (nw q z).2.1⟩
        · exact ⟨(s1.ow i q z).1, hex q (s1.ow i q z).2⟩
        · exact ⟨(s1.ow j q z).1, hex q (s1.ow j q z).2⟩
      · rcases z with ⟨z0, z | z⟩ | ⟨z0, z⟩ <;> rcases w with ⟨w0, w | w⟩ | ⟨w0, w⟩
        · rw [z0, w0]
        · rw [z0, w0]
        · exact absurd ⟨l, w⟩ (nw q z).2.2
        · rw [z0, w0]
        · rw [z0, w0]
        · exact absurd (s1.dj l i q w z) w0
        · exact absurd ⟨j, z⟩ (nw q w).2.2
        · exact absurd (s1.dj j i q z w) z0
        · exact s1.dj j l q z w
  · cases e⟩
end

/-! ### sorted(set(..)), sorted(..) of tuples of ints below 64 -/
def toTup : D → Option (List Int)
  | .tup ds => toInts ds
  | _ => none
def toTups : List D → Option (List (List Int))
  | [] => some []
  | d :: ds => (toTup d).bind fun t => (toTups ds).map (t :: ·)
def okT (d : Nat) (t : List Int) : Bool := t.length == d && t.all fun m => decide (0 ≤ m ∧ m < 64)
def okTs (ts : List (List Int)) : Bool := match ts with
  | [] => true
  | t :: r => decide (1 ≤ t.length) && (t :: r).all (okT t.length) && decide ((t :: r).length < 64)
def dd : List (List Int) → List (List Int)
  | [] => []
  | x :: xs => if x ∈ dd xs then dd xs else x :: dd xs
def tsort (l : List (List Int)) : List (List Int) := l.mergeSort fun a b => decide (TS.code 64 a ≤ TS.code 64 b)
abbrev tupI (t : List Int) : D := .tup (t.map .int)
theorem tsort_perm (l : List (List Int)) : (tsort l).Perm l := List.mergeSort_perm l _
theorem tsort_sorted (l : List (List Int)) : (tsort l).Pairwise fun a b => TS.code 64 a ≤ TS.code 64 b := by
  have q := List.pairwise_mergeSort (le := fun a b : List Int => decide (TS.code 64 a ≤ TS.code 64 b)) (fun x y z h1 h2 => by
    have h1 := of_decide_eq_true h1
    have h2 := of_decide_eq_true h2
    exact decide_eq_true (by omega)) (fun x y => by
    by_cases c : TS.code 64 x ≤ TS.code 64 y
    · simp [c]
    · have : TS.code 64 y ≤ TS.code 64 x := by omega
      simp [this]) l
  exact q.imp fun h => of_decide_eq_true h
theorem code_inj {B : Int} : ∀ {r q : List Int}, r.length = q.length → TS.Bd B r → TS.Bd B q → TS.code B r = TS.code B q → r = q
  | [], [], _, _, _, _ => rfl
  | [], _ :: _, h, _, _, _ => by cases h
  | _ :: _, [], h, _, _, _ => by cases h
  | d :: r, e :: q, hl, h1, h2, hc => by
    have hl2 : r.length = q.length := by simpa using hl
    rcases Int.lt_trichotomy d e with h | h | h
    · have := TS.code_lt hl2 h1.tail h2.tail h; omega
    · subst h
      have e1 : d * B ^ r.length + TS.code B r = d * B ^ q.length + TS.code B q := hc
      rw [← hl2] at e1
      rw [code_inj hl2 h1.tail h2.tail (by omega)]
    · have := TS.code_lt hl2.symm h2.tail h1.tail h; omega
theorem tsort_eq {a b : List (List Int)} {d : Nat} (hb : ∀ t ∈ b, t.length = d ∧ TS.Bd 64 t) (hp : a.Perm b) (hs : a.Pairwise fun x y => TS.code 64 x ≤ TS.code 64 y) : a = tsort b :=
  List.Perm.eq_of_pairwise (fun x y hx hy h1 h2 => by
    obtain ⟨l1, b1⟩ := hb x (hp.mem_iff.mp hx)
    obtain ⟨l2, b2⟩ := hb y ((tsort_perm b).mem_iff.mp hy)
    exact code_inj (l1.trans l2.symm) b1 b2 (by omega)) hs (tsort_sorted b) (hp.trans (tsort_perm b).symm)
section
variable {K : PySem.W.Frag} {cm : Cm} {F H : Hp}
theorem RpA.tups : ∀ {vs : List V} {ds : List D} {ts : List (List Int)}, RpA K cm F vs ds → toTups ds = some ts → ∃ ks : List (Addr × List Int), vs = ks.map (fun p => V.ref p.1) ∧ ts = ks.map (·.2) ∧ ∀ p ∈ ks, F p.1 = some (.tup (p.2.map V.int))
  | _, _, ts, .nil, e => by unfold toTups at e; cases e; exact ⟨[], rfl, rfl, fun p h => absurd h (by simp)⟩
  | _, _, ts, .cons (d := d) h r, e => by
    unfold toTups at e
    obtain ⟨t, e1, e⟩ := bind_some e
    obtain ⟨us, e2, rfl⟩ := map_some e
    obtain ⟨ks, h1, h2, h3⟩ := RpA.tups r e2
    cases h <;> try (cases e1; done)
    rename_i a xs ds ha ra
    have e1 : DL.toInts ds = some t := e1
    have := ra.toInts e1
    subst this
    refine ⟨(a, t) :: ks, by rw [List.map_cons, h1], by rw [List.map_cons, h2], fun p hp => ?_⟩
    rcases List.mem_cons.mp hp with rfl | hp
    · exact ha
    · exact h3 p hp
theorem RpA.of_tups : ∀ (ks : List (Addr × List Int)), (∀ p ∈ ks, F p.1 = some (.tup (p.2.map V.int))) → RpA K cm F (ks.map fun p => V.ref p.1) (ks.map fun p => tupI p.2)
  | [], _ => .nil
  | p :: ks, h => .cons (.tup (h p List.mem_cons_self) (RpA.ints _)) (RpA.of_tups ks fun q hq => h q (List.mem_cons_of_mem _ hq))
end
def ssetB : List D → Option Od
  | [.lst ds] => (toTups ds).bind fun ts => if okTs ts = true then some (.fd (.lst ((tsort (dd ts)).map tupI))) else none
  | _ => none
def mss (f : M D) : M Od := mb f fun d => mo (ssetB [d])
section
variable {X : Cx} {cm : Cm} {B : List Nat} {a b c e : Expr} {es : List Expr} {te ta tb tc : TE} {pos apos : Pos} {t : TA} {i : Nat} {x n : Str}
end
/-! ### own == and != -/
section
variable {X : Cx} {cm : Cm} {B : List Nat} {a b c e : Expr} {es : List Expr} {te ta tb tc : TE} {pos apos : Pos} {t : TA} {i : Nat} {x n : Str}
/-- x == y by x's own __eq__ (y's class does not come first) -/
def rOEq (K : PySem.W.Frag) (cm : Cm) (cl : List Nat) (sp : Sp) : R2 := fun x y H Q => ∃ a c dx fs t, x = .ref a ∧ H a = some (.ins (cm c) dx fs) ∧ c ∈ cl ∧ TyX K H y t ∧ PySem.W.notFirst K (cm c) t = true ∧ sp [x, y] H (fun v H' => ∃ k, v = .bl k ∧ Q (.bl k) H') E0
def EqF (K : PySem.W.Frag) (cm : Cm) (cl : List Nat) (f : Addr) : Prop := ∀ c ∈ cl, PySem.W.findIn K (.ref (cm c)) "__eq__" = some (some (.ref f))
theorem run_eqf {k : Nat} {f : Addr} {fd : FuncData} {ps : List Str} {sp : Sp} (Fo : FnOk X.prog X.w X.K X.mg X.base CX0 k f fd ps sp) (hr : Room k X.A) (hb : Binds X.K fd ps []) {pins : List (Addr × Obj)} {s : Shared} {σ : L2.St} {H : Hp} {x y : V} {u w : Value} {Q : VK} (I : Inv X pins σ H s) (rx : RelV x u) (ry : RelV y w)
    (h : sp [x, y] H Q E0) : wpAny (model X.prog X.w) X.A (call (.ref f) [u, w]) (EP X pins σ Q) X.xe s := by
  have := run_fn (E := E0) (ds := []) (dvs := []) Fo hr hb .nil pass0 I (.cons rx (.cons ry .nil)) (Q := Q) (by simpa using h)
  exact this
theorem op_oeq {k : Nat} {cl : List Nat} {f : Addr} {fd : FuncData} {ps : List Str} {sp : Sp} (Fo : FnOk X.prog X.w X.K X.mg X.base CX0 k f fd ps sp) (hr : Room k X.A) (hb : Binds X.K fd ps []) (he : EqF X.K cm cl f) (hf : PySem.W.isFn X.K (.ref f) = true) : OpR X (compareOp .Eq) (rOEq X.K cm cl sp) := by
  intro pins s σ H x y v u Q I rx ry h
  obtain ⟨a, c, dx, fs, t, rfl, ha, hc, ty, nf, hsp⟩ := h
  cases rx
  obtain ⟨mA, J, _⟩ := ins_get I.hok ha
  obtain ⟨od, J, _⟩ := J.look
  obtain ⟨m, hF⟩ := I.fr
  obtain ⟨P, Z, p, _⟩ := kit_of I ry ty
  show wpAny (model X.prog X.w) X.A (richCompare .Eq (.ref a) u) (EP X pins σ Q) X.xe s
  refine PySem.W.cmp_K (op := .Eq) (tb := t) hr.units0 hF I.ok.mod.kin J (Z.ty _ _ I.kIn p) nf (he c hc) hf ?_
  refine thn (run_eqf Fo hr hb I (x := .ref a) rfl ry hsp) fun r s' hq => ?_
  obtain ⟨z, H', I', rz, kk, ez, q⟩ := hq
  subst ez
  cases rz
  exact ⟨.bl kk, H', I', rfl, q⟩

theorem ifBound_KB {M : Model} {A : Around} {E : Value → Shared → Prop} {s : Shared} {K : PySem.W.Frag} {x C : Addr} {ox : Obj} {od : Option Obj} {name : Str} {T id : String} {args : List Value} {Q : Option Value → Shared → Prop} (X : K.In s.heap) (I : PySem.W.InstAt s.heap x ox C od) (hs : PySem.W.findIn K (.ref C) name = some (some (.builtin id))) (S : Slot T name id)
    (h : wpAny M A (call (.builtin id) (.ref x :: args)) (fun v => Q (some v)) E s) : wpAny M A (callSpecialIfBound? (.ref x) name args) Q E s := by
  simp only [callSpecialIfBound?, bindSpecialIfBound?]
  refine wpAny_holding (wpAny_bind (wpAny_bind (wpAny_bind (I.type.here ((PySem.W.looks_findIn X hs).here ?_)))))
  simp only [S.bind]
  refine wpAny_bind (wpAny_askSetting (wpAny_ite ?_))
  have fin : wpAny M A (call (.builtin id) ([.ref x] ++ args) >>= fun v => pure (some v)) Q E s :=
    wpAny_bind (wpAny_mono h (fun v s' h' => wpAny_pure h') fun _ _ h' => h')
  split
  · exact wpAny_bind (wpAny_pure (wpAny_pure fin))
  · exact wpAny_tryCatch (wpAny_bind (wpAny_pure (wpAny_pure fin)))
theorem check_slot_K {M : Model} {A : Around} {E : Value → Shared → Prop} {s : Shared} {K : PySem.W.Frag} {x C : Addr} {ox : Obj} {od : Option Obj} {id owner n : String} {rest : List Value} {Q : Unit → Shared → Prop} (X : K.In s.heap) (I : PySem.W.InstAt s.heap x ox C od) (hk : builtinKind id = some .slot) (hs : splitId id = some (owner, n))
    (ha : argsOk id ⟨.ref x :: rest, []⟩) (hob : PySem.W.subIn K (.ref C) (.type owner) = some true) (hq : Q () s) : wpAny M A (checkBuiltinCall id ⟨.ref x :: rest, []⟩) Q E s := by
  simp only [checkBuiltinCall, hk, hs]
  refine wpAny_bind ?_
  unfold isInstance
  refine wpAny_bind (I.type.here ((PySem.W.looks_subIn X hob).here ?_))
  simp only [Bool.not_true, Bool.false_eq_true, if_false]
  cases hsig : Manifest.signature? id with
  | none => exact wpAny_pure hq
  | some sig =>
    simp only [argsOk, hsig] at ha
    have h2 : Bind.checkArgs id sig ⟨.ref x :: rest, []⟩ = pure () := ha
    show wpAny M A (Bind.checkArgs id sig ⟨.ref x :: rest, []⟩) Q E _
    rw [h2]; exact wpAny_pure hq
/-- what != of an instance with an own __eq__ and no own __ne__ asks of its class -/
structure NeF (K : PySem.W.Frag) (C : Addr) : Prop where
  ne : PySem.W.findIn K (.ref C) "__ne__" = some (some (.builtin "object.__ne__"))
  ob : PySem.W.subIn K (.ref C) (.type "object") = some true
theorem cmp_NeK {prog : Program} {w : World} {A : Around} {E : Value → Shared → Prop} {s : Shared} {K : PySem.W.Frag} {h₀ : Heap} {L x C f : Addr} {m : Str → Option Value} {ox : Obj} {od : Option Obj} {b tb : Value} {Q : Value → Shared → Prop} (hu : A.units + 1 < cLine) (Fq : PyProof.Rows.Fr h₀ L s.heap m) (X₀ : K.In h₀) (I : PySem.W.InstAt s.heap x ox C od) (hb : PySem.W.Looks (model prog w) s.heap (typeOf b) tb) (hn : PySem.W.notFirst K C tb = true)
    (N : NeF K C) (hs : PySem.W.findIn K (.ref C) "__eq__" = some (some (.ref f))) (hf : PySem.W.isFn K (.ref f) = true)
    (h : wpAny (model prog w) A.in1 (call (.ref f) [.ref x, b]) (fun v s' => ∃ k, v = .bool k ∧ Q (.bool (!k)) s') E s) : wpAny (model prog w) A (richCompare .NotEq (.ref x) b) Q E s := by
  have X := X₀.keeps Fq.keep
  have entry : wpAny (model prog w) A.in1 (Builtin.«object.__ne__» ⟨[.ref x, b], []⟩) (fun fin s' => match fin with | .done fl => (∃ v, fl = .ret v ∧ ∃ k, v = .bool k ∧ Q v s') | .again _ => False) E s := by
    unfold Builtin.«object.__ne__»
    show wpAny (model prog w) A.in1 (cRoomFor "comparison" [.ref x, b] >>= fun _ => callSpecialIfBound? (.ref x) "__eq__" [b] >>= _) _ E s
    refine wpAny_bind (wpAny_cRoomFor (by show A.units + 1 < cLine; exact hu) (wpAny_bind ?_))
    refine PySem.W.ifBound_K X I hs hf (wpAny_mono h (fun v s' hv => ?_) fun _ _ e => e)
    obtain ⟨k, rfl, q⟩ := hv
    show wpAny (model prog w) A.in1 (truthy (.bool k) >>= _) _ E s'
    refine wpAny_bind (wpAny_truthy_bool ?_)
    exact wpAny_pure ⟨_, rfl, _, rfl, q⟩
  have one : wpAny (model prog w) A (tryCompare (.ref x) "__ne__" b) (fun r s' => ∃ v, r = some v ∧ Q v s') E s := by
    unfold tryCompare
    refine wpAny_bind (ifBound_KB X I N.ne PySem.F.cmp_object.ne (wpAny_call (codeAny_call_builtin PySem.F.cmp_object.ne.plain PySem.F.cmpEntry_ne (check_slot_K X I PySem.F.cmpKind_ne PySem.F.cmpSplit_ne (PySem.F.cmpArgs_ne _ _) N.ob ?_))))
    refine wpAny_mono entry (fun fin s' hv => ?_) fun _ _ e => e
    cases fin with
    | again c => exact hv.elim
    | done fl =>
      obtain ⟨v, rfl, k, rfl, q⟩ := hv
      exact wpAny_pure ⟨_, rfl, q⟩
  unfold richCompare
  simp only [oneThing_ref]
  refine wpAny_holding (wpAny_bind (wpAny_cRoomFor (Nat.lt_of_succ_lt hu) ?_))
  refine wpAny_bind (I.type.here (wpAny_bind (hb.here ?_)))
  split
  · rename_i q
    have e : PySem.W.subIn K tb (.ref C) = some false := by
      rcases Bool.or_eq_true_iff.mp hn with e | e
      · rw [beq_iff_eq.mp e] at q; simp at q
      · exact beq_iff_eq.mp e
    refine wpAny_bind ((PySem.W.looks_subIn X e).here ?_)
    simp only [Bool.false_eq_true, if_false]
    refine wpAny_bind (wpAny_mono one (fun r s' z => ?_) fun _ _ e => e)
    obtain ⟨v, rfl, hq⟩ := z
    exact wpAny_pure hq
  · refine wpAny_bind (wpAny_pure ?_)
    simp only [Bool.false_eq_true, if_false]
    refine wpAny_bind (wpAny_mono one (fun r s' z => ?_) fun _ _ e => e)
    obtain ⟨v, rfl, hq⟩ := z
    exact wpAny_pure hq

theorem op_one {k : Nat} {cl : List Nat} {f : Addr} {fd : FuncData} {ps : List Str} {sp : Sp} (Fo : FnOk X.prog X.w X.K X.mg X.base CX0 k f fd ps sp) (hr : Room (k + 1) X.A) (hb : Binds X.K fd ps []) (he : EqF X.K cm cl f) (hne : ∀ c ∈ cl, NeF X.K (cm c)) (hf : PySem.W.isFn X.K (.ref f) = true) :
    OpR X (compareOp .NotEq) (fun x y H Q => rOEq X.K cm cl sp x y H fun v H' => ∃ z, v = .bl z ∧ Q (.bl (!z)) H') := by
  intro pins s σ H x y v u Q I rx ry h
  obtain ⟨a, c, dx, fs, t, rfl, ha, hc, ty, nf, hsp⟩ := h
  cases rx
  obtain ⟨mA, J, _⟩ := ins_get I.hok ha
  obtain ⟨od, J, _⟩ := J.look
  obtain ⟨m, hF⟩ := I.fr
  obtain ⟨P, Z, p, _⟩ := kit_of I ry ty
  show wpAny (model X.prog X.w) X.A (richCompare .NotEq (.ref a) u) (EP X pins σ Q) X.xe s
  refine cmp_NeK (Nat.lt_of_le_of_lt (Nat.add_le_add_left (by decide : 1 ≤ 64) _) hr.units) hF I.ok.mod.kin J (Z.ty _ _ I.kIn p) nf (hne c hc) (he c hc) hf ?_
  have r2 : Vals [V.ref a, y] [Value.ref a, u] := .cons rfl (.cons ry .nil)
  have hl := Fo.len _ _ _ _ hsp
  refine wpAny_call (codeAny_mono (Fo.run X.A.in1 X.stack s H ⟨[.ref a, u], []⟩ [.ref a, u] [.ref a, y] _ E0 hr.in1 I.env0.in1 (by
    have := hb s [.ref a, u] I.kIn (by simpa using hl)
    simpa using this) r2 hsp) fun r s' hq => ?_)
  cases r with
  | error e => exact absurd hq (fun h => h.elim)
  | ok fl =>
    cases fl with
    | ret w =>
      obtain ⟨z, H', I', rz, kk, ez, kk2, ez2, q⟩ := I.after hq
      subst ez
      cases rz
      cases ez2
      exact ⟨_, rfl, .bl (!kk), H', I', rfl, q⟩
    | next => exact False.elim hq
    | brk => exact False.elim hq
    | cont => exact False.elim hq
theorem spD_q {K : PySem.W.Frag} {p : Fn} {n : Nat} {vs : List V} {H : Hp} {Q Q' : VK} {E : XK} (h : ∀ v H', Q v H' → Q' v H') (hs : spD K cm p n vs H Q E) : spD K cm p n vs H Q' E :=
  let ⟨hl, F, args, O, o, args', s, e, k⟩ := hs
  ⟨hl, F, args, O, o, args', s, e, fun F' H' v O' R g s' ow nw => h _ _ (k F' H' v O' R g s' ow nw)⟩
/-- the classes whose instances are compared so, with what may stand on the right -/
def nfY (nf : Nat → Nat → Bool) (c : Nat) (y : D) : Bool := match y with
  | .obj c' _ => nf c c'
  | d => (tyN d).isSome
def oeqD (cl : List Nat) (nf : Nat → Nat → Bool) (p : Fn) (neg : Bool) (x y : D) : Option D := match x with
  | .obj c gs => if cl.contains c = true ∧ nfY nf c y = true then
      match p [some (.fd (.val x)), some (.fd (.val y))] with
      | some (.fd (.val (.bl k)), _) => some (.bl (if neg = true then !k else k))
      | _ => none
    else none
  | _ => none
structure NfF (K : PySem.W.Frag) (cm : Cm) (cl : List Nat) (nf : Nat → Nat → Bool) : Prop where
  ob : ∀ c ∈ cl, ∀ c', nf c c' = true → PySem.W.notFirst K (cm c) (.ref (cm c')) = true
  bu : ∀ c ∈ cl, ∀ S ∈ ["NoneType", "bool", "int", "str", "list", "tuple", "dict"], PySem.W.notFirst K (cm c) (.type S) = true
theorem sr_oeq {K : PySem.W.Frag} {cl : List Nat} {nf : Nat → Nat → Bool} {p : Fn} {neg : Bool} {x y : D} {d : D} (N : NfF K cm cl nf) {F H : Hp} {σ : L2.St} {env : Env} {O : Nat → Rg} {v w : V} {Q : VK} (s : Sts K cm F H σ env O) (rx : Rp K cm F v x) (ry : Rp K cm F w y) (e : oeqD cl nf p neg x y = some d) (k : Kv K cm F H σ O env d Q) :
    ∃ a c dx fs t, v = .ref a ∧ H a = some (.ins (cm c) dx fs) ∧ c ∈ cl ∧ TyX K H w t ∧ PySem.W.notFirst K (cm c) t = true ∧ ∀ E : XK, spD K cm p 2 [v, w] H (fun v H' => ∃ z, v = .bl z ∧ Q (.bl (if neg = true then !z else z)) H') E := by
  unfold oeqD at e
  split at e
  · rename_i c gs
    by_cases hc : cl.contains c = true ∧ nfY nf c y = true
    · rw [if_pos hc] at e
      split at e
      · rename_i kk args' ep
        cases e
        have r2 : RpA K cm F [v, w] [.obj c gs, y] := .cons rx (.cons ry .nil)
        have hsp : ∀ E : XK, spD K cm p 2 [v, w] H (fun v H' => ∃ z, v = .bl z ∧ Q (.bl (if neg = true then !z else z)) H') E := fun E => by
          refine ⟨rfl, F, vals [.obj c gs, y], _, _, args', sts_vals s.fh s.mm r2, ep, ?_⟩
          refine Ko.callV (σ := σ) (env := env) (O := O) ?_ s
          intro F' H' u O' R g s' ow n
          cases ow with
          | fd rr => cases rr with
            | val rr =>
              cases rr
              exact ⟨kk, rfl, k F' H' _ O' (g.sub fun p z => .inr z) s' (.bl _)⟩
        have hcl : c ∈ cl := by simpa using hc.1
        cases rx with
        | obj h1 h2 h3 h4 =>
          have ty : ∃ t, TyX K H w t ∧ PySem.W.notFirst K (cm c) t = true := by
            cases hy : tyN y with
            | some T =>
              have hS : T ∈ ["NoneType", "bool", "int", "str", "list", "tuple", "dict"] := by
                cases y <;> cases hy <;> decide
              exact ⟨_, ry.tyX s.fh hy, N.bu c hcl T hS⟩
            | none =>
              have h2 := hc.2
              cases y <;> first | (cases hy; done) | skip
              all_goals first
                | (have h2 : nf c _ = true := h2; exact ⟨_, ry.tyO s.fh, N.ob c hcl _ h2⟩)
                | (exfalso; exact absurd h2 (by unfold nfY; simp [tyN]))
          obtain ⟨t, ty, nf'⟩ := ty
          exact ⟨_, c, _, _, t, rfl, s.fh.at h1, hcl, ty, nf', hsp⟩
      · cases e
    · rw [if_neg hc] at e; cases e
  · cases e
def eqA (cl : List Nat) (nf : Nat → Nat → Bool) (p : Fn) (x y : D) : Option D := match x with
  | .obj _ _ => oeqD cl nf p false x y
  | _ => eqD x y
def neA (cl : List Nat) (nf : Nat → Nat → Bool) (p : Fn) (x y : D) : Option D := match x with
  | .obj _ _ => oeqD cl nf p true x y
  | _ => neD x y
/-- == of data or of instances -/
theorem de_eqA {k : Nat} {cl : List Nat} {nf : Nat → Nat → Bool} {f : Addr} {fd : FuncData} {ps : List Str} {p : Fn} {fa fb : M D} (Fo : FnOk X.prog X.w X.K X.mg X.base CX0 k f fd ps (spD X.K cm p 2)) (hr : Room (k + 1) X.A) (hbi : Binds X.K fd ps []) (he : EqF X.K cm cl f) (hf : PySem.W.isFn X.K (.ref f) = true) (N : NfF X.K cm cl nf)
    (ha : DE X cm a ta fa) (hb : DE X cm b tb fb) : DE X cm (.Compare a [.Eq] [b] pos) (tOp (fun x y H Q => rEqD X.K x y H Q ∨ rOEq X.K cm cl (spD X.K cm p 2) x y H Q) ta tb) (m2 (eqA cl nf p) fa fb) :=
  ⟨pe_cmpR (.or (op_eqD hr.units) (op_oeq Fo (hr.mono (Nat.le_succ _)) hbi he hf)) ha.pe hb.pe (nomark _), sm_op2 (fun F H σ env O x y a b d Q s ra rb e kk => by
    unfold eqA at e
    split at e
    · obtain ⟨q, c, dx, fs, t, h1, h2, h3, h4, h5, h6⟩ := sr_oeq N s ra rb e kk
      refine .inr ⟨q, c, dx, fs, t, h1, h2, h3, h4, h5, spD_q ?_ (h6 E0)⟩
      rintro v H' ⟨z, rfl, q⟩
      exact ⟨_, rfl, q⟩
    · exact .inl (pu_eq F H x y _ b d Q ra rb s.fh e fun v r => kk.here s r)) ha.sm hb.sm⟩

theorem de_neA {k : Nat} {cl : List Nat} {nf : Nat → Nat → Bool} {f : Addr} {fd : FuncData} {ps : List Str} {p : Fn} {fa fb : M D} (Fo : FnOk X.prog X.w X.K X.mg X.base CX0 k f fd ps (spD X.K cm p 2)) (hr : Room (k + 1) X.A) (hbi : Binds X.K fd ps []) (he : EqF X.K cm cl f) (hne : ∀ c ∈ cl, NeF X.K (cm c)) (hf : PySem.W.isFn X.K (.ref f) = true) (N : NfF X.K cm cl nf)
    (ha : DE X cm a ta fa) (hb : DE X cm b tb fb) : DE X cm (.Compare a [.NotEq] [b] pos) (tOp (fun x y H Q => rNeD X.K x y H Q ∨ rOEq X.K cm cl (spD X.K cm p 2) x y H fun v H' => ∃ z, v = .bl z ∧ Q (.bl (!z)) H') ta tb) (m2 (neA cl nf p) fa fb) :=
  ⟨pe_cmpR (.or (op_neD hr.units) (op_one Fo hr hbi he hne hf)) ha.pe hb.pe (nomark _), sm_op2 (fun F H σ env O x y a b d Q s ra rb e kk => by
    unfold neA at e
    split at e
    · obtain ⟨q, c, dx, fs, t, h1, h2, h3, h4, h5, h6⟩ := sr_oeq N s ra rb e kk
      refine .inr ⟨q, c, dx, fs, t, h1, h2, h3, h4, h5, spD_q ?_ (h6 E0)⟩
      rintro v H' ⟨z, rfl, q⟩
      exact ⟨_, rfl, _, rfl, q⟩
    · exact .inl (pu_ne F H x y _ b d Q ra rb s.fh e fun v r => kk.here s r)) ha.sm hb.sm⟩
end
end DL

/-! The data layer: walks of lists or tuples, built-ins upon values with effects, a def by its body. -/
namespace DL
open PySem PySem.Spec PyProof.Rows L2

def iAny (K : PySem.W.Frag) (tl : TE) : TI := fun σ H R => tl σ H fun x H1 => ∃ a, x = .ref a ∧ (((∃ xs, SqL K H1 a xs) ∧ R (Itl K a) H1) ∨ ((∃ xs, SqT K H1 a xs) ∧ R (Itt K a) H1))
def iEnumA (K : PySem.W.Frag) (ta : TA) : TI := fun σ H R => ta σ H fun vs H1 => ∃ a xs, vs = [.ref a] ∧ ((SqL K H1 a xs ∧ R (Ite K a) H1) ∨ (SqT K H1 a xs ∧ R (IteT K a) H1))
section
variable {X : Cx} {cm : Cm} {B : List Nat} {tg e a b c l : Expr} {es : List Expr} {te ta tb tc tl : TE} {pos : Pos} {fb : P D} {fx : P Fd}
theorem pi_any (hl : PE X l tl) : PI X tg l (iAny X.K tl) := by
  refine ⟨fun pins s σ H R I h => ?_⟩
  refine thn (hl.run pins s σ H _ I h) fun v s1 ⟨x, H1, I1, r1, q1⟩ => ?_
  obtain ⟨a, e, q⟩ := q1
  subst e
  cases r1
  rcases q with ⟨⟨xs, hq⟩, q⟩ | ⟨⟨xs, hq⟩, q⟩
  · obtain ⟨its, rv, p, hz⟩ := I1.list hq
    refine wpAny_pyIter_list p.isList ?_
    refine ⟨s1.heap.objs.size, [s1.heap.objs.size], _, _, H1, rfl, I1.kept (t' := s1.toks) fun b o e => Heap.get?_push_of_some _ e, turn_list a _, ⟨_, Heap.get?_push_size _ rfl, rfl, rfl⟩, fun b hb => ?_, q⟩
    have e : b = s1.heap.objs.size := by simpa using hb
    subst e
    exact I1.fpOk (Nat.le_refl _) (I1.hok.fresh (Nat.le_refl _))
  · obtain ⟨its, rv, p, hz⟩ := I1.tuple hq
    refine wpAny_pyIter_tuple (show s1.heap.IsTuple a its.toArray from p) ?_
    refine ⟨s1.heap.objs.size, [s1.heap.objs.size], _, _, H1, rfl, I1.kept (t' := s1.toks) fun b o e => Heap.get?_push_of_some _ e, turn_tuple a _, ⟨_, Heap.get?_push_size _ rfl, rfl, rfl⟩, fun b hb => ?_, q⟩
    have e : b = s1.heap.objs.size := by simpa using hb
    subst e
    exact I1.fpOk (Nat.le_refl _) (I1.hok.fresh (Nat.le_refl _))
theorem pi_enumA {e : Expr} {ta : TA} {p pos tpos : Pos} {elts : List Expr} {kk : Nat} (hg : Gl X "enumerate") (hm : X.mg "enumerate" = none) (ha : PA X [e] ta) (hs : starEach [e] X.env = [(false, eval e X.env)] := by rfl) :
    PI X (.Tuple elts kk tpos) (.Call (.Name "enumerate" p) [e] [] pos) (iEnumA X.K ta) := by
  refine ⟨fun pins s σ H R I h => ?_⟩
  refine Call_ (ld_blt I hg hm boot_enumerate (PyProof.Rows.callWith_type1 (thn (ha.run pos pins s σ H _ I h) fun us s1 ⟨vs, H1, I1, r1, q1⟩ => ?_) hs rfl))
  obtain ⟨a, xs, ex, q⟩ := q1
  subst ex
  cases r1 with
  | cons r rr =>
    cases rr
    cases r
    have tail : ∀ b, b = s1.heap.objs.size + 1 ∨ b = s1.heap.objs.size → s1.heap.objs.size ≤ b := fun b e' => by
      rcases e' with z | z
      · rw [z]; exact Nat.le_add_right _ _
      · rw [z]; exact Nat.le_refl _
    rcases q with ⟨hq, q⟩ | ⟨hq, q⟩
    · obtain ⟨its, rv, p', hz⟩ := I1.list hq
      refine call_enumerate_list p'.isList fun h' he hit hsz hk => wpAny_pyIter_enum he ?_
      have I2 : Inv X pins σ H1 { s1 with heap := h' } := I1.kept (t' := s1.toks) hk
      refine ⟨s1.heap.objs.size + 1, [s1.heap.objs.size + 1, s1.heap.objs.size], _, _, H1, rfl, I2, turn_enum a (s1.heap.objs.size + 1) s1.heap.objs.size, ⟨⟨.none, he⟩, hit, Nat.succ_ne_self _⟩, fun b hb => ?_, q⟩
      have hle := tail b (by simpa using hb)
      exact I1.fpOk hle (I1.hok.fresh hle)
    · obtain ⟨its, rv, p', hz⟩ := I1.tuple hq
      refine call_enumerate_tuple (show s1.heap.IsTuple a its.toArray from p') fun h' he hit hsz hk => wpAny_pyIter_enum he ?_
      have I2 : Inv X pins σ H1 { s1 with heap := h' } := I1.kept (t' := s1.toks) hk
      refine ⟨s1.heap.objs.size + 1, [s1.heap.objs.size + 1, s1.heap.objs.size], _, _, H1, rfl, I2, turn_enumT a (s1.heap.objs.size + 1) s1.heap.objs.size, ⟨⟨.none, he⟩, hit, Nat.succ_ne_self _⟩, fun b hb => ?_, q⟩
      have hle := tail b (by simpa using hb)
      exact I1.fpOk hle (I1.hok.fresh hle)
def itA (f : M D) : M (List D) := mb f fun d => mo (itemsF (.val d))
theorem wk_items {K : PySem.W.Frag} {F H : Hp} {v : V} {d : D} {ds : List D} (r : Rp K cm F v d) (e : itemsF (.val d) = some ds) : ∃ a, v = .ref a ∧ ∃ vs, RpA K cm F vs ds ∧ (SqL K F a vs ∨ SqT K F a vs) := by
  obtain ⟨p, vs, rfl, hs, ra⟩ := (OwF.val r : OwF K cm F F v (.val d) fun _ => False).seq (SmH.refl F) e
  exact ⟨p, rfl, vs, ra, hs⟩
theorem di_any {f : M D} (h : DE X cm e te f) : DI X cm tg e (iAny X.K te) (itA f) := ⟨pi_any h.pe, fun F H σ env O ds env' R s e k => by
  obtain ⟨x, env1, e1, e⟩ := mb_some e
  obtain ⟨e3, e4⟩ := mo_some e
  dsimp only at e3 e4
  subst e4
  refine h.sm F H σ env O x _ _ s e1 fun F1 H1 v O1 g1 s1 r => ?_
  obtain ⟨a, rfl, vs, ra, hs⟩ := wk_items (H := H1) r e3
  rcases hs with hs | hs
  · exact ⟨a, rfl, .inl ⟨⟨_, s1.fh.seq hs⟩, k F1 H1 O1 _ g1 s1 (wk_list hs ra)⟩⟩
  · exact ⟨a, rfl, .inr ⟨⟨_, s1.fh.sqT hs⟩, k F1 H1 O1 _ g1 s1 (wk_tup hs ra)⟩⟩⟩
def itEA (f : M D) : M (List D) := mb f fun d => mo ((itemsF (.val d)).map (enD 0))
theorem di_enA {f : M D} {p pos tpos : Pos} {elts : List Expr} {kk : Nat} (hm : X.mg "enumerate" = none) (h : DE X cm a ta f) (hg : Gl X "enumerate" := by rfl) (hs : starEach [a] X.env = [(false, eval a X.env)] := by rfl) : DI X cm (.Tuple elts kk tpos) (.Call (.Name "enumerate" p) [a] [] pos) (iEnumA X.K (tCons ta tNil)) (itEA f) := ⟨pi_enumA hg hm (pa_cons h.pe pa_nil hs) hs, fun F H σ env O ds env' R s e k => by
  obtain ⟨x, env1, e1, e⟩ := mb_some e
  obtain ⟨e3, e4⟩ := mo_some e
  dsimp only at e3 e4
  subst e4
  obtain ⟨ds, e5, rfl⟩ := map_some e3
  refine h.sm F H σ env O x _ _ s e1 fun F1 H1 v O1 g1 s1 r => ?_
  obtain ⟨a, rfl, vs, ra, hs⟩ := wk_items (H := H1) r e5
  rcases hs with hs | hs
  · exact ⟨a, vs, rfl, .inl ⟨s1.fh.seq hs, k F1 H1 O1 _ g1 s1 (wk_enum hs ra)⟩⟩
  · exact ⟨a, vs, rfl, .inr ⟨s1.fh.sqT hs, k F1 H1 O1 _ g1 s1 (wk_enumT hs ra)⟩⟩⟩
/-! built-ins upon one value -/
theorem sm_cb1 {r : List V → Hp → VK → Prop} {g : D → Option D} {fa : M D} (hr : ∀ F H x a d (Q : VK), Rp X.K cm F x a → SmH F H → g a = some d → (∀ v, Rp X.K cm F v d → Q v H) → r [x] H Q) (ha : Sm X.K cm ta fa) : Sm X.K cm (tCB r (tCons ta tNil)) (m1 g fa) := fun F H σ env O d env' Q s e k => by
  obtain ⟨x, env1, e1, e⟩ := mb_some e
  obtain ⟨e3, e4⟩ := mo_some e
  dsimp only at e3 e4
  subst e4
  refine ha F H σ env O x _ _ s e1 fun F1 H1 v O1 g1 s1 r1 => hr F1 H1 v x d Q r1 s1.fh e3 fun w rw' => k F1 H1 w O1 g1 s1 rw'
theorem de_len {p : Pos} {fa : M D} (hm : X.mg "len" = none) (ha : DE X cm a ta fa) (hg : Gl X "len" := by rfl) (he : starEach [a] X.env = (false, eval a X.env) :: starEach [] X.env := by rfl) (hpl : (backTo pos (starEach [] X.env)).any (·.1) = false := by rfl) :
    DE X cm (.Call (.Name "len" p) [a] [] pos) (tCB (fun xs H Q => ∃ x n, xs = [x] ∧ LenV X.K x H n ∧ Q (.int n) H) (tCons ta tNil)) (m1 (fun d => lenF (.val d)) fa) := by
  refine ⟨pe_callB call_len hg hm PySem.boot_len (pa_cons ha.pe pa_nil he) (by decide) (by decide) he hpl, sm_cb1 (fun F H x a d Q r fh e k => ?_) ha.sm⟩
  unfold lenF at e
  split at e
  · rename_i z q
    cases q
    by_cases c : z.length ≤ 16777216
    · rw [if_pos c] at e; cases e
      cases r; exact ⟨_, _, rfl, ⟨size_le c, rfl⟩, k _ (.int _)⟩
    · rw [if_neg c] at e; cases e
  · obtain ⟨ds, e1, rfl⟩ := map_some e
    obtain ⟨p, vs, rfl, hs, ra⟩ := (OwF.val r : OwF X.K cm F H x (.val a) fun _ => False).seq fh e1
    refine ⟨_, vs.length, rfl, ?_, by rw [ra.len]; exact k _ (.int _)⟩
    rcases hs with hs | hs
    · exact .inl ⟨vs, hs, rfl⟩
    · exact .inr ⟨vs, hs, rfl⟩
theorem sm_isi {c : V} {u : Value} {g : D → Option D} {fa : M D} (hc : ClsV c u) (hr : ∀ F H x a d, Rp X.K cm F x a → SmH F H → g a = some d → ∃ t b, TyX X.K H x t ∧ PySem.W.kitOne X.K t u = some b ∧ d = .bl b) (ha : Sm X.K cm ta fa) : Sm X.K cm (tCB (rIsi X.K) (tCons ta (tCons (tC c) tNil))) (m1 g fa) := fun F H σ env O d env' Q s e k => by
  obtain ⟨x, env1, e1, e⟩ := mb_some e
  obtain ⟨e3, e4⟩ := mo_some e
  dsimp only at e3 e4
  subst e4
  refine ha F H σ env O x _ _ s e1 fun F1 H1 v O1 g1 s1 r1 => ?_
  obtain ⟨t, b, ty, e5, rfl⟩ := hr F1 H1 v x d r1 s1.fh e3
  exact ⟨v, c, t, u, b, rfl, hc, ty, e5, k F1 H1 _ O1 g1 s1 (.bl _)⟩
theorem de_isi {p p2 : Pos} {x : Str} {T : String} {tab : Nat → Option Bool} {fa : M D} (hm : X.mg "isinstance" = none) (hmT : X.mg x = none) (hvT : bootBuiltins x = some (.type T)) (hc : ∀ c b, tab c = some b → PySem.W.kitOne X.K (.ref (cm c)) (.type T) = some b) (ha : DE X cm a ta fa)
    (hg : Gl X "isinstance" := by rfl) (hgT : Gl X x := by rfl) (hn : x ≠ "__name__" := by decide) (hd : (x == ("__debug__" : Str)) = false := by decide)
    (he : starEach [a, .Name x p2] X.env = (false, eval a X.env) :: starEach [.Name x p2] X.env := by rfl) (he2 : starEach [.Name x p2] X.env = (false, eval (.Name x p2) X.env) :: starEach [] X.env := by rfl) (hpl : (backTo pos (starEach [.Name x p2] X.env)).any (·.1) = false := by rfl) :
    DE X cm (.Call (.Name "isinstance" p) [a, .Name x p2] [] pos) (tCB (rIsi X.K) (tCons ta (tCons (tC (.ty T)) tNil))) (m1 (isiB T tab) fa) := by
  refine ⟨pe_callB call_isi hg hm (by rfl) (pa_cons ha.pe (pa_cons (pe_bltn hgT hmT hvT rfl hn hd) pa_nil he2) he) (by decide) (by decide) he hpl, sm_isi (.ty T) (fun F H x a d r fh e => ?_) ha.sm⟩
  unfold isiB at e
  split at e
  · obtain ⟨b, e2, rfl⟩ := map_some e
    exact ⟨_, b, r.tyO fh, hc _ _ e2, rfl⟩
  · obtain ⟨S, e2, e⟩ := bind_some e
    obtain ⟨b, e3, rfl⟩ := map_some e
    exact ⟨_, b, r.tyX fh e2, kit_ty e3, rfl⟩
theorem de_isC {p p2 : Pos} {x : Str} {n : Nat} {tab : Nat → Option Bool} {fa : M D} (hm : X.mg "isinstance" = none) (hmC : X.mg x = some (.ref (cm n))) (hb : ∀ S ∈ ["NoneType", "bool", "int", "str", "list", "tuple", "dict"], PySem.W.kitOne X.K (.type S) (.ref (cm n)) = some false)
    (hc : ∀ c b, tab c = some b → PySem.W.kitOne X.K (.ref (cm c)) (.ref (cm n)) = some b) (ha : DE X cm a ta fa)
    (hg : Gl X "isinstance" := by rfl) (hgT : Gl X x := by rfl) (hd : (x == ("__debug__" : Str)) = false := by decide)
    (he : starEach [a, .Name x p2] X.env = (false, eval a X.env) :: starEach [.Name x p2] X.env := by rfl) (he2 : starEach [.Name x p2] X.env = (false, eval (.Name x p2) X.env) :: starEach [] X.env := by rfl) (hpl : (backTo pos (starEach [.Name x p2] X.env)).any (·.1) = false := by rfl) :
    DE X cm (.Call (.Name "isinstance" p) [a, .Name x p2] [] pos) (tCB (rIsi X.K) (tCons ta (tCons (tC (.ref (cm n))) tNil))) (m1 (isiC tab) fa) := by
  refine ⟨pe_callB call_isi hg hm (by rfl) (pa_cons ha.pe (pa_cons (pe_glob hgT hmC rfl hd) pa_nil he2) he) (by decide) (by decide) he hpl, sm_isi (.own _) (fun F H x a d r fh e => ?_) ha.sm⟩
  unfold isiC at e
  split at e
  · obtain ⟨b, e2, rfl⟩ := map_some e
    exact ⟨_, b, r.tyO fh, hc _ _ e2, rfl⟩
  · obtain ⟨S, e2, rfl⟩ := map_some e
    have hS : S ∈ ["NoneType", "bool", "int", "str", "list", "tuple", "dict"] := by
      cases a <;> cases e2 <;> decide
    exact ⟨_, false, r.tyX fh e2, hb S hS, rfl⟩
end
section
variable {P : Program} {w : World} {K : PySem.W.Frag} {mg : Str → Option Value} {base : Heap} {cm : Cm}
/-- THE RULE for a def: its body's meaning is what it does with its arguments -/
theorem fn_dx {x qual : Str} {st : Stmt} {f : Addr} {fd : FuncData} {N ps : List Str} {k : Nat} {B : List Nat} {g : G} {p : Fn} {n : Nat} (Fu : Fun K x qual st f fd) (S : FnScope N ps (defScope st)) (hle : ps.length ≤ N.length) (hp : p = runD ps.length N.length B g) (hn : n = ps.length)
    (hbody : ∀ (cdv : Value) (A : Around) (outer : List PySem.Env) (s : Shared) (H : Hp) (E : XK), Room k (A.deeper (envOfC qual (defScope st) s.heap.objs.size f cdv)) → ∃ ts, DSs (cxOf CX0 P w K mg base N qual (defScope st) f cdv A outer s H E).nox cm B (defBody st) ts g) :
    FnOk P w K mg base CX0 (k + 1) f fd ps (spD K cm p n) := by
  subst hp hn
  refine Fu.ok S (fun vs H Q E h => h.1) fun cdv A outer s H vs Q E hr h => ?_
  obtain ⟨hl, F, args, O, o, args', s1, e, kk⟩ := h
  obtain ⟨ts, D⟩ := hbody cdv A outer s H E hr
  refine ⟨ts, D.pe, ?_⟩
  unfold runD at e
  have ha : args.length = ps.length := by rw [← s1.len, List.length_map]; exact hl
  rw [if_pos ha] at e
  obtain ⟨⟨out, env1⟩, e1, e2⟩ := bind_some e
  have es : L2.start N vs = vs.map some ++ List.replicate (N.length - ps.length) none := by unfold L2.start; rw [hl]
  rw [es]
  refine D.sm F H _ _ O out env1 _ (s1.more (N.length - ps.length)) e1 ?_
  cases out with
  | nx =>
    have e2 : some ((.fd (.val .non) : Od), outA B args env1) = some (o, args') := e2
    cases e2
    intro F' H' σ' O' g' s' b'
    exact kk F' H' .non _ (fun _ => False) (g'.sub fun p z => z.elim False.elim un_sub) (s1.back s' b' g'.ff) (.fd (.val .non)) fun p z => z.elim
  | rt o1 =>
    have e2 : some (o1, outA B args env1) = some (o, args') := e2
    cases e2
    intro F' H' σ' v O' R g' s' b' ow n
    exact kk F' H' v _ R (g'.sub fun p z => z.imp id un_sub) (s1.back s' b' g'.ff) ow fun p z => ⟨(n p z).1, (n p z).2.1, fun w => (n p z).2.2 (un_sub w)⟩
  | bk => cases e2
  | ct => cases e2
end
end DL
namespace DL
open PySem PySem.Spec PyProof.Rows L2
section
variable {X : Cx} {cm : Cm} {B : List Nat} {tg e a b c l : Expr} {es : List Expr} {te ta tb tc tl : TE} {pos : Pos} {fb : P D} {fx : P Fd}
theorem dp_neg {fa : P D} (ha : DP X cm a ta fa) : DP X cm (.UnaryOp .USub a pos) (tUn (rU fun i => .int (-i)) ta) (p1 negD fa) := ⟨pe_un un_neg ha.pe, fun F H σ env O d Q s e k => by
  obtain ⟨x, e1, e⟩ := bind_some e
  refine ha.sm F H σ env O x _ s e1 fun v r => ?_
  cases x <;> cases e
  cases r
  exact ⟨_, rfl, k _ (.int _)⟩⟩
def int1D : D → Option D
  | .int i => some (.int i)
  | .bl k => some (.int (if k then 1 else 0))
  | _ => none
theorem int1_core {K : PySem.W.Frag} {F H : Hp} {x : V} {a d : D} {Q : VK} (r : Rp K cm F x a) (e : int1D a = some d) (k : ∀ v, Rp K cm F v d → Q v H) : (∃ i, [x] = [V.int i] ∧ Q (.int i) H) ∨ ∃ k, [x] = [V.bl k] ∧ Q (.int (if k then 1 else 0)) H := by
  cases a <;> cases e
  · cases r; exact .inr ⟨_, rfl, k _ (.int _)⟩
  · cases r; exact .inl ⟨_, rfl, k _ (.int _)⟩
theorem dp_intc {p : Pos} {fa : P D} (hm : X.mg "int" = none) (ha : DP X cm a ta fa) (hg : Gl X "int" := by rfl) (he : starEach [a] X.env = (false, eval a X.env) :: starEach [] X.env := by rfl) (hpl : (backTo pos (starEach [] X.env)).any (·.1) = false := by rfl) :
    DP X cm (.Call (.Name "int" p) [a] [] pos) (tCB (fun xs H Q => (∃ i, xs = [.int i] ∧ Q (.int i) H) ∨ ∃ k, xs = [.bl k] ∧ Q (.int (if k then 1 else 0)) H) (tCons ta tNil)) (p1 int1D fa) :=
  ⟨pe_callTy call_int1 hg hm (by decide +kernel) (pa_cons ha.pe pa_nil he) (by decide) (by decide) he hpl, fun F H σ env O d Q s e k => by
    obtain ⟨x, e1, e⟩ := bind_some e
    exact ha.sm F H σ env O x _ s e1 fun v r => int1_core r e k⟩
theorem de_intc {p : Pos} {fa : M D} (hm : X.mg "int" = none) (ha : DE X cm a ta fa) (hg : Gl X "int" := by rfl) (he : starEach [a] X.env = (false, eval a X.env) :: starEach [] X.env := by rfl) (hpl : (backTo pos (starEach [] X.env)).any (·.1) = false := by rfl) :
    DE X cm (.Call (.Name "int" p) [a] [] pos) (tCB (fun xs H Q => (∃ i, xs = [.int i] ∧ Q (.int i) H) ∨ ∃ k, xs = [.bl k] ∧ Q (.int (if k then 1 else 0)) H) (tCons ta tNil)) (m1 int1D fa) :=
  ⟨pe_callTy call_int1 hg hm (by decide +kernel) (pa_cons ha.pe pa_nil he) (by decide) (by decide) he hpl, sm_cb1 (fun F H x a d Q r fh e k => int1_core r e k) ha.sm⟩
/-- tests of data or of instances -/
theorem dt_eqA {k : Nat} {cl : List Nat} {nf : Nat → Nat → Bool} {f : Addr} {fd : FuncData} {ps : List Str} {p : Fn} {fa fb : M D} (Fo : FnOk X.prog X.w X.K X.mg X.base CX0 k f fd ps (spD X.K cm p 2)) (hr : Room (k + 1) X.A) (hbi : Binds X.K fd ps []) (he : EqF X.K cm cl f) (hf : PySem.W.isFn X.K (.ref f) = true) (N : NfF X.K cm cl nf)
    (ha : DE X cm a ta fa) (hb : DE X cm b tb fb) : DT X cm (.Compare a [.Eq] [b] pos) (tTest (tOp (fun x y H Q => rEqD X.K x y H Q ∨ rOEq X.K cm cl (spD X.K cm p 2) x y H Q) ta tb)) (tst (m2 (eqA cl nf p) fa fb)) :=
  ⟨pt_cmpR (.or (op_eqD hr.units) (op_oeq Fo (hr.mono (Nat.le_succ _)) hbi he hf)) ha.pe hb.pe (nomark _), smt_of (de_eqA (pos := pos) Fo hr hbi he hf N ha hb).sm⟩
theorem dt_neA {k : Nat} {cl : List Nat} {nf : Nat → Nat → Bool} {f : Addr} {fd : FuncData} {ps : List Str} {p : Fn} {fa fb : M D} (Fo : FnOk X.prog X.w X.K X.mg X.base CX0 k f fd ps (spD X.K cm p 2)) (hr : Room (k + 1) X.A) (hbi : Binds X.K fd ps []) (he : EqF X.K cm cl f) (hne : ∀ c ∈ cl, NeF X.K (cm c)) (hf : PySem.W.isFn X.K (.ref f) = true) (N : NfF X.K cm cl nf)
    (ha : DE X cm a ta fa) (hb : DE X cm b tb fb) : DT X cm (.Compare a [.NotEq] [b] pos) (tTest (tOp (fun x y H Q => rNeD X.K x y H Q ∨ rOEq X.K cm cl (spD X.K cm p 2) x y H fun v H' => ∃ z, v = .bl z ∧ Q (.bl (!z)) H') ta tb)) (tst (m2 (neA cl nf p) fa fb)) :=
  ⟨pt_cmpR (.or (op_neD hr.units) (op_one Fo hr hbi he hne hf)) ha.pe hb.pe (nomark _), smt_of (de_neA (pos := pos) Fo hr hbi he hne hf N ha hb).sm⟩
end
end DL

/-! The data layer: the law itself. -/
namespace DL
open PySem PySem.Spec PyProof.Rows L2

def spLaw (n : Nat) (K : PySem.W.Frag) : Sp := fun vs H Q _ => ∃ (a : Addr) (ns : List Int), vs = [.ref a] ∧ SqL K H a (ns.map V.int) ∧ ns.length ≤ n ∧ ∀ H', Q (.bl true) H'
theorem law_ok {P : Program} {w : World} {K : PySem.W.Frag} {mg : Str → Option Value} {base : Heap} {cm : Cm} {k n : Nat} {f : Addr} {fd : FuncData} {ps : List Str} {p : Fn} (F : FnOk P w K mg base CX0 k f fd ps (spD K cm p 1))
    (h : ∀ ns : List Int, ns.length ≤ n → ∃ env, p [some (.fd (.val (.scr ns)))] = some (.fd (.val (.bl true)), env)) : FnOk P w K mg base CX0 k f fd ps (spLaw n K) := by
  refine F.imp fun vs H Q E ⟨a, ns, e, hS, hl, q⟩ => ?_
  subst e
  obtain ⟨env, e⟩ := h ns hl
  obtain ⟨F0, h0, h1, h2⟩ : ∃ F0 : Hp, SmH F0 H ∧ MM K cm F0 H ∧ SqL K F0 a (ns.map V.int) := by
    rcases hS with hS | hS
    · obtain ⟨u0, hu, hx, hS⟩ : ∃ u0, H a = some u0 ∧ NX u0 ∧ ∀ F0 : Hp, F0 a = some u0 → L2.Rd F0 a (.lst (ns.map V.int)) := by
        rcases hS with hS | ⟨o, hS⟩
        · exact ⟨_, hS, fun _ _ z => (nomatch z), fun _ z => .inl z⟩
        · exact ⟨_, hS, fun _ _ z => (nomatch z), fun _ z => .inr ⟨o, z⟩⟩
      have hz : ∀ p u, upd (fun _ => none) a u0 p = some u → p = a ∧ u = u0 := fun p u e => by
        by_cases c : p = a
        · subst c; rw [upd_same] at e; exact ⟨rfl, (Option.some.inj e).symm⟩
        · rw [upd_ne c] at e; cases e
      refine ⟨upd (fun _ => none) a u0, fun p u e => ?_, fun p n ps e => ?_, .inl (hS _ upd_same)⟩
      · obtain ⟨rfl, rfl⟩ := hz p u e
        exact ⟨fun _ => hu, _, hu⟩
      · obtain ⟨_, z⟩ := hz p _ e
        exact (hx _ _ z.symm).elim
    · exact ⟨fun _ => none, fun p u e => (nomatch e), fun p n ps e => (nomatch e), .inr hS⟩
  have r : RpA K cm F0 [.ref a] [.scr ns] := .cons (.scr h2) .nil
  refine ⟨rfl, F0, vals [.scr ns], _, _, env, sts_vals h0 h1 r, e, ?_⟩
  intro F' H' v O' R _ _ ow _
  cases ow with
  | fd rr => cases rr with
    | val rr =>
      cases rr
      exact q _
theorem walk {l : PySem.W.OpenLaw} {n k : Nat} {q : Program} {loose : List Str} {XP : (Str → Option Value) → Heap → Prop} {YP : World → Heap → Prop} {d : DefRec} {K : Params → PySem.W.Frag} {x : Str} (hn : l.most = some n) (hn2 : n ≤ sizeLine) (hdf : d.params.defaults = []) (hr : Room k callerA)
    (hY : ∀ (w : World) (h : Heap), YP w h → (K w.params).In h)
    (F : ∀ (w : World) (mg : Str → Option Value) (fa : Addr) (h : Heap), (K w.params).In h → h.Ns mainGlobals mg → mg d.name = some (.ref fa) →
      ∃ fd : FuncData, (∀ (s : Shared) (u : Value), BindsTo s fd ⟨[u], []⟩ [(x, u)]) ∧ ∀ base : Heap, (K w.params).In base → base.Ns mainGlobals mg → FnOk l.prog w (K w.params) mg base CX0 k fa fd [x] (spLaw n (K w.params))) :
    PySem.W.WalkO q loose XP YP l.row.toRowW d [] (fun f vs => PySem.call f vs) :=
  L2.walk_of (n := n) (k := k) (x := x) (CX := fun _ => CX0) (sp := fun w => spLaw n (K w.params)) hn hn2 hdf hr hY F (fun _ _ a ns hl _ hS => ⟨a, ns, rfl, hS, hl, fun _ => rfl⟩) fun _ _ _ _ _ z => z
theorem kit_t {K : PySem.W.Frag} {C : Addr} {T : String} {b : Bool} (s : PySem.W.subIn K (.ref C) (.type T) = some b) (m : PySem.W.kitMeta T = true := by decide +kernel) : PySem.W.kitOne K (.ref C) (.type T) = some b := by
  unfold PySem.W.kitOne PySem.W.kitCls
  rw [if_neg (by simp)]
  dsimp only
  rw [if_pos m]; exact s
theorem kit_r {K : PySem.W.Frag} {C : Addr} {t : Value} {b : Bool} (i : PySem.W.isClsIn K C = true) (m : PySem.W.typeIn K (.ref C) = some (.type "type")) (s : PySem.W.subIn K t (.ref C) = some b) (n : t ≠ .ref C) : PySem.W.kitOne K t (.ref C) = some b := by
  unfold PySem.W.kitOne PySem.W.kitCls
  rw [if_neg (by simpa using n)]
  dsimp only
  rw [if_pos (by rw [show (PySem.W.clsIn K C).isSome = true from i, m]; rfl)]; exact s
theorem kit_s {K : PySem.W.Frag} {C : Addr} : PySem.W.kitOne K (.ref C) (.ref C) = some true := by
  unfold PySem.W.kitOne
  rw [if_pos (by simp)]
end DL

/-! The data layer: dicts, keys ints, texts or tuples of these. -/
namespace DL
open PySem PySem.Spec PyProof.Rows L2

theorem hu_1 {u c : Nat} (h : u + 64 < c) : u + 1 < c := by omega
/-! ### keys -/
def toK : D → Option L2.Key
  | .int i => some (.inl i)
  | .str x => some (.inr x)
  | _ => none
def toKs : List D → Option (List L2.Key)
  | [] => some []
  | d :: ds => (toK d).bind fun k => (toKs ds).map (k :: ·)
def toTK (d : D) : Option (List L2.Key) := match d with
  | .tup ds => toKs ds
  | _ => none
section
variable {K : PySem.W.Frag} {cm : Cm} {F H : Hp}
theorem Rp.toK {v : V} {d : D} {k : L2.Key} (r : Rp K cm F v d) (e : toK d = some k) : v = kV k := by
  cases r <;> cases e <;> rfl
theorem RpA.toKs : ∀ {vs : List V} {ds : List D} {ks : List L2.Key}, RpA K cm F vs ds → toKs ds = some ks → vs = ks.map kV
  | _, _, _, .nil, e => by unfold DL.toKs at e; cases e; rfl
  | _, _, ks, .cons h r, e => by
    unfold DL.toKs at e
    obtain ⟨k, e1, e⟩ := bind_some e
    obtain ⟨q, e2, rfl⟩ := map_some e
    rw [List.map_cons, h.toK e1, RpA.toKs r e2]
theorem Rp.toTK {v : V} {d : D} {k : List L2.Key} (r : Rp K cm F v d) (e : toTK d = some k) : ∃ b, v = .ref b ∧ F b = some (.tup (k.map kV)) := by
  cases r <;> try (cases e; done)
  rename_i h ra
  have := ra.toKs e
  subst this
  exact ⟨_, rfl, h⟩
end
/-! ### what a dict holds -/
section
variable {κ : Type} [DecidableEq κ]
def dget (ks : List (κ × D)) (k : κ) : Option D := (ks.find? fun kv => decide (kv.1 = k)).map (·.2)
def dput (ks : List (κ × D)) (k : κ) (d : D) : List (κ × D) := if (ks.any fun kv => decide (kv.1 = k)) = true then ks.map (fun kv => if kv.1 = k then (kv.1, d) else kv) else ks ++ [(k, d)]
variable {K : PySem.W.Frag} {cm : Cm} {F H : Hp}
theorem dget_rel (k : κ) : ∀ {kvs : List (κ × V)} {ks : List (κ × D)}, kvs.map (·.1) = ks.map (·.1) → RpA K cm F (kvs.map (·.2)) (ks.map (·.2)) → (valV kvs k).isSome = (dget ks k).isSome ∧ ∀ d, dget ks k = some d → ∃ v, valV kvs k = some v ∧ Rp K cm F v d
  | [], [], _, _ => ⟨rfl, fun d e => by cases e⟩
  | [], _ :: _, h, _ => by cases h
  | _ :: _, [], h, _ => by cases h
  | (a, v) :: kvs, (b, d) :: ks, h, r => by
    rw [List.map_cons, List.map_cons] at h
    obtain ⟨h1, h2⟩ := List.cons.inj h
    have h1 : a = b := h1
    subst h1
    rw [List.map_cons, List.map_cons] at r
    cases r with
    | cons r0 r =>
      obtain ⟨i1, i2⟩ := dget_rel k h2 r
      by_cases q : a = k
      · rw [valV_pos (p := (a, v)) q]
        have e : dget ((a, d) :: ks) k = some d := by simp [dget, List.find?_cons, q]
        rw [e]
        exact ⟨rfl, fun d' e' => by cases e'; exact ⟨v, rfl, r0⟩⟩
      · rw [valV_neg (p := (a, v)) q]
        have e : dget ((a, d) :: ks) k = dget ks k := by simp [dget, List.find?_cons, q]
        rw [e]
        exact ⟨i1, i2⟩
theorem dput_rel (k : κ) {kvs : List (κ × V)} {ks : List (κ × D)} {v : V} {d : D} (h : kvs.map (·.1) = ks.map (·.1)) (r : RpA K cm F (kvs.map (·.2)) (ks.map (·.2))) (rv : Rp K cm F v d) :
    (putK kvs k v).map (·.1) = (dput ks k d).map (·.1) ∧ RpA K cm F ((putK kvs k v).map (·.2)) ((dput ks k d).map (·.2)) := by
  have ha : (kvs.any fun kv => decide (kv.1 = k)) = (ks.any fun kv => decide (kv.1 = k)) := by
    have e1 : (kvs.any fun kv => decide (kv.1 = k)) = (kvs.map (·.1)).any fun a => decide (a = k) := by rw [List.any_map]; rfl
    have e2 : (ks.any fun kv => decide (kv.1 = k)) = (ks.map (·.1)).any fun a => decide (a = k) := by rw [List.any_map]; rfl
    rw [e1, e2, h]
  unfold putK dput
  rw [ha]
  by_cases c : (ks.any fun kv => decide (kv.1 = k)) = true
  · rw [if_pos c, if_pos c]
    clear ha c
    induction kvs generalizing ks with
    | nil => cases ks with
      | nil => exact ⟨rfl, .nil⟩
      | cons => cases h
    | cons p kvs ih => cases ks with
      | nil => cases h
      | cons q ks =>
        rw [List.map_cons, List.map_cons] at h r
        obtain ⟨h1, h2⟩ := List.cons.inj h
        cases r with
        | cons r0 r =>
          obtain ⟨i1, i2⟩ := ih h2 r
          rw [List.map_cons, List.map_cons, List.map_cons, List.map_cons, List.map_cons, List.map_cons]
          by_cases c : p.1 = k
          · have c2 : q.1 = k := h1 ▸ c
            rw [if_pos c, if_pos c2]
            exact ⟨by rw [i1, h1], .cons rv i2⟩
          · have c2 : ¬ q.1 = k := fun e => c (h1.trans e)
            rw [if_neg c, if_neg c2]
            exact ⟨by rw [i1, h1], .cons r0 i2⟩
  · rw [if_neg c, if_neg c, List.map_append, List.map_append, List.map_append, List.map_append, h]
    exact ⟨rfl, r.app (.cons rv .nil)⟩
end
def dgetF (x : Fd) (k : D) : Option (Option D) := match x with
  | .dik ks => (toK k).map fun q => dget ks q
  | .val (.dik ks) => (toK k).map fun q => dget ks q
  | .dit ks => (toTK k).map fun q => dget ks q
  | .val (.dit ks) => (toTK k).map fun q => dget ks q
  | .val (.lik ks) => (toK k).map fun q => dget ks q
  | .val (.lit ks) => (toTK k).map fun q => dget ks q
  | _ => none
section
variable {K : PySem.W.Frag} {cm : Cm} {F H : Hp}
theorem dget_at {v w : V} {x : Fd} {S : Rg} {k : D} {r : Option D} (ow : OwF K cm F H v x S) (fh : SmH F H) (rk : Rp K cm F w k) (e : dgetF x k = some r) :
    ∃ a o, v = .ref a ∧ DGet H a w o ∧ o.isSome = r.isSome ∧ ∀ d, r = some d → ∃ u, o = some u ∧ Rp K cm F u d := by
  cases ow with
  | val rr =>
    cases rr <;> try (cases e; done)
    · rename_i h1 h2 h3
      obtain ⟨q, e1, rfl⟩ := map_some (show (toK k).map _ = some r from e)
      obtain ⟨i1, i2⟩ := dget_rel q h2 h3
      have := rk.toK e1
      subst this
      exact ⟨_, _, rfl, .k (fh.at h1), i1, i2⟩
    · rename_i h1 h2 h3
      obtain ⟨q, e1, rfl⟩ := map_some (show (toTK k).map _ = some r from e)
      obtain ⟨i1, i2⟩ := dget_rel q h2 h3
      obtain ⟨b, rfl, hb⟩ := rk.toTK e1
      exact ⟨_, _, rfl, .t (fh.at h1) (fh.at hb), i1, i2⟩
    · rename_i h1 h2 h3
      obtain ⟨q, e1, rfl⟩ := map_some (show (toK k).map _ = some r from e)
      obtain ⟨i1, i2⟩ := dget_rel q h2 h3
      have := rk.toK e1
      subst this
      exact ⟨_, _, rfl, .inl ⟨_, _, (.inr ⟨_, fh.at h1⟩), rfl, rfl⟩, i1, i2⟩
    · rename_i h1 h2 h3
      obtain ⟨q, e1, rfl⟩ := map_some (show (toTK k).map _ = some r from e)
      obtain ⟨i1, i2⟩ := dget_rel q h2 h3
      obtain ⟨b, rfl, hb⟩ := rk.toTK e1
      exact ⟨_, _, rfl, .inr ⟨_, _, _, (.inr ⟨_, fh.at h1⟩), rfl, fh.at hb, rfl⟩, i1, i2⟩
  | lst => cases e
  | dik h1 h2 h3 z =>
    obtain ⟨q, e1, rfl⟩ := map_some (show (toK k).map _ = some r from e)
    obtain ⟨i1, i2⟩ := dget_rel q h2 h3
    have := rk.toK e1
    subst this
    exact ⟨_, _, rfl, .k h1, i1, i2⟩
  | dit h1 h2 h3 z =>
    obtain ⟨q, e1, rfl⟩ := map_some (show (toTK k).map _ = some r from e)
    obtain ⟨i1, i2⟩ := dget_rel q h2 h3
    obtain ⟨b, rfl, hb⟩ := rk.toTK e1
    exact ⟨_, _, rfl, .t h1 (fh.at hb), i1, i2⟩
end
section
variable {X : Cx} {cm : Cm} {B : List Nat} {e a b c : Expr} {es : List Expr} {te ta tb tc : TE} {pos : Pos} {f g fa fb fc : P D} {fx : P Fd}
def pdg (fx : P Fd) (fb : P D) : P D := fun env => (fx env).bind fun x => (fb env).bind fun k => (dgetF x k).join
theorem join2_some {α : Type} {o : Option (Option α)} {a : α} (h : o.join = some a) : o = some (some a) := by
  cases o with
  | none => cases h
  | some x => exact congrArg some h
def pdi (neg : Bool) (fx : P Fd) (fb : P D) : P D := fun env => (fb env).bind fun k => (fx env).bind fun x => (dgetF x k).map fun r => .bl (if neg = true then !r.isSome else r.isSome)
/-- the key reckoned with effects -/
def mdi (neg : Bool) (fx : P Fd) (fb : M D) : M D := mb fb fun k => pu fun env => (fx env).bind fun x => (dgetF x k).map fun r => .bl (if neg = true then !r.isSome else r.isSome)
def mdg (i : Nat) (fb : M D) : M D := fun env => ((env[i]?).join).bind fun _ => mb fb (fun k => pu fun env => (px i env).bind fun x => (dgetF x k).join) env
/-! ### new dicts -/
theorem Ko.freshO {K : PySem.W.Frag} {F H : Hp} {σ : L2.St} {O : Nat → Rg} {env : Env} {Q : VK} {u : HO} {x : Fd} (k : Ko K cm F H σ O env (.fd x) Q) (s : Sts K cm F H σ env O) {p : Addr} (h : H p = none) (r : ∀ S : Rg, S p → OwF K cm F (upd H p u) (.ref p) x S) (hn : NT u := by first | exact nt_l | exact nt_k | exact nt_t | exact nt_i) : Q (.ref p) (upd H p u) := by
  obtain ⟨s1, g1, n1, n2⟩ := s.fresh (o := u) h
  refine k _ _ _ O (fun q => q = p) g1 s1 (.fd (r _ rfl)) fun q e => ?_
  subst e
  exact ⟨n1, ⟨⟨_, hn⟩, upd_same⟩, n2⟩
theorem do_dnT : DO X cm (.Dict [] [] pos) tDNewT (mr (.fd (.dit []))) := ⟨pe_dnewT, fun F H σ env O d env' Q s e k => by
  cases e
  exact fun p hp => k.freshO s hp fun S hS => .dit upd_same rfl .nil hS⟩
/-! ### d[k] = v -/
def dputO (j : Nat) (k d : D) (env : Env) : Option Env := match env[j]? with
  | some (some (.fd (.dik ks))) => (toK k).bind fun q => if ks.length < 16777216 then some (env.set j (some (.fd (.dik (dput ks q d))))) else none
  | some (some (.fd (.dit ks))) => (toTK k).bind fun q => if ks.length < 16777216 then some (env.set j (some (.fd (.dit (dput ks q d))))) else none
  | _ => none
def gdp (j : Nat) (fk fv : M D) : G := fun env => (fv env).bind fun q => ((q.2[j]?).join).bind fun _ => (fk q.2).bind fun r => (dputO j r.1 q.1 r.2).map fun e => (.nx, e)
theorem dputO_at {K : PySem.W.Frag} {F H : Hp} {σ : L2.St} {env env' : Env} {O : Nat → Rg} {j : Nat} {k d : D} {u w v : V} (s : Sts K cm F H σ env O) (ev : σ[j]? = some (some u)) (rk : Rp K cm F w k) (rv : Rp K cm F v d) (e : dputO j k d env = some env') :
    ∃ a H', u = .ref a ∧ DPut H a w v H' ∧ Sts K cm F H' σ env' O ∧ Go (Un O) F H (Un O) F H' := by
  unfold dputO at e
  split at e
  · rename_i ks q
    obtain ⟨kk, e1, e⟩ := bind_some e
    obtain ⟨hz, e2⟩ := ite_some e
    subst e2
    obtain ⟨u', ev', ow⟩ := s.at_ j _ q
    rw [ev] at ev'; cases ev'
    cases ow with
    | fd ow => cases ow with
      | @dik p kvs _ _ h1 h2 h3 z =>
        have := rk.toK e1
        subst this
        obtain ⟨i1, i2⟩ := dput_rel kk h2 h3 rv
        have hl : kvs.length = ks.length := by have := congrArg List.length h2; rwa [List.length_map, List.length_map] at this
        obtain ⟨s2, g2⟩ := s.write (p := p) (u := .dK (putK kvs kk v)) q ev z (.fd (.dik upd_same i1 i2 z))
        exact ⟨p, _, rfl, .k h1 (szlt (by rw [hl]; exact hz)), s2, g2⟩
  · rename_i ks q
    obtain ⟨kk, e1, e⟩ := bind_some e
    obtain ⟨hz, e2⟩ := ite_some e
    subst e2
    obtain ⟨u', ev', ow⟩ := s.at_ j _ q
    rw [ev] at ev'; cases ev'
    cases ow with
    | fd ow => cases ow with
      | @dit p kvs _ _ h1 h2 h3 z =>
        obtain ⟨b, rfl, hb⟩ := rk.toTK e1
        obtain ⟨i1, i2⟩ := dput_rel kk h2 h3 rv
        have hl : kvs.length = ks.length := by have := congrArg List.length h2; rwa [List.length_map, List.length_map] at this
        obtain ⟨s2, g2⟩ := s.write (p := p) (u := .dT (putK kvs kk v)) q ev z (.fd (.dit upd_same i1 i2 z))
        exact ⟨p, _, rfl, .t h1 (s.fh.at hb) (szlt (by rw [hl]; exact hz)), s2, g2⟩
  · cases e
theorem ds_dput (j : Nat) {x : Str} {px1 p2 : Pos} {fk fv : M D} (hu : X.A.units + 1 < cLine) (hk : DE X cm b tb fk) (hv : DE X cm e te fv) (hN : X.N[j]? = some x := by rfl) (hvis : Vis X.env.scope x := by first | exact Or.inl rfl | exact Or.inr (Or.inl rfl) | exact Or.inr (Or.inr rfl)) (hd : (x == ("__debug__" : Str)) = false := by decide)
    (hcd : (x == ("__classdict__" : Str)) = false := by decide) (hs : swapsWith e (some (.Subscript (.Name x px1) b p2)) pos.line X.env = pure false := by rfl) :
    DS X cm B (.Assign [.Subscript (.Name x px1) b p2] e pos) (sDPut (tVar j) tb te) (gdp j fk fv) := ⟨ps_dput hu (pe_var hN hvis hd hcd) hk.pe hv.pe hs, fun F H σ env O out env' Dn s e k => by
  obtain ⟨⟨d, env1⟩, e1, e⟩ := bind_some e
  obtain ⟨o0, e0, e⟩ := bind_some e
  obtain ⟨⟨kd, env2⟩, e2, e⟩ := bind_some e
  obtain ⟨env3, e3, e4⟩ := map_some e
  cases e4
  dsimp only at e0 e2 e3
  refine hv.sm F H σ env O d env1 _ s e1 fun F1 H1 v O1 g1 s1 rv => ?_
  obtain ⟨u, eu, _⟩ := s1.at_ j o0 (join2_some e0)
  refine ⟨u, eu, hk.sm F1 H1 σ env1 O1 kd env2 _ s1 e2 fun F2 H2 w O2 g2 s2 rk => ?_⟩
  obtain ⟨a, H', rfl, hp, s3, g3⟩ := dputO_at s2 eu rk (rv.mono g2.ff) e3
  exact ⟨a, H', rfl, hp, k F2 H' σ O2 ((g1.trans g2).trans g3) s3 .refl⟩⟩
/-! ### x.f[k] = v, x an own object in a slot -/
theorem OwFs.upd {K : PySem.W.Frag} {F H : Hp} {n : Str} {fs : List (Str × V)} {gs : List (Str × Fd)} {S : Rg} {x : Fd} (h : OwFs K cm F H fs gs S) : gs.lookup n = some x → ∃ v S1, fs.lookup n = some v ∧ OwF K cm F H v x S1 ∧ (∀ p, S1 p → S p) ∧ n ∈ fs.map (·.1) ∧
    ∀ (q : Addr) (u : HO) (y : Fd), S1 q → OwF K cm F (upd H q u) v y S1 → OwFs K cm F (upd H q u) fs (putG n y gs) S := by
  induction h with
  | nil => intro e; cases e
  | @cons m v y fs gs S S1 S2 ow r d a b ih =>
    intro e
    rw [List.lookup_cons] at e
    by_cases q : (n == m) = true
    · rw [q] at e
      cases e
      have hm : m = n := (eq_of_beq q).symm
      subst hm
      refine ⟨v, S1, by rw [List.lookup_cons, q], ow, a, by rw [List.map_cons]; exact List.mem_cons_self, fun q u y hq how => ?_⟩
      unfold putG
      rw [if_pos rfl]
      exact .cons how (r.mono (Same.refl _) (fun p z e hp => by rw [upd_ne (show p ≠ q from fun h => d q hq (h ▸ hp))]; exact e) fun _ z => z) d a b
    · have q : (n == m) = false := by simpa using q
      rw [q] at e
      obtain ⟨w, S', e1, e2, e3, e4, e5⟩ := ih e
      refine ⟨w, S', by rw [List.lookup_cons, q]; exact e1, e2, fun p z => b p (e3 p z), by rw [List.map_cons]; exact List.mem_cons_of_mem _ e4, fun q' u y' hq how => ?_⟩
      unfold putG
      rw [if_neg (fun h => by rw [h] at q; simp at q)]
      exact .cons (ow.mono (Same.refl _) (fun p z e hp => by rw [upd_ne (show p ≠ q' from fun h => d p hp (h ▸ e3 q' hq))]; exact e) fun _ z => z) (e5 q' u y' hq how) d a b
def dputG (n : Str) (k d : D) (gs : List (Str × Fd)) : Option (List (Str × Fd)) := match gs.lookup n with
  | some (.dik ks) => (toK k).bind fun q => if ks.length < 16777216 then some (putG n (.dik (dput ks q d)) gs) else none
  | some (.dit ks) => (toTK k).bind fun q => if ks.length < 16777216 then some (putG n (.dit (dput ks q d)) gs) else none
  | _ => none
def dputF (i : Nat) (n : Str) (k d : D) (env : Env) : Option Env := match env[i]? with
  | some (some (.obj c gs)) => (dputG n k d gs).map fun gs' => env.set i (some (.obj c gs'))
  | _ => none
def gdpF (i : Nat) (n : Str) (fk : P D) (fv : M D) : G := fun env => (fv env).bind fun q => (fk q.2).bind fun r => (dputF i n r q.1 q.2).map fun e => (.nx, e)
/-! ### {k: v}, k a tuple -/
def tDisp1T (tk tv : TE) : TE := fun σ H Q => ∀ p, H p = none → tk σ (upd H p (.dT [])) fun x H1 => tv σ H1 fun y H2 => H2 p = some (.dT []) ∧ ∃ (b : Addr) (ks : List L2.Key), x = .ref b ∧ H2 b = some (.tup (ks.map kV)) ∧ Q (.ref p) (upd H2 p (.dT [(ks, y)]))
end
end DL

/-! The data layer: a dict display with one tuple for a key; bits; lists turned about; recursion. -/
namespace DL
open PySem PySem.Spec PyProof.Rows L2

theorem pe_disp1T {X : Cx} {pos : Pos} {k v : Expr} {tk tv : TE} (hu : X.A.units + 1 < cLine) (hk : PE X k tk) (hv : PE X v tv) : PE X (.Dict [some k] [v] pos) (tDisp1T tk tv) := by
  refine ⟨fun pins s σ H Q I q => ?_⟩
  have hn := I.hok.fresh (Nat.le_refl s.heap.objs.size)
  have I1 := I.laid (a := s.heap.objs.size) (o := .dT []) (h' := s.heap.push { cls := .type "dict", data := .dict #[] }) (t' := s.toks) (fun _ _ q => Heap.get?_push_of_some _ q) (Nat.le_refl _) (dt_empty s.heap I.big)
  have hp : PPs X pos [some k] [v] [(tk, tv)] := pps_cons hk hv pps_nil
  refine wpAny_Dict_any rfl rfl (fun z => nomatch z) (by show 1 ≤ 15; decide) (thn (hp.run pins _ σ _ (fun ps H2 => ∃ x y, ps = [(x, y)] ∧ H2 s.heap.objs.size = some (.dT []) ∧ ∃ (b : Addr) (ks : List L2.Key), x = .ref b ∧ H2 b = some (.tup (ks.map kV)) ∧ Q (.ref s.heap.objs.size) (upd H2 s.heap.objs.size (.dT [(ks, y)]))) I1 ?_) fun ws s2 ⟨ps, H2, I2, rel, x, y, ep, e, b, ks, ex, eb, q2⟩ => ?_)
  · show tk σ _ _
    have q1 := q _ hn
    have conv : (fun (x : V) (H1 : Hp) => tv σ H1 fun y H2 => H2 s.heap.objs.size = some (.dT []) ∧ ∃ (b : Addr) (ks : List L2.Key), x = .ref b ∧ H2 b = some (.tup (ks.map kV)) ∧ Q (.ref s.heap.objs.size) (upd H2 s.heap.objs.size (.dT [(ks, y)]))) =
      (fun (x0 : V) (H1 : Hp) => tv σ H1 fun y0 H2 => ∃ x y, [(x0, y0)] = [(x, y)] ∧ H2 s.heap.objs.size = some (.dT []) ∧ ∃ (b : Addr) (ks : List L2.Key), x = .ref b ∧ H2 b = some (.tup (ks.map kV)) ∧ Q (.ref s.heap.objs.size) (upd H2 s.heap.objs.size (.dT [(ks, y)]))) := by
      funext x0 H1
      congr 1
      funext y0 H2
      refine propext ⟨fun h => ⟨x0, y0, rfl, h⟩, fun ⟨x, y, e, h⟩ => ?_⟩
      cases e; exact h
    rw [conv] at q1
    exact q1
  · subst ep
    cases rel with
    | @cons a w2 as bs h t =>
      cases t
      obtain ⟨w2a, w2b⟩ := w2
      obtain ⟨r1, r2⟩ := h
      subst ex
      cases (show w2a = Value.ref b from r1)
      obtain ⟨z, hd, xs, rel, dd⟩ := dt_of I2.hok e
      cases rel
      refine wpAny_storeAllH (knd := tupleKind (mixKind X.prog X.w)) (show X.A.units < cLine by omega) [(Value.ref b, w2b)] [(ks, b, w2b)] [] s2 _ ⟨rfl, rfl, key_of I2.hok eb, trivial⟩ dd (by rw [sizeLine_eq]; show 0 + 1 ≤ 16777216; decide) fun h' tk' dd' hs => ?_
      obtain ⟨qq, es, ep, hq, h2, h3, h4, _, h5⟩ := dd'
      have hT : ObjOk X.prog X.w (upd H2 s.heap.objs.size (.dT [(ks, y)])) h' s.heap.objs.size (.dT [(ks, y)]) :=
        ⟨by rw [sizeLine_eq]; show 1 ≤ 16777216; decide, hd, _, Paired.cons ⟨rfl, by rw [upd_ne (ne_of eb e (fun z => nomatch z))]; exact eb, r2⟩ .nil, qq, es, ep, hq, h2, h3, h4, h5⟩
      exact ⟨.ref s.heap.objs.size, _, d_write I2 (by rw [e]; exact True.intro) hs ⟨qq, hq⟩ hT, rfl, q2⟩
section
variable {X : Cx} {cm : Cm} {B : List Nat} {e a b c : Expr} {es : List Expr} {te ta tb tc : TE} {pos apos : Pos} {f g fa fb fc : P D} {fx : P Fd}
def mdd (fk fv : M D) : M Od := mb fk fun k => mb fv fun v => mo ((toTK k).map fun q => .fd (.dit [(q, v)]))
theorem do_d1T {fk fv : M D} (hu : X.A.units + 1 < cLine) (hk : DE X cm a ta fk) (hv : DE X cm b tb fv) : DO X cm (.Dict [some a] [b] pos) (tDisp1T ta tb) (mdd fk fv) := ⟨pe_disp1T hu hk.pe hv.pe, fun F H σ env O o env' Q s e k => by
  obtain ⟨kd, env1, e1, e⟩ := mb_some e
  obtain ⟨vd, env2, e2, e⟩ := mb_some e
  obtain ⟨e3, e4⟩ := mo_some e
  dsimp only at e3 e4
  cases e4
  obtain ⟨q, e5, rfl⟩ := map_some e3
  intro p hp
  obtain ⟨sf, gf, f1, f2⟩ := s.fresh (o := .dT []) hp
  have ap : Apart F (upd H p (.dT [])) O p (.dT []) := ⟨upd_same, f1, f2, nt_t⟩
  refine hk.sm F (upd H p (.dT [])) σ env O kd env1 _ sf e1 fun F1 H1 v O1 g1 s1 rk => ?_
  have ap1 := ap.go g1
  refine hv.sm F1 H1 σ env1 O1 vd _ _ s1 e2 fun F2 H2 w O2 g2 s2 rv => ?_
  have ap2 := ap1.go g2
  obtain ⟨bb, rfl, hb⟩ := (rk.mono g2.ff).toTK e5
  refine ⟨ap2.h, bb, q, rfl, s2.fh.at hb, ?_⟩
  obtain ⟨s3, g3, ap3⟩ := ap2.put (w := .dT [(q, w)]) s2
  refine k F2 _ (.ref p) O2 (fun x => x = p) (gf.trans (((g1.trans g2).lift fun x => x = p).trans g3)) s3 (.fd (.dit ap3.h rfl (.cons rv .nil) rfl)) fun x hx => ?_
  subst hx
  exact ⟨ap3.f, ⟨⟨_, ap3.n⟩, ap3.h⟩, ap3.o⟩⟩
/-! x.bit_length() -/
def bitsD : D → Option D
  | .int i => some (.int (Builtin.Int.intBits i : Nat))
  | _ => none
/-! xs[::-1] -/
def revL : D → Option Od
  | .lst xs => some (.fd (.lst xs.reverse))
  | _ => none
def mrev (fa : M D) : M Od := mb fa fun x => mo (revL x)
end
/-! ### a def that calls itself -/
end DL
namespace DL
open PySem PySem.Spec PyProof.Rows L2
/-! ### len(set(xs)), xs a list of ints -/
def metI (ns : List Int) : List Int := PyProof.Rows.firstMet (fun i => ns.getD i 0) ns.length
def lenSetD : D → Option D
  | .lst ds => (toInts ds).bind fun ns => if ns.length ≤ 4000 then some (.int ((metI ns).length : Nat)) else none
  | _ => none
section
variable {X : Cx} {cm : Cm} {a : Expr} {ta : TE} {pos : Pos}
end
end DL

/-! The data layer: isinstance with two built-in classes; a = b = e. -/
namespace DL
open PySem PySem.Spec PyProof.Rows L2
def isiB2 (T T2 : String) (tab : Nat → Option Bool) (d : D) : Option D := (isiB T tab d).bind fun x => (isiB T2 tab d).bind fun y => match x, y with
  | .bl b, .bl c => some (.bl (b || c))
  | _, _ => none
section
variable {X : Cx} {cm : Cm} {B : List Nat} {a b c e : Expr} {es : List Expr} {te ta tb tc : TE} {pos tpos : Pos}
def gtg2 (f : M D) (t1 t2 : Tg) : G := fun env => (f env).bind fun q => (t1 q.1 q.2).bind fun e1 => (t2 q.1 e1).map fun e => (.nx, e)
end
end DL
namespace DL
open PySem PySem.Spec PyProof.Rows L2
/-! ### a method of an object that was just made, or that is a value -/
def mmtx (m : Str) (c : Nat) (fo : M Od) (p : Fn) (n : Nat) (fa : M (List D)) : M Od := mb fo fun o => if noM m c o = true then mb fa fun ds => (if ds.length + 1 = n then mo ((p (some o :: vals ds)).map (·.1)) else mo none) else mo none
section
variable {K : PySem.W.Frag} {cm : Cm} {F H F1 H1 : Hp} {σ : L2.St} {env : Env} {O O1 : Nat → Rg} {R : Rg} {v0 : V} {o0 o1 : Od} {Q : VK}
theorem New.go (n : New F H O R) (g : Go (Un O) F H (Un O1) F1 H1) : New F1 H1 O1 R := fun p hp => by
  obtain ⟨a, ⟨u, b⟩, c⟩ := n p hp
  refine ⟨?_, ⟨u, g.hh p u b a c⟩, fun z => ?_⟩
  · cases q : F1 p with
    | none => rfl
    | some w =>
      rcases g.fr p (by rw [q]; exact fun z => nomatch z) with z | z | z | ⟨w, z, nw⟩
      · exact absurd a z
      · rw [b] at z; cases z
      · exact absurd z c
      · rw [b] at z; exact (nw (Option.some.inj z ▸ u.2)).elim
  · rcases g.ss p z with z | z
    · exact c z
    · rw [b] at z; cases z
end
section
variable {X : Cx} {cm : Cm} {o e : Expr} {es : List Expr} {to : TE} {pos apos : Pos} {t : TA} {fo : M Od} {fa : M (List D)} {p : Fn} {n k cl : Nat} {f : Addr} {fd : FuncData} {ps : List Str} {m : Str}
end
end DL

namespace DL
open PySem PySem.Spec PyProof.Rows L2
/-! ### a function that is lent an object that was just made -/
def mclx (fo : M Od) (p : Fn) (n : Nat) (fa : M (List D)) : M Od := mb fo fun o => mb fa fun ds => (if ds.length + 1 = n then mo ((p (some o :: vals ds)).map (·.1)) else mo none)
section
variable {X : Cx} {cm : Cm} {o e : Expr} {es : List Expr} {to : TE} {pos pp : Pos} {t : TA} {fo : M Od} {fa : M (List D)} {p : Fn} {n k : Nat} {f : Addr} {fd : FuncData} {ps : List Str} {x : Str}
end
/-! ### membership in what is a value -/
/-! ### a display of one pair, its key an int or a text -/
section
variable {X : Cx} {cm : Cm} {a b : Expr} {ta tb : TE} {pos : Pos}
def mddk (fk fv : M D) : M Od := mb fk fun k => mb fv fun v => mo ((toK k).map fun q => .fd (.dik [(q, v)]))
end
/-! ### x is True, x is not True, of a bool -/
def isBD (neg : Bool) : D → D → Option D
  | .bl a, .bl b => some (.bl (if neg = true then !(a == b) else a == b))
  | _, _ => none
/-! ### sorted(d) of a dict whose keys are ints -/
/-! ### looking at a list or dict that lives on: its items are read, the thing itself is not laid to rest -/
def thaw : Fd → Option D
  | .val d => some d
  | .lst ds => some (.lst ds)
  | .dik ks => some (.dik ks)
  | _ => none
theorem SmH.put {K : PySem.W.Frag} {cm : Cm} {F H : Hp} {p : Addr} {u : HO} (fh : SmH F H) (mm : MM K cm F H) (h : H p = some u) (hu : NX u) (hd : ∀ kvs, u ≠ .dT kvs) : Same F (upd F p u) ∧ SmH (upd F p u) H ∧ MM K cm (upd F p u) H := by
  have f1 : Same F (upd F p u) := fun a w q => by
    by_cases c : a = p
    · subst c
      by_cases nx : NX w
      · have := (fh a w q).1 nx
        rw [h] at this
        cases this
        exact upd_same
      · obtain ⟨n, ps, rfl⟩ : ∃ n ps, w = tagM n ps := by
          apply Classical.byContradiction
          intro z
          exact nx fun n ps e => z ⟨n, ps, e⟩
        obtain ⟨kvs, z, _⟩ := mm a n ps q
        rw [h] at z
        exact (hd _ (Option.some.inj z)).elim
    · rw [upd_ne c]; exact q
  refine ⟨f1, fun a w q => ?_, mm.ext f1 fun a n ps q => ?_⟩
  · by_cases c : a = p
    · subst c
      rw [upd_same] at q
      cases q; exact ⟨fun _ => h, _, h⟩
    · rw [upd_ne c] at q; exact fh a w q
  · by_cases c : a = p
    · subst c
      rw [upd_same] at q
      exact (hu _ _ (Option.some.inj q)).elim
    · rw [upd_ne c] at q; exact q
theorem OwF.rp {K : PySem.W.Frag} {cm : Cm} {F H : Hp} {v : V} {x : Fd} {S : Rg} {d : D} (h : OwF K cm F H v x S) (fh : SmH F H) (mm : MM K cm F H) (e : thaw x = some d) : ∃ F', Same F F' ∧ SmH F' H ∧ Rp K cm F' v d ∧ MM K cm F' H := by
  cases h with
  | val r => cases e; exact ⟨F, fun _ _ z => z, fh, r, mm⟩
  | @lst p vs ds _ h r z =>
    cases e
    obtain ⟨f1, f2, f3⟩ := fh.put mm h nt_l.2 fun _ z => (nomatch z)
    exact ⟨_, f1, f2, .lst upd_same (r.mono f1), f3⟩
  | @dik p kvs _ _ h n r z =>
    cases e
    obtain ⟨f1, f2, f3⟩ := fh.put mm h nt_k.2 fun _ z => (nomatch z)
    exact ⟨_, f1, f2, .dik upd_same n (r.mono f1), f3⟩
  | dit => cases e
def onlyB : D → Option D
  | .bl b => some (.bl b)
  | _ => none
def pcL (g : D → D → Option D) (fx : P Fd) (fb : P D) : P D := fun env => (fx env).bind fun x => (fb env).bind fun b => (thaw x).bind fun a => (g a b).bind onlyB
def pisL (T : String) (tab : Nat → Option Bool) (fx : P Fd) : P D := fun env => (fx env).bind fun x => (thaw x).bind fun a => isiB T tab a
def mixS (i : Nat) (fb : M D) : M D := fun env => ((env[i]?).join).bind fun _ => mb fb (fun b => pu fun env => (px i env).bind fun x => ixF x b) env
section
variable {X : Cx} {cm : Cm} {a b : Expr} {ta tb : TE} {pos : Pos} {fb : P D} {fx : P Fd}
end
/-! ### sorted(t) of a tuple of ints -/
end DL

/-! The data layer: comprehensions of two fors; a function that looks at a list which lives on. -/
namespace DL
open PySem PySem.Spec PyProof.Rows L2
def lcD2 (vs vs1 : List Nat) (tg : Tg) (ft : M Bool) (f1 : M (List D)) (tg1 : Tg) (ft1 : M Bool) (fe : M D) : List D → List D → Env → Option (List D × Env)
  | [], acc, env => some (acc, env)
  | d :: ds, acc, env => (tg d env).bind fun e1 => (ft e1).bind fun q => if q.1 = true then (f1 q.2).bind fun r => (lcD vs1 tg1 ft1 fe r.1 acc (wipeE r.2 vs1)).bind fun a => lcD2 vs vs1 tg ft f1 tg1 ft1 fe ds a.1 (wipeE a.2 vs) else lcD2 vs vs1 tg ft f1 tg1 ft1 fe ds acc (wipeE q.2 vs)
def mlc2 (n : Nat) (vs vs1 : List Nat) (f : M (List D)) (tg : Tg) (ft : M Bool) (f1 : M (List D)) (tg1 : Tg) (ft1 : M Bool) (fe : M D) : M Od := fun env => (f env).bind fun q => if q.2.length = n then (lcD2 vs vs1 tg ft f1 tg1 ft1 fe q.1 [] (wipeE q.2 vs)).map fun r => (.fd (.lst r.1), restE q.2 vs r.2) else none
section
variable {X : Cx} {cm : Cm} {elt tg iter c tg1 iter1 : Expr} {ifs ifs1 : List Expr} {scope : Scope} {own : List (Str × Nat)} {pos : Pos} {wi wi1 : TI} {g g1 : TG} {tt tt1 : TT} {te : TE} {f f1 : M (List D)} {tgd tgd1 : Tg} {ft ft1 : M Bool} {fe : M D}
end
/-! ### f(x) of what lives on in x: f tells a flag, a number or None -/
def scal : Od → Option D
  | .fd (.val (.bl b)) => some (.bl b)
  | .fd (.val (.int b)) => some (.int b)
  | .fd (.val .non) => some .non
  | _ => none
def mclT (i : Nat) (p : Fn) : M D := fun env => ((env[i]?).join).bind fun o => (p [some (.fd (.val o.frz))]).bind fun r => (scal r.1).map fun d => (d, env)
section
variable {X : Cx} {cm : Cm} {pos pp py : Pos} {p : Fn} {k : Nat} {f : Addr} {fd : FuncData} {ps : List Str} {x y : Str}
end
end DL

/-! set(list of ints), as the set's own reading SetR -/
namespace DL
open PySem PySem.Spec PyProof.Rows L2
section
variable {P : Program} {w : World} {A : Around} {E : Value → Shared → Prop} {s : Shared}
end
end DL

/-! The data layer: sorted(set(e)), e a list or a tuple of ints. -/
namespace DL
open PySem PySem.Spec PyProof.Rows L2
def ssetI1 (ds : List D) : Option Od := (toInts ds).bind fun ns => if ns.length ≤ 4000 ∧ (metI ns).length < 64 then some (.fd (.lst ((isort (metI ns)).map .int))) else none
def ssetI : D → Option Od
  | .lst ds => ssetI1 ds
  | .tup ds => ssetI1 ds
  | _ => none
def mssI (f : M D) : M Od := mb f fun d => mo (ssetI d)
section
variable {X : Cx} {cm : Cm} {a : Expr} {ta : TE} {pos : Pos}
end
end DL

/-! The data layer: a list extended by a tuple. -/
namespace DL
open PySem PySem.Spec PyProof.Rows L2
/-- extend by any tuple -/
theorem ext_tup {l b : Addr} {xs ys : Array Value} {n m : Nat} {dd : Option Addr} {ss : Array (Option Value)} (hl1 : xs.size ≤ sizeLine) (hl2 : xs.size + ys.size ≤ sizeLine) (nl : ¬(!xs.isEmpty && Builtin.List.listTooLong (xs.size + ys.size)) = true) :
    Meets (Builtin.«list.extend» ⟨[.ref l, .ref b], []⟩) (fun _ R s => s.heap.get? l = some { cls := .type "list", data := .seq xs n } ∧
      s.heap.get? b = some { cls := .type "tuple", dict := dd, data := .seq ys m, slots := ss } ∧ R (.ok (.ret Value.none)) { s with heap := s.heap.update l (Obj.mapSeq (· ++ ys)) }) :=
  .of_wp fun prog w A R s h => by
    obtain ⟨hp, g, d, tk, os⟩ := s
    obtain ⟨hl, hb, h⟩ := h
    have q2 := sub_tuple_tuple
    have q3 := sub_list_list
    have q4 := sub_tuple_list
    have q5 := sub_list_tuple
    have hz : (xs ++ ys).size ≤ sizeLine + 1 := by
      rw [Array.size_append]
      omega
    wp_walk using (wpAny_updateSeq hl rfl (hz := hl1) (_hz' := hz)), wpAny_loadPart' hl, wpAny_loadPart' hb
    exact ⟨_, rfl, h⟩
def rExtB (K : PySem.W.Frag) : V → List V → Hp → VK → Prop := fun x vs H Q => ∃ l b xs zs, x = .ref l ∧ vs = [.ref b] ∧ H l = some (.lst xs) ∧ (H b = some (.lst zs) ∨ SqT K H b zs) ∧ xs.length + zs.length ≤ sizeLine ∧ Q .non (upd H l (.lst (xs ++ zs)))
theorem mt_extB {X : Cx} : MtM X "list.extend" (rExtB X.K) := by
  intro pins s σ H x vs v us Q I rx rv h
  obtain ⟨l, b, xs, zs, ex, ev, hH, hB, hz, q⟩ := h
  rcases hB with hB | hB
  · exact mt_extend pins s σ H x vs v us Q I rx rv ⟨l, b, xs, zs, ex, ev, hH, hB, hz, q⟩
  · subst ex
    subst ev
    cases rx
    obtain ⟨u, rfl, ru⟩ := rv.one
    cases ru
    obtain ⟨z, its, n, r, hl, e⟩ := I.lstM hH
    obtain ⟨its2, r2, pt, hz2⟩ := I.tuple hB
    obtain ⟨⟨c2, d2⟩, e2, hc2, n2, hd2⟩ := pt
    dsimp only at hc2 hd2
    subst hc2
    subst hd2
    have hl2 := r2.length
    have hsz : its.toArray.size + its2.toArray.size ≤ sizeLine := by rw [List.size_toArray, List.size_toArray]; omega
    have hlong : ¬ (!its.toArray.isEmpty && Builtin.List.listTooLong (its.toArray.size + its2.toArray.size)) = true := by
      rw [notLongL hsz, Bool.and_false]
      exact Bool.false_ne_true
    refine call_meets F.slot_list_extend ⟨_, e, rfl⟩ F.entry_list_extend (F.args_list_extend_2 _ _)
      (ext_tup (by rw [List.size_toArray]; omega) hsz hlong) ⟨e, e2, ?_⟩
    refine ⟨.non, _, I.lset (its' := its ++ its2) hH e (by simp) (r.append r2) ?_, rfl, q⟩
    rw [List.length_append]
    omega
def extT (ds : List D) : List D → Option (D × List D)
  | [.lst es] => if ds.length + es.length ≤ 16777216 then some (.non, ds ++ es) else none
  | [.tup es] => if ds.length + es.length ≤ 16777216 then some (.non, ds ++ es) else none
  | _ => none
section
variable {X : Cx} {cm : Cm}
theorem sr_extT {K : PySem.W.Frag} : SmM K cm (rExtB K) extT := fun F H p vs ds xs es d ds' Q h ra rx fh e k => by
  unfold extT at e
  split at e
  · obtain ⟨c, e⟩ := ite_some e
    cases e
    obtain ⟨v, rfl, rv⟩ := rx.one
    cases rv with
    | lst h2 r2 => exact ⟨p, _, vs, _, rfl, rfl, h, .inl (fh.at h2), size_le (by rw [ra.len, r2.len]; exact c), k _ _ .non (ra.app r2)⟩
  · obtain ⟨c, e⟩ := ite_some e
    cases e
    obtain ⟨v, rfl, rv⟩ := rx.one
    cases rv with
    | tup h2 r2 => exact ⟨p, _, vs, _, rfl, rfl, h, .inr (.of (fh.at h2)), size_le (by rw [ra.len, r2.len]; exact c), k _ _ .non (ra.app r2)⟩
  · cases e
variable {x : Str} {pn ap cp : Pos} {t : TA} {f : M (List D)} {i : Nat} {e : Expr}
theorem de_extT (ha : DA X cm [e] t f) (hN : X.N[i]? = some x := by rfl) (hv : Vis X.env.scope x := by first | exact Or.inl rfl | exact Or.inr (Or.inl rfl) | exact Or.inr (Or.inr rfl)) (hd : (x == ("__debug__" : Str)) = false := by decide) (hcd : (x == ("__classdict__" : Str)) = false := by decide)
    (hbase : attributeBase (.Name x pn) "extend" X.env (eval (.Name x pn) X.env) = eval (.Name x pn) X.env := by rfl)
    (hfew : ((backTo cp (starEach [e] X.env)).all (fun x => !x.1) && (backToKw cp (keywordEach [] X.env)).all (fun x => x.1.isSome) && decide ([e].length + ([] : List Keyword).length + (if ([] : List Keyword).isEmpty then 0 else 1) < 30)) = true := by rfl)
    (hline : (ap.endLine == cp.line) = true := by rfl) (hs : starEach [e] X.env = (false, eval e X.env) :: starEach [] X.env := by rfl) (hpl : (backTo cp (starEach [] X.env)).any (·.1) = false := by rfl) :
    DE X cm (.Call (.Attribute (.Name x pn) "extend" ap) [e] [] cp) (tBM X.K "list" (rExtB X.K) (tVar i) t) (mme i extT f) :=
  ⟨pe_bm PySem.F.plainAttrs_list PySem.F.slot_list_extend PySem.F.type_list_extend mt_extB (pe_var hN hv hd hcd) ha.pe hbase hfew hline hs hpl, sm_me sr_extT ha.sm⟩
end
end DL

/-! The data layer: len(set(e)) and sorted(e), e a list of tuples of ints. -/
namespace DL
open PySem PySem.Spec PyProof.Rows L2
section
variable {X : Cx} {cm : Cm} {a : Expr} {ta : TE} {pos : Pos}
end
theorem perm_map {α β : Type} [DecidableEq α] {f : α → β} : ∀ {ys : List β} {xs : List α}, ys.Perm (xs.map f) → ∃ zs : List α, zs.Perm xs ∧ ys = zs.map f
  | [], xs, h => ⟨[], by rw [List.map_eq_nil_iff.mp h.symm.eq_nil], rfl⟩
  | y :: ys, xs, h => by
    obtain ⟨x, hx, rfl⟩ := List.mem_map.mp (h.mem_iff.mp List.mem_cons_self)
    have hp := List.perm_cons_erase hx
    obtain ⟨zs, h1, h2⟩ := perm_map (f := f) (ys := ys) (xs := xs.erase x) ((h.trans (hp.map f)).cons_inv)
    exact ⟨x :: zs, (h1.cons x).trans hp.symm, by rw [h2]; rfl⟩
end DL
namespace DL
open PySem PySem.Spec PyProof.Rows L2
/-! len(set(e)), e a list or a tuple of ints -/
section
variable {X : Cx} {cm : Cm} {a : Expr} {ta : TE} {pos : Pos}
end
end DL

/-! The data layer: t[::-1], t a tuple or a list. -/
namespace HT
open PySem PySem.Spec PyProof.Rows
section
variable {prog : Program} {w : World} {A : Around} {E : Value → Shared → Prop} {s : Shared}
end
end HT

namespace DL
open PySem PySem.Spec PyProof.Rows L2
def revA : D → Option Od
  | .lst xs => some (.fd (.lst xs.reverse))
  | .tup xs => some (.fd (.val (.tup xs.reverse)))
  | _ => none
def mrevA (fa : M D) : M Od := mb fa fun x => mo (revA x)
section
variable {X : Cx} {cm : Cm} {a : Expr} {ta : TE} {pos : Pos}
end
end DL

/-! The data layer: a list of lists of one's own: made by a comprehension, rows[i].append(e). -/
namespace DL
open PySem PySem.Spec PyProof.Rows L2
section
variable {K : PySem.W.Frag} {cm : Cm} {F H F1 H1 : Hp} {σ : L2.St} {env : Env} {O O1 : Nat → Rg}
theorem Go.keep {S S1 T : Rg} (g : Go S F H S1 F1 H1) (h : ∀ p, S p → T p) : Go T F H (fun p => T p ∨ S1 p) F1 H1 :=
  ⟨g.ff, fun p u e f n => g.hh p u e f fun z => n (h p z), fun p z => (g.fr p z).imp id (.imp id (.imp (h p) id)), fun p z => z.elim (fun z => .inl z) fun z => (g.ss p z).imp (h p) id, g.al⟩
theorem Apart.ne {D E : Addr} {u w : HO} (a : Apart F H O D u) (h : D ≠ E) : Apart F (upd H E w) O D u := ⟨by rw [upd_ne h]; exact a.h, a.f, a.o, a.n⟩
end
/-- lists that stand apart, in no slot -/
inductive LA (K : PySem.W.Frag) (cm : Cm) (F H : Hp) (O : Nat → Rg) : List Addr → List (List D) → Prop
  | nil : LA K cm F H O [] []
  | cons {q : Addr} {vs : List V} {ds : List D} {ps : List Addr} {xss : List (List D)} : Apart F H O q (.lst vs) → RpA K cm F vs ds → LA K cm F H O ps xss → LA K cm F H O (q :: ps) (ds :: xss)
section
variable {K : PySem.W.Frag} {cm : Cm} {F H F1 H1 : Hp} {σ : L2.St} {env : Env} {O O1 : Nat → Rg} {ps : List Addr} {xss : List (List D)}
theorem LA.go (h : LA K cm F H O ps xss) (g : Go (Un O) F H (Un O1) F1 H1) : LA K cm F1 H1 O1 ps xss := by
  induction h with
  | nil => exact .nil
  | cons a r t ih => exact .cons (a.go g) (r.mono g.ff) ih
theorem LA.put {E : Addr} {w : HO} (h : LA K cm F H O ps xss) (n : E ∉ ps) : LA K cm F (upd H E w) O ps xss := by
  induction h with
  | nil => exact .nil
  | cons a r t ih => exact .cons (a.ne fun e => n (by rw [← e]; exact List.mem_cons_self)) r (ih fun z => n (List.mem_cons_of_mem _ z))
theorem LA.app {q : Addr} {vs : List V} {ds : List D} (h : LA K cm F H O ps xss) (a : Apart F H O q (.lst vs)) (r : RpA K cm F vs ds) : LA K cm F H O (ps ++ [q]) (xss ++ [ds]) := by
  induction h with
  | nil => exact .cons a r .nil
  | cons b s t ih => exact .cons b s ih
theorem LA.len (h : LA K cm F H O ps xss) : ps.length = xss.length := by
  induction h with
  | nil => rfl
  | cons a r t ih => rw [List.length_cons, List.length_cons, ih]
theorem LA.ap (h : LA K cm F H O ps xss) {q : Addr} (hq : q ∈ ps) : ∃ u, Apart F H O q u := by
  induction h with
  | nil => exact absurd hq (by simp)
  | cons a r t ih =>
    rcases List.mem_cons.mp hq with rfl | hq
    · exact ⟨_, a⟩
    · exact ih hq
theorem LLs.la {S : Rg} (h : LLs K cm F H ps xss S) (h1 : ∀ q, S q → F q = none) (h2 : ∀ q, S q → ¬ Un O q) : LA K cm F H O ps xss := by
  induction h with
  | nil => exact .nil
  | cons h r z t ih => exact .cons ⟨h, h1 _ z, h2 _ z, nt_l⟩ r (ih h1 h2)
theorem LA.get (h : LA K cm F H O ps xss) : ∀ {k : Nat} {ds : List D}, xss[k]? = some ds → ∃ q vs, ps[k]? = some q ∧ Apart F H O q (.lst vs) ∧ RpA K cm F vs ds := by
  induction h with
  | nil => intro k ds e; simp at e
  | cons a r t ih =>
    intro k ds e
    cases k with
    | zero => cases e; exact ⟨_, _, rfl, a, r⟩
    | succ k => exact ih e
theorem LA.set {q : Addr} {vs : List V} {ds : List D} (h : LA K cm F H O ps xss) : ∀ {k : Nat}, ps.Nodup → ps[k]? = some q → RpA K cm F vs ds → LA K cm F (upd H q (.lst vs)) O ps (xss.set k ds) := by
  induction h with
  | nil => intro k _ e; simp at e
  | cons a r t ih =>
    intro k hn e rv
    obtain ⟨n1, n2⟩ := List.nodup_cons.mp hn
    cases k with
    | zero =>
      cases e
      exact .cons ⟨upd_same, a.f, a.o, nt_l⟩ rv (t.put n1)
    | succ k =>
      refine .cons (a.ne fun e2 => ?_) r (ih n2 e rv)
      subst e2
      exact n1 (List.mem_of_getElem? (show _ = some _ from e))
end
section
variable {X : Cx} {cm : Cm} {b e : Expr} {tb : TE} {t : TA} {fb : M D} {fa : M (List D)} {i : Nat}
end
end DL

namespace DL
open PySem PySem.Spec PyProof.Rows L2
/-! a comprehension whose items are lists of one's own -/
section
variable {wi : TI} {g : TG} {tt : TT} {te : TE} {f : M (List D)} {tgd : Tg} {ft : M Bool} {fe : M Od} {cm : Cm}
end
section
variable {X : Cx} {cm : Cm} {B : List Nat} {elt tg iter c : Expr} {ifs : List Expr} {scope : Scope} {own : List (Str × Nat)} {pos : Pos} {wi : TI} {g : TG} {tt : TT} {te : TE} {f : M (List D)} {tgd : Tg} {ft : M Bool} {fe : M Od}
end
section
variable {X : Cx} {cm : Cm} {b e : Expr} {tb : TE} {x : Str} {pn ap cp p2 : Pos} {t : TA} {fb : M D} {fa : M (List D)} {i : Nat}
end
end DL

/-! The data layer: t * k, t a tuple that is not empty, k from 1 on. -/
namespace DL
open PySem PySem.Spec PyProof.Rows L2
/-- once: the tuple itself -/
theorem tuple_mul1 (l : Addr) (items : Array Value) (n : Nat) (dd : Option Addr) (sl : Array (Option Value)) (u : Tok) :
    Meets (Builtin.«tuple.__mul__» ⟨[.ref l, .int 1 u], []⟩) (fun _ R s => s.heap.get? l = some { cls := .type "tuple", dict := dd, data := .seq items n, slots := sl } ∧
      R (.ok (.ret (Value.ref l))) s) :=
  .of_wp fun prog w A R s h => by
    obtain ⟨hp, g, d, tk, os⟩ := s
    obtain ⟨hl, h⟩ := h
    have f1 := AutoSeq1.idx_int
    wp_walk using wpAny_loadPart' hl
    exact ⟨_, rfl, h⟩
def rRep1 (K : PySem.W.Frag) : R2 := fun x y H Q => ∃ l xs, x = .ref l ∧ y = .int 1 ∧ SqT K H l xs ∧ Q (.ref l) H
theorem op_rep1 {X : Cx} : OpR X (binaryOp .Mult) (rRep1 X.K) := by
  intro pins s σ H x y v u Q I rx ry h
  obtain ⟨l, xs, rfl, rfl, hT, q⟩ := h
  cases rx
  obtain ⟨t, rfl⟩ := ry
  obtain ⟨its, r, ⟨⟨cls, dd, data, sl⟩, ho, hc, n, hd⟩, hs⟩ := I.tuple hT
  simp only at hc hd
  subst hc hd
  refine wpAny_binaryOp_repeat_ref (T := "tuple") (U := "int") (by decide) ⟨_, ho, rfl⟩ (fun s' => typeIs_int s' 1 t) noFill_tuple_mul F.fills_int_mul F.slot_int_rmul repeat_tuple F.slot_int_index.lookup
    (call_meets F.slot_int_rmul (typeIs_int s 1 t) F.entry_int_rmul (F.args_int_rmul_2 _ _) (int_rmul_tuple 1 t l its.toArray n dd sl)
      ⟨ho, rfl, ⟨_, ho, rfl⟩, call_meets F.slot_tuple_mul ⟨_, ho, rfl⟩ F.entry_tuple_mul (F.args_tuple_mul_2 _ _) (tuple_mul1 l its.toArray n dd sl t) ⟨ho, ?_⟩⟩)
  exact ⟨.ref l, H, I, rfl, q⟩
def mulT : D → D → Option D
  | .tup xs, .int k => if xs ≠ [] ∧ 1 ≤ k ∧ k ≤ 1000 ∧ xs.length ≤ 1000 then some (.tup (List.replicate k.toNat xs).flatten) else none
  | _, _ => none
theorem RpA.rep {K : PySem.W.Frag} {cm : Cm} {F : Hp} {vs : List V} {ds : List D} (r : RpA K cm F vs ds) : ∀ k : Nat, RpA K cm F (List.replicate k vs).flatten (List.replicate k ds).flatten
  | 0 => .nil
  | k + 1 => by
    rw [List.replicate_succ, List.replicate_succ, List.flatten_cons, List.flatten_cons]
    exact r.app (RpA.rep r k)
theorem sr_mulT {K : PySem.W.Frag} {cm : Cm} : SmR2 K cm (fun x y H Q => rRep1 K x y H Q ∨ rRepT K x y H Q) mulT := fun F H σ env O x y a b d Q s ra rb e k => by
  unfold mulT at e
  split at e
  · rename_i xs i
    obtain ⟨⟨c1, c2, c3, c4⟩, e⟩ := ite_some e
    cases e
    cases rb
    cases ra with
    | tup h r =>
      rename_i p vs
      by_cases c : i = 1
      · subst c
        refine .inl ⟨p, vs, rfl, rfl, tupT s.fh h, ?_⟩
        have e1 : (List.replicate (1 : Int).toNat xs).flatten = xs := by simp
        rw [e1] at k
        exact k.here s (.tup h r)
      · refine .inr ⟨p, i, vs, rfl, rfl, tupT s.fh h, fun e => c1 ?_, by omega, c3, by rw [r.len]; exact c4, fun q hq => ?_⟩
        · have := r.len
          rw [e] at this
          exact List.eq_nil_of_length_eq_zero this.symm
        · exact k.alloc s hq fun F' sm e => .tup e ((r.rep i.toNat).mono sm)
  · cases e
section
variable {X : Cx} {cm : Cm} {a b : Expr} {ta tb : TE} {pos : Pos} {fa fb : M D}
theorem de_mulT (ha : DE X cm a ta fa) (hb : DE X cm b tb fb) : DE X cm (.BinOp a .Mult b pos) (tOp (fun x y H Q => rRep1 X.K x y H Q ∨ rRepT X.K x y H Q) ta tb) (m2 mulT fa fb) := de_op (.or op_rep1 op_repT) sr_mulT ha hb
end
end DL
namespace DL
open PySem PySem.Spec PyProof.Rows L2
/-! both sides are looked at only -/
section
variable {X : Cx} {cm : Cm} {a b : Expr} {ta tb : TE} {pos : Pos} {fx fy : P Fd}
end
end DL

/-! The data layer: dict comprehensions with int or text keys. -/
namespace DL
open PySem PySem.Spec PyProof.Rows L2
/-! the data level -/
section
variable {wi : TI} {g : TG} {tt : TT} {tk tv : TE} {f : M (List D)} {tgd : Tg} {ft : M Bool} {fk fv : M D} {cm : Cm}
end
section
variable {X : Cx} {cm : Cm} {kx vx tg iter c : Expr} {ifs : List Expr} {scope : Scope} {own : List (Str × Nat)} {pos : Pos} {wi : TI} {f : M (List D)} {tgd : Tg} {ft : M Bool} {fk fv : M D}
end
end DL

/-! The data layer: dicts compared, emptied, asked with get; a walk over a dict's keys that asks two dicts. -/
namespace DL
open PySem PySem.Spec PyProof.Rows L2
/-! ### == of dicts that hold ints, texts, flags, None -/
section
variable {K : PySem.W.Frag} {cm : Cm} {F H : Hp}
end
/-! ### d.clear(), d a dict of one's own in slot i -/
section
variable {X : Cx} {cm : Cm} {a b : Expr} {ta tb : TE} {pos apos : Pos} {fb : P D} {fx : P Fd}
/-! ### d.get(k) -/
end
/-! ### [x.get(k) == y[k] for k in y] -/
theorem ite_opt {α : Type} {c : Prop} [Decidable c] {o : Option α} {b : α} (h : (if c then o else none) = some b) : c ∧ o = some b := by
  by_cases q : c
  · rw [if_pos q] at h; exact ⟨q, h⟩
  · rw [if_neg q] at h; cases h
section
variable {K : PySem.W.Frag} {cm : Cm} {F H : Hp} {σ : L2.St} {env : Env} {O : Nat → Rg}
theorem px_at {i : Nat} {x : Fd} (s : Sts K cm F H σ env O) (e : px i env = some x) : ∃ v S, σ[i]? = some (some v) ∧ OwF K cm F H v x S := by
  unfold px at e
  split at e
  · rename_i xx q
    cases e
    obtain ⟨v, ev, ow⟩ := s.at_ i _ q
    cases ow with
    | fd ow => exact ⟨v, _, ev, ow⟩
  · cases e
/-- the heap has grown: nothing of one's own has changed -/
theorem Sts.grow {H' : Hp} (s : Sts K cm F H σ env O) (h : Same H H') : Sts K cm F H' σ env O :=
  ⟨s.fh.trans h, s.len, fun i x e => let ⟨v, e1, ow⟩ := s.at_ i x e; ⟨v, e1, ow.mono (Same.refl _) (fun q u e _ => h q u e) fun _ z => z⟩, fun i q z => let ⟨a, u, b⟩ := s.ow i q z; ⟨a, u, h _ _ b⟩, s.dj, s.mm.grow h⟩
end
section
variable {X : Cx} {cm : Cm} {elt iter : Expr} {scope : Scope} {pos tpos : Pos} {K : PySem.W.Frag}
end
section
variable {X : Cx} {cm : Cm} {scope : Scope} {pos p1 p2 p3 p4 p5 p6 p7 p8 p9 : Pos} {x y z : Str}
end
end DL

/-! The data layer: walks over a dict of one's own (keys, items); d.get(k, x); tuples that the heap holds. -/
namespace DL
open PySem PySem.Spec PyProof.Rows L2
section
variable {K : PySem.W.Frag} {cm : Cm} {F H : Hp} {σ : L2.St} {env : Env} {O : Nat → Rg}
/-- a tuple that stands in the heap as a datum -/
theorem Sts.tuple (s : Sts K cm F H σ env O) {q : Addr} {vs : List V} {ds : List D} (h : H q = some (.tup vs)) (r : RpA K cm F vs ds) : ∃ F', Sts K cm F' H σ env O ∧ Go (Un O) F H (Un O) F' H ∧ Rp K cm F' (.ref q) (.tup ds) := by
  cases hq : F q with
  | some u =>
    have e : F q = some (.tup vs) := by
      by_cases nx : NX u
      · have := s.fh.at hq nx
        rw [h] at this
        rw [hq, ← Option.some.inj this]
      · obtain ⟨n, ps, rfl⟩ : ∃ n ps, u = tagM n ps := by
          apply Classical.byContradiction
          intro z
          exact nx fun n ps e => z ⟨n, ps, e⟩
        obtain ⟨kvs, z, _⟩ := s.mm q n ps hq
        rw [h] at z; cases z
    exact ⟨F, s, Go.refl, .tup e r⟩
  | none =>
    have sm : Same F (upd F q (.tup vs)) := same_new hq
    refine ⟨upd F q (.tup vs), ⟨fun p u e => ?_, s.len, fun i o e => ?_, fun i p z => ?_, s.dj, s.mm.ext sm fun p n ps e => ?_⟩, ⟨sm, fun _ _ e _ _ => e, fun p z => ?_, fun p z => .inl z, fun _ z => z⟩, .tup upd_same (r.mono sm)⟩
    · by_cases c : p = q
      · subst c; rw [upd_same] at e; cases e; exact ⟨fun _ => h, _, h⟩
      · rw [upd_ne c] at e; exact s.fh _ _ e
    · obtain ⟨v, e1, ow⟩ := s.at_ i o e
      exact ⟨v, e1, ow.mono sm (fun _ _ e _ => e) fun _ z => z⟩
    · obtain ⟨a, u, b⟩ := s.ow i p z
      refine ⟨?_, u, b⟩
      rw [upd_ne (show p ≠ q from fun c => by subst c; rw [h] at b; exact u.2.1 _ (Option.some.inj b).symm)]
      exact a
    · by_cases c : p = q
      · subst c; rw [upd_same] at e; cases e
      · rw [upd_ne c] at e; exact e
    · by_cases c : p = q
      · subst c; exact .inr (.inr (.inr ⟨_, h, fun n => n.1 _ rfl⟩))
      · rw [upd_ne c] at z; exact .inl z
end
section
variable {K : PySem.W.Frag} {cm : Cm} {F H : Hp} {d : Addr} {od : Obj} {u : HO}
variable {H' : Hp} {σ : L2.St} {env : Env} {O : Nat → Rg}
end
def kD : L2.Key → D
  | .inl i => .int i
  | .inr x => .str x
theorem rp_k {K : PySem.W.Frag} {cm : Cm} {F : Hp} : ∀ k : L2.Key, Rp K cm F (kV k) (kD k)
  | .inl i => .int i
  | .inr x => .str x
theorem rpA_k {K : PySem.W.Frag} {cm : Cm} {F : Hp} : ∀ ks : List L2.Key, RpA K cm F (ks.map kV) (ks.map kD)
  | [] => .nil
  | k :: ks => .cons (rp_k k) (rpA_k ks)
/-! ### for k in d, for k, v in d.items(), d a dict of one's own in slot i -/
def gforK (i : Nat) (tg : Tg) (body : G) : G := fun env => match env[i]? with
  | some (some (.fd (.dit ks))) => forD tg body (ks.map fun q => .tup (q.1.map kD)) (env.set i (some (.fd (.val (.lit ks)))))
  | some (some (.fd (.dik ks))) => forD tg body (ks.map fun q => kD q.1) (env.set i (some (.fd (.val (.lik ks)))))
  | _ => none
section
variable {X : Cx} {cm : Cm} {B : List Nat} {tg : Expr} {pos px : Pos} {x : Str}
/-- slot i is locked -/
theorem Sts.lock {K : PySem.W.Frag} {F H : Hp} {σ : L2.St} {env : Env} {O : Nat → Rg} {i : Nat} {o : Od} {d : Addr} {u : HO} {od : Obj} {x : D} (s : Sts K cm F H σ env O) (q : env[i]? = some (some o)) (ev : σ[i]? = some (some (.ref d))) (z : O i d) (r : Rp K cm (upd F d (.frz od u)) (.ref d) x) :
    ∃ O1, Sts K cm (upd F d (.frz od u)) (upd H d (.frz od u)) σ (env.set i (some (.fd (.val x)))) O1 ∧ Go (Un O) F H (Un O1) (upd F d (.frz od u)) (upd H d (.frz od u)) := by
  have hF := (s.ow i d z).1
  have sm : Same F (upd F d (.frz od u)) := same_new hF
  have hlt : i < env.length := (List.getElem?_eq_some_iff.mp q).1
  refine ⟨fun j p => j ≠ i ∧ O j p, ⟨fun p w e => ?_, by rw [List.length_set]; exact s.len, fun j y e => ?_, fun j p w => ?_, fun j l p a b => s.dj j l p a.2 b.2, (s.mm.upd hF).ext sm fun p n ps e => ?_⟩, ⟨sm, fun p w e f n => ?_, fun p e => ?_, fun p ⟨j, e⟩ => .inl ⟨j, e.2⟩, fun p e => ?_⟩⟩
  · by_cases c : p = d
    · subst c; rw [upd_same] at e ⊢; exact ⟨fun _ => e, _, rfl⟩
    · rw [upd_ne c] at e ⊢; exact s.fh _ _ e
  · by_cases hj : j = i
    · subst hj
      rw [List.getElem?_set_self hlt] at e
      cases e
      exact ⟨_, ev, .fd (.val r)⟩
    · rw [List.getElem?_set_ne (Ne.symm hj)] at e
      obtain ⟨v, e2, ow2⟩ := s.at_ j y e
      refine ⟨v, e2, ow2.mono sm (fun p w e y => ?_) fun p y => ⟨hj, y⟩⟩
      rw [upd_ne (fun c => hj (s.dj j i p y (by rw [c]; exact z)))]; exact e
  · obtain ⟨a, y, b⟩ := s.ow j p w.2
    have ne : p ≠ d := fun c => w.1 (s.dj j i p w.2 (by rw [c]; exact z))
    exact ⟨by rw [upd_ne ne]; exact a, y, by rw [upd_ne ne]; exact b⟩
  · by_cases c : p = d
    · subst c; rw [upd_same] at e; cases e
    · rw [upd_ne c] at e; exact e
  · rw [upd_ne (fun c => n ⟨i, by rw [c]; exact z⟩)]; exact e
  · by_cases c : p = d
    · exact .inr (.inr (.inl ⟨i, by rw [c]; exact z⟩))
    · rw [upd_ne c] at e; exact .inl e
  · by_cases c : p = d
    · subst c; rw [upd_same]; exact fun z => nomatch z
    · rw [upd_ne c]; exact e
def tLockV (t : TE) : TE := fun σ H Q => ∃ d u, H d = some u ∧ Mut (some u) ∧ ∀ od, t σ (upd H d (.frz od u)) Q
theorem pe_lockV {X : Cx} {e : Expr} {t : TE} (h : PE X e t) : PE X e (tLockV t) := ⟨fun pins s σ H Q I ⟨d, u, hd, mu, hw⟩ => by
  obtain ⟨od, I1⟩ := I.lock hd mu
  exact h.run pins s σ _ Q I1 (hw od)⟩
theorem keys_at {K : PySem.W.Frag} {F : Hp} {κ : Type} {kvs : List (κ × V)} {ks : List (κ × D)} (n : kvs.map (·.1) = ks.map (·.1)) (r : RpA K cm F (kvs.map (·.2)) (ks.map (·.2))) : ks.length = kvs.length ∧ ∀ {j : Nat} {k : κ} {v : V}, kvs[j]? = some (k, v) → ∃ d, ks[j]? = some (k, d) ∧ Rp K cm F v d := by
  have hl : kvs.length = ks.length := by have := congrArg List.length n; rwa [List.length_map, List.length_map] at this
  refine ⟨hl.symm, fun {j k v} e => ?_⟩
  obtain ⟨d, e1, e2⟩ := r.get (i := j) (v := v) (by rw [List.getElem?_map, e]; rfl)
  rw [List.getElem?_map] at e1
  obtain ⟨⟨k', d'⟩, e3, rfl⟩ := map_some e1
  have e4 : (kvs.map (·.1))[j]? = (ks.map (·.1))[j]? := by rw [n]
  rw [List.getElem?_map, List.getElem?_map, e, e3] at e4
  cases e4
  exact ⟨_, e3, e2⟩
end
/-! ### d.get(k, x), d in slot i -/
def isDF : Fd → Bool
  | .dik _ => true
  | .dit _ => true
  | .val (.dik _) => true
  | .val (.dit _) => true
  | .val (.lik _) => true
  | .val (.lit _) => true
  | _ => false
theorem isD_F {K : PySem.W.Frag} {cm : Cm} {F H : Hp} {v : V} {x : Fd} {S : Rg} (ow : OwF K cm F H v x S) (fh : SmH F H) (e : isDF x = true) : ∃ a, v = .ref a ∧ IsD H a := by
  cases ow with
  | val rr =>
    cases rr <;> try (cases e; done)
    · exact ⟨_, rfl, .inl ⟨_, .of (fh.at (by assumption))⟩⟩
    · exact ⟨_, rfl, .inr ⟨_, .of (fh.at (by assumption))⟩⟩
    · exact ⟨_, rfl, .inl ⟨_, .inr ⟨_, fh.at (by assumption)⟩⟩⟩
    · exact ⟨_, rfl, .inr ⟨_, .inr ⟨_, fh.at (by assumption)⟩⟩⟩
  | lst => cases e
  | dik h1 h2 h3 z => exact ⟨_, rfl, .inl ⟨_, .of h1⟩⟩
  | dit h1 h2 h3 z => exact ⟨_, rfl, .inr ⟨_, .of h1⟩⟩
def mdg2 (i : Nat) (fb fc : M D) : M D := fun env => (px i env).bind fun x0 => if isDF x0 = true then mb fb (fun k => mb fc fun z => pu fun env => (px i env).bind fun x => (dgetF x k).map fun r => r.getD z) env else none
section
variable {X : Cx} {cm : Cm} {b c : Expr} {tb tc : TE} {pos apos px' : Pos} {x : Str} {fb fc : M D}
theorem de_dget2 (i : Nat) (hu : X.A.units + 1 < cLine) (hi : DE X cm b tb fb) (hx : DE X cm c tc fc) (hN : X.N[i]? = some x := by rfl) (hv : Vis X.env.scope x := by first | exact Or.inl rfl | exact Or.inr (Or.inl rfl) | exact Or.inr (Or.inr rfl)) (hd : (x == ("__debug__" : Str)) = false := by decide) (hcd : (x == ("__classdict__" : Str)) = false := by decide)
    (m : M2 X (.Name x px') "get" apos b c pos := by exact ⟨rfl, rfl, rfl, rfl⟩) : DE X cm (.Call (.Attribute (.Name x px') "get" apos) [b, c] [] pos) (tDGet2 (tVar i) tb tc) (mdg2 i fb fc) := ⟨pe_dget2 hu (pe_var hN hv hd hcd) hi.pe hx.pe m, fun F H σ env O d env' Q s e k => by
  obtain ⟨x0, e0, e⟩ := bind_some e
  obtain ⟨hD, e⟩ := ite_opt e
  obtain ⟨y, env1, e1, e⟩ := mb_some e
  obtain ⟨z, env2, e2, e⟩ := mb_some e
  obtain ⟨d', e3, e9⟩ := map_some e
  cases e9
  obtain ⟨x1, e4, e⟩ := bind_some e3
  obtain ⟨r, e5, rfl⟩ := map_some e
  obtain ⟨v0, S0, ev0, ow0⟩ := px_at s e0
  obtain ⟨a0, rfl, isd⟩ := isD_F ow0 s.fh hD
  refine ⟨_, ev0, a0, rfl, isd, hi.sm F H σ env O y _ _ s e1 fun F1 H1 w O1 g1 s1 rk => hx.sm F1 H1 σ env1 O1 z _ _ s1 e2 fun F2 H2 w2 O2 g2 s2 rz => ?_⟩
  obtain ⟨v1, S1, ev1, ow1⟩ := px_at s2 e4
  rw [ev0] at ev1
  cases ev1
  obtain ⟨q, o, eq, g, i1, i2⟩ := dget_at ow1 s2.fh (rk.mono g2.ff) e5
  cases eq
  refine ⟨o, g, ?_⟩
  cases r with
  | none =>
    cases o with
    | none => exact k _ _ _ _ (g1.trans g2) s2 rz
    | some _ => cases i1
  | some d' =>
    obtain ⟨u, rfl, ru⟩ := i2 d' rfl
    exact k _ _ _ _ (g1.trans g2) s2 ru⟩
end
end DL

/-! The data layer: a list whose last thing is a list of one's own: made, read, changed, its inner list under a name of its own for a while. -/
namespace DL
open PySem PySem.Spec PyProof.Rows L2
/-! ### [a, b, c], c a new list -/
def mplst (fa fb : M D) (fc : M Od) : M Od := mb fa fun a => mb fb fun b => mb fc fun o => match o with
  | .fd (.lst cs) => mr (.pl [a, b] cs)
  | _ => mo none
section
variable {X : Cx} {cm : Cm} {a b c e : Expr} {ta tb tc te : TE} {pos : Pos} {fa fb : M D} {fc : M Od}
theorem do_plst (ha : DE X cm a ta fa) (hb : DE X cm b tb fb) (hc : DO X cm c tc fc) (e1 : starEach [a, b, c] X.env = (false, eval a X.env) :: starEach [b, c] X.env := by rfl) (e2 : starEach [b, c] X.env = (false, eval b X.env) :: starEach [c] X.env := by rfl) (e3 : starEach [c] X.env = (false, eval c X.env) :: starEach [] X.env := by rfl) :
    DO X cm (.List [a, b, c] pos) (tLst (tCons ta (tCons tb (tCons tc tNil)))) (mplst fa fb fc) := ⟨pe_lst (pa_cons ha.pe (pa_cons hb.pe (pa_cons hc.pe pa_nil e3) e2) e1), fun F H σ env O o env' Q s e k => by
  obtain ⟨d1, env1, h1, e⟩ := mb_some e
  obtain ⟨d2, env2, h2, e⟩ := mb_some e
  obtain ⟨o3, env3, h3, e⟩ := mb_some e
  split at e
  · rename_i cs
    cases e
    refine ha.sm F H σ env O d1 _ _ s h1 fun F1 H1 v1 O1 g1 s1 r1 => hb.sm F1 H1 σ env1 O1 d2 _ _ s1 h2 fun F2 H2 v2 O2 g2 s2 r2 => hc.sm F2 H2 σ env2 O2 _ _ _ s2 h3 fun F3 H3 v3 O3 R g3 s3 ow n3 => ?_
    cases ow with
    | fd ow =>
      cases ow with
      | @lst q ws _ _ hq rq zq =>
        refine ⟨by show 3 ≤ sizeLine; decide, fun p hp => ?_⟩
        have ne : q ≠ p := ne_of_none hq hp
        obtain ⟨s4, g4, f4, n4⟩ := s3.fresh (o := .lst [v1, v2, .ref q]) hp
        obtain ⟨fq, ⟨u, hu⟩, nq⟩ := n3 q zq
        have gg : Go (Un O) F H (fun z => (z = p ∨ z = q) ∨ Un O3 z) F3 (upd H3 p (.lst [v1, v2, .ref q])) := by
          have g123 := (g1.trans g2).trans g3
          have h5 : Go (fun z => R z ∨ Un O3 z) F3 H3 (fun z => (z = p ∨ z = q) ∨ Un O3 z) F3 (upd H3 p (.lst [v1, v2, .ref q])) := by
            refine ⟨Same.refl _, fun z w e _ _ => same_new hp z w.1 e, fun z e => .inl e, fun z e => ?_, fun z e => ?_⟩
            · rcases e with (e | e) | e
              · exact .inr (by rw [e]; exact hp)
              · exact .inl (.inl (by rw [e]; exact zq))
              · exact .inl (.inr e)
            · by_cases c : z = p
              · subst c; rw [upd_same]; exact fun z => nomatch z
              · rw [upd_ne c]; exact e
          exact g123.trans h5
        refine k F3 _ (.ref p) O3 (fun z => z = p ∨ z = q) gg s4 (.pl (vs := [v1, v2]) upd_same (.cons ((r1.mono g2.ff).mono g3.ff) (.cons (r2.mono g3.ff) .nil)) (by rw [upd_ne ne]; exact hq) rq (Ne.symm ne) (.inl rfl) (.inr rfl)) fun z e => ?_
        rcases e with rfl | rfl
        · exact ⟨f4, ⟨⟨_, nt_l⟩, upd_same⟩, n4⟩
        · exact ⟨fq, ⟨u, by rw [upd_ne ne]; exact hu⟩, nq⟩
  · cases e⟩
end
/-! ### x[b] of such a list -/
def pixP (i : Nat) (fb : P D) : P D := fun env => match env[i]? with
  | some (some (.pl xs _)) => (fb env).bind fun b => (toI b).bind fun z => if 0 ≤ z ∧ z < xs.length then xs[z.toNat]? else none
  | _ => none
theorem ixN_in {n : Nat} {z : Int} (h0 : 0 ≤ z) (h1 : z < n) : ixN n z = some z.toNat := by
  unfold ixN; rw [if_pos h0, if_pos h1]
section
variable {X : Cx} {cm : Cm} {B : List Nat} {b e : Expr} {tb te : TE} {pos px : Pos} {x : Str} {fb : P D}
theorem dp_ixP (i : Nat) (hb : DP X cm b tb fb) (hN : X.N[i]? = some x := by rfl) (hv : Vis X.env.scope x := by first | exact Or.inl rfl | exact Or.inr (Or.inl rfl) | exact Or.inr (Or.inr rfl)) (hd : (x == ("__debug__" : Str)) = false := by decide) (hcd : (x == ("__classdict__" : Str)) = false := by decide) (hs : PlainIx b := by exact fun _ _ => rfl) :
    DP X cm (.Subscript (.Name x px) b pos) (tOp (rIx X.K) (tVar i) tb) (pixP i fb) := ⟨pe_ix ix_seq (pe_var hN hv hd hcd) hb.pe hs, fun F H σ env O d Q s e k => by
  unfold pixP at e
  split at e
  · rename_i xs cs q
    obtain ⟨bd, e1, e⟩ := bind_some e
    obtain ⟨z, e2, e⟩ := bind_some e
    obtain ⟨⟨h0, h1⟩, e3⟩ := ite_opt e
    obtain ⟨v, ev, ow⟩ := s.at_ i _ q
    cases ow with
    | @pl p qq vs ws _ _ _ hp ra hq rq ne zp zq =>
      obtain ⟨u, hu, ru⟩ := ra.getD e3
      refine ⟨_, ev, hb.sm F H σ env O bd _ s e1 fun w rw' => .inl ⟨p, _, z, u, rfl, rw'.toI e2, .of hp, ?_, k u ru⟩⟩
      have hl := ra.len
      unfold atI
      rw [ixN_in h0 (by rw [List.length_append, hl]; show z < ((xs.length + 1 : Nat) : Int); omega), Option.bind_some, List.getElem?_append_left (by omega)]
      exact hu
  · cases e⟩
/-! ### x[b] = e of such a list -/
def gsiP (i : Nat) (fb : P D) (f : M D) : G := fun env => (f env).bind fun r => match r.2[i]? with
  | some (some (.pl xs cs)) => (fb r.2).bind fun b => (toI b).bind fun z => if 0 ≤ z ∧ z < xs.length then some (.nx, r.2.set i (some (.pl (xs.set z.toNat r.1) cs))) else none
  | _ => none
theorem ds_siP (j : Nat) {p2 : Pos} {f : M D} (h : DE X cm e te f) (hb : DP X cm b tb fb) (hN : X.N[j]? = some x := by rfl) (hv : Vis X.env.scope x := by first | exact Or.inl rfl | exact Or.inr (Or.inl rfl) | exact Or.inr (Or.inr rfl)) (hd : (x == ("__debug__" : Str)) = false := by decide) (hcd : (x == ("__classdict__" : Str)) = false := by decide)
    (ha : ∀ v, assign (.Subscript (.Name x px) b p2) X.env v = (do
      let ov ← holding [v] (eval (.Name x px) X.env)
      let iv ← holding [v, ov] (eval b X.env)
      standAt p2
      holding [v, ov, iv] (setItem ov iv v)
      release [v, ov, iv] []) := by intro _; rfl)
    (hs : swapsWithSole [.Subscript (.Name x px) b p2] e pos.line X.env = pure false := by rfl) (hw : swappedStores [.Subscript (.Name x px) b p2] e X.env = pure none := by rfl) (h1 : (assignEach [.Subscript (.Name x px) b p2] X.env).map (·.2) = [assign (.Subscript (.Name x px) b p2) X.env] := by rfl) :
    DS X cm B (.Assign [.Subscript (.Name x px) b p2] e pos) (tAsg te (gSub (tVar j) tb rSetL)) (gsiP j fb f) := ⟨ps_asg h.pe (pg_sub (pe_var hN hv hd hcd) hb.pe set_list ha) hs hw h1, fun F H σ env O out env' Dn s e k => by
  obtain ⟨⟨d, env1⟩, e1, e⟩ := bind_some e
  dsimp only at e
  split at e
  · rename_i xs cs q
    obtain ⟨bd, e3, e⟩ := bind_some e
    obtain ⟨z, e4, e⟩ := bind_some e
    obtain ⟨⟨h0, h1⟩, e6⟩ := ite_some e
    cases e6
    refine h.sm F H σ env O d _ _ s e1 fun F1 H1 v O1 g1 s1 r => ?_
    obtain ⟨w0, ev, ow⟩ := s1.at_ j _ q
    cases ow with
    | @pl p qq vs ws _ _ _ hp ra hq rq ne zp zq =>
      have hl := ra.len
      refine ⟨_, ev, hb.sm F1 H1 σ _ O1 bd _ s1 e3 fun w rw' => ?_⟩
      have hset : (vs ++ [V.ref qq]).set z.toNat v = vs.set z.toNat v ++ [V.ref qq] := List.set_append_left _ _ (by omega)
      obtain ⟨s2, g2⟩ := s1.write (u := .lst (vs.set z.toNat v ++ [V.ref qq])) q ev zp (.pl upd_same (ra.set r z.toNat) (by rw [upd_ne (Ne.symm ne)]; exact hq) rq ne zp zq)
      refine ⟨p, _, z, z.toNat, rfl, rw'.toI e4, hp, ixN_in h0 (by rw [List.length_append, hl]; show z < ((xs.length + 1 : Nat) : Int); omega), ?_⟩
      rw [hset]
      exact k F1 _ σ O1 (g1.trans g2) s2 .refl
  · cases e⟩
end
/-! ### y = x[k]; if t: body that returns; rest: the inner list under the name y -/
def rejoin (i j : Nat) (xs : List D) (env : Env) : Option Env := match env[j]? with
  | some (some (.fd (.lst cs))) => some ((env.set j none).set i (some (.pl xs cs)))
  | _ => none
def galR (i j : Nat) (xs : List D) (r : Out × Env) : Option (Out × Env) := match r.1 with
  | .rt (.fd (.val d)) => (rejoin i j xs r.2).map fun e => (.rt (.fd (.val d)), e)
  | _ => none
def gal (i j k : Nat) (fc : M Bool) (gb h : G) : G := fun env => match env[i]? with
  | some (some (.pl xs cs)) => if k = xs.length ∧ i ≠ j ∧ j < env.length then (fc ((env.set i none).set j (some (.fd (.lst cs))))).bind fun q =>
      if q.1 = true then (gb q.2).bind (galR i j xs) else (rejoin i j xs q.2).bind h
    else none
  | _ => none
section
variable {K : PySem.W.Frag} {cm : Cm} {F H F2 H2 : Hp} {σ σ2 : L2.St} {env env2 : Env} {O O2 : Nat → Rg}
theorem Sts.splitP (s : Sts K cm F H σ env O) {i j : Nat} {p q : Addr} {ws : List V} {xs cs : List D} (e : env[i]? = some (some (.pl xs cs))) (hij : i ≠ j) (hj : j < env.length) (hq : H q = some (.lst ws)) (rq : RpA K cm F ws cs) (ne : p ≠ q) (zp : O i p) (zq : O i q) :
    ∃ O1, Sts K cm F H (σ.set j (some (.ref q))) ((env.set i none).set j (some (.fd (.lst cs)))) O1 ∧ (∀ z, Un O1 z → Un O z) ∧ ¬ Un O1 p := by
  refine ⟨fun l z => (l = j ∧ z = q) ∨ (l ≠ i ∧ l ≠ j ∧ O l z), ⟨s.fh, by rw [List.length_set, List.length_set, List.length_set]; exact s.len, fun l o h => ?_, fun l z h => ?_, fun l m z a b => ?_, s.mm⟩, fun z ⟨l, h⟩ => ?_, fun ⟨l, h⟩ => ?_⟩
  · by_cases c : l = j
    · subst c
      rw [List.getElem?_set_self (by rw [List.length_set]; exact hj)] at h
      cases h
      exact ⟨.ref q, by rw [List.getElem?_set_self (by rw [s.len]; exact hj)], .fd (.lst hq rq (.inl ⟨rfl, rfl⟩))⟩
    · rw [List.getElem?_set_ne (Ne.symm c)] at h
      by_cases c2 : l = i
      · subst c2
        rw [List.getElem?_set_self (List.getElem?_eq_some_iff.mp e).1] at h
        cases h
      · rw [List.getElem?_set_ne (Ne.symm c2)] at h
        obtain ⟨v, ev, ow⟩ := s.at_ l o h
        exact ⟨v, by rw [List.getElem?_set_ne (Ne.symm c)]; exact ev, ow.mono (Same.refl _) (fun _ _ q _ => q) fun z w => .inr ⟨c2, c, w⟩⟩
  · rcases h with ⟨_, rfl⟩ | ⟨_, _, h⟩
    · exact s.ow i _ zq
    · exact s.ow l z h
  · rcases a with ⟨a1, a2⟩ | ⟨a1, a2, a3⟩ <;> rcases b with ⟨b1, b2⟩ | ⟨b1, b2, b3⟩
    · rw [a1, b1]
    · exact absurd (s.dj m i z b3 (by rw [a2]; exact zq)) b1
    · exact absurd (s.dj l i z a3 (by rw [b2]; exact zq)) a1
    · exact s.dj l m z a3 b3
  · rcases h with ⟨_, rfl⟩ | ⟨_, _, h⟩
    · exact ⟨i, zq⟩
    · exact ⟨l, h⟩
  · rcases h with ⟨_, h⟩ | ⟨h1, _, h⟩
    · exact ne h
    · exact h1 (s.dj l i p h zp)
theorem Sts.rejoin (s2 : Sts K cm F2 H2 σ2 env2 O2) {i j : Nat} {p q : Addr} {vs : List V} {xs cs : List D} (ej : env2[j]? = some (some (.fd (.lst cs)))) (si : σ2[i]? = some (some (.ref p))) (sj : σ2[j]? = some (some (.ref q))) (hij : i ≠ j) (hi : i < env2.length)
    (ap : Apart F2 H2 O2 p (.lst (vs ++ [.ref q]))) (ra : RpA K cm F2 vs xs) :
    ∃ O3, Sts K cm F2 H2 σ2 ((env2.set j none).set i (some (.pl xs cs))) O3 ∧ ∀ z, Un O3 z → z = p ∨ Un O2 z := by
  obtain ⟨v, ev, ow⟩ := s2.at_ j _ ej
  rw [sj] at ev
  cases ev
  cases ow with
  | fd ow =>
    cases ow with
    | @lst _ ws _ _ hq rq zq =>
      have ne : p ≠ q := fun c => ap.o ⟨j, by rw [c]; exact zq⟩
      have hj := (List.getElem?_eq_some_iff.mp ej).1
      refine ⟨fun l z => (l = i ∧ (z = p ∨ z = q)) ∨ (l ≠ i ∧ l ≠ j ∧ O2 l z), ⟨s2.fh, by rw [List.length_set, List.length_set]; exact s2.len, fun l o h => ?_, fun l z h => ?_, fun l m z a b => ?_, s2.mm⟩, fun z ⟨l, h⟩ => ?_⟩
      · by_cases c : l = i
        · subst c
          rw [List.getElem?_set_self (by rw [List.length_set]; exact hi)] at h
          cases h
          exact ⟨.ref p, si, .pl ap.h ra hq rq ne (.inl ⟨rfl, .inl rfl⟩) (.inl ⟨rfl, .inr rfl⟩)⟩
        · rw [List.getElem?_set_ne (Ne.symm c)] at h
          by_cases c2 : l = j
          · subst c2
            rw [List.getElem?_set_self hj] at h
            cases h
          · rw [List.getElem?_set_ne (Ne.symm c2)] at h
            obtain ⟨v, ev, ow⟩ := s2.at_ l o h
            exact ⟨v, ev, ow.mono (Same.refl _) (fun _ _ q _ => q) fun z w => .inr ⟨c, c2, w⟩⟩
      · rcases h with ⟨_, rfl | rfl⟩ | ⟨_, _, h⟩
        · exact ⟨ap.f, ⟨_, ap.n⟩, ap.h⟩
        · exact s2.ow j _ zq
        · exact s2.ow l z h
      · have hp : ∀ {l z}, l ≠ j → (z = p ∨ z = q) → O2 l z → False := fun {l z} hl hz h => by
          rcases hz with rfl | rfl
          · exact ap.o ⟨l, h⟩
          · exact hl (s2.dj l j _ h zq)
        rcases a with ⟨a1, a2⟩ | ⟨a1, a2, a3⟩ <;> rcases b with ⟨b1, b2⟩ | ⟨b1, b2, b3⟩
        · rw [a1, b1]
        · exact (hp b2 a2 b3).elim
        · exact (hp a2 b2 a3).elim
        · exact s2.dj l m z a3 b3
      · rcases h with ⟨_, rfl | rfl⟩ | ⟨_, _, h⟩
        · exact .inl rfl
        · exact .inr ⟨j, zq⟩
        · exact .inr ⟨l, h⟩
theorem rejoin_some {i j : Nat} {xs : List D} {env env' : Env} (h : rejoin i j xs env = some env') : ∃ cs, env[j]? = some (some (.fd (.lst cs))) ∧ env' = (env.set j none).set i (some (.pl xs cs)) := by
  unfold DL.rejoin at h
  split at h
  · rename_i cs q
    exact ⟨cs, q, (Option.some.inj h).symm⟩
  · cases h
end
section
variable {X : Cx} {cm : Cm} {B : List Nat} {x y : Str} {px py pt pos p3 : Pos} {ci : Int} {kk : Option Str} {c : Expr} {body rest : List Stmt} {tt : TT} {fc : M Bool} {t u : TS} {gb h : G} {B' : List Nat}
theorem dss_alias (i j : Nat) {e2 : Expr} {te : TE} {k : Nat} (he : PE X e2 te) (hte : ∀ σ H p vs q Q, σ[i]? = some (some (.ref p)) → H p = some (.lst (vs ++ [.ref q])) → vs.length = k → Q (.ref q) H → te σ H Q)
    (hc : DT X cm c tt fc) (hb : DSs X cm B' body t gb) (hr : DSs X cm B rest u h) (hi' : i ∈ B') (hj' : j ∈ B') (hB : ∀ l ∈ B, l ∈ B') (hjB : j ∉ B) (hN : X.N.Nodup) (hx : X.N[j]? = some y := by rfl) (hl : Loc X.env.scope y := by first | exact .inl rfl | exact .inr rfl)
    (hf : X.fn y = true ∨ X.env.scope.names.lookup y = some .local := by first | exact .inl rfl | exact .inr rfl | assumption)
    (hs : swapsWithSole [.Name y py] e2 pos.line X.env = pure false := by rfl) (hw : swappedStores [.Name y py] e2 X.env = pure none := by rfl) (h1 : (assignEach [.Name y py] X.env).map (·.2) = [assign (.Name y py) X.env] := by rfl) :
    DSs X cm B (.Assign [.Name y py] e2 pos :: .If c body [] p3 :: rest) (tSeq (tAsg te (gName j)) (tSeq (tIfS tt t tNext) u)) (gal i j k fc gb h) := ⟨pss_cons (ps_asg he (pg_name hN hx hl hf) hs hw h1) (pss_cons (ps_if hc.pe hb.pe pss_nil) hr.pe), fun F H σ env O out env' Dn s e kk => by
  unfold gal at e
  split at e
  · rename_i xs cs q
    obtain ⟨⟨hk, hij, hj⟩, e⟩ := ite_opt e
    obtain ⟨⟨b, env1⟩, e1, e⟩ := bind_some e
    dsimp only at e
    obtain ⟨v, ev, ow⟩ := s.at_ i _ q
    cases ow with
    | @pl p qq vs ws _ _ _ hp ra hq rq ne zp zq =>
      refine hte σ H p vs qq _ ev hp (by rw [ra.len, hk]) ?_
      obtain ⟨O1, s1, u1, n1⟩ := s.splitP q hij hj hq rq ne zp zq
      have ap1 : Apart F H O1 p (.lst (vs ++ [.ref qq])) := ⟨hp, (s.ow i p zp).1, n1, nt_l⟩
      have hi := (List.getElem?_eq_some_iff.mp q).1
      have bs : Bor B σ (σ.set j (some (.ref qq))) := .set hjB
      have wid : ∀ {F2 H2 : Hp} {O2 O3 : Nat → Rg}, Go (Un O1) F H (Un O2) F2 H2 → (∀ z, Un O3 z → z = p ∨ Un O2 z) → Go (Un O) F H (Un O3) F2 H2 := fun g h3 => by
        have g' := g.mono u1
        exact ⟨g'.ff, g'.hh, g'.fr, fun z hz => (h3 z hz).elim (fun c => .inl ⟨i, by rw [c]; exact zp⟩) (g'.ss z), g'.al⟩
      have si : (σ.set j (some (.ref qq)))[i]? = some (some (.ref p)) := by rw [List.getElem?_set_ne (Ne.symm hij)]; exact ev
      have sj : (σ.set j (some (V.ref qq)))[j]? = some (some (.ref qq)) := by rw [List.getElem?_set_self (by rw [s.len]; exact hj)]
      refine hc.sm F H _ _ O1 b env1 _ s1 e1 fun F2 H2 O2 g2 s2 => ?_
      cases b with
      | true =>
        rw [if_pos rfl] at e ⊢
        obtain ⟨⟨o3, env3⟩, e3, e⟩ := bind_some e
        unfold galR at e
        dsimp only at e
        split at e
        · rename_i d
          obtain ⟨env4, e4, e5⟩ := map_some e
          cases e5
          obtain ⟨cs', e6, rfl⟩ := rejoin_some e4
          refine hb.sm F2 H2 _ env1 O2 _ env3 _ s2 e3 ?_
          intro F3 H3 σ3 v O3 R g3 s3 b3 ow3 n3
          have ap2 := ap1.go g2
          obtain ⟨ap3, nR⟩ : Apart F3 H3 O3 p (.lst (vs ++ [.ref qq])) ∧ ¬ R p := by
            refine ⟨⟨g3.hh _ ⟨_, nt_l⟩ ap2.h ap2.f ap2.o, ?_, fun z => ?_, nt_l⟩, fun z => ?_⟩
            · cases w : F3 p with
              | none => rfl
              | some y =>
                rcases g3.fr p (by rw [w]; exact fun z => nomatch z) with z | z | z | ⟨w', z, nw⟩
                · exact absurd ap2.f z
                · rw [ap2.h] at z; cases z
                · exact absurd z ap2.o
                · rw [ap2.h] at z; exact (nw (Option.some.inj z ▸ nt_l)).elim
            · rcases g3.ss p (.inr z) with z | z
              · exact ap2.o z
              · rw [ap2.h] at z; cases z
            · rcases g3.ss p (.inl z) with z | z
              · exact ap2.o z
              · rw [ap2.h] at z; cases z
          have hi3 : i < env3.length := by
            rw [← s3.len, b3.ln, List.length_set, s.len]; exact hi
          obtain ⟨O4, s4, u4⟩ := s3.rejoin (i := i) (j := j) (q := qq) e6 (by rw [b3.st i hi']; exact si) (by rw [b3.st j hj']; exact sj) hij hi3 ap3 ((ra.mono g2.ff).mono g3.ff)
          have gz : Go (Un O2) F2 H2 (Un O3) F3 H3 := g3.sub fun z hz => .inr hz
          cases ow3 with
          | fd ow3 =>
            cases ow3 with
            | val rv => exact kk F3 H3 σ3 v O4 (fun _ => False) ((wid (g2.trans gz) u4).sub fun z hz => hz.elim (fun f => f.elim) id) s4 (bs.trans ⟨b3.ln, fun l hl => b3.st l (hB l hl)⟩) (.fd (.val rv)) fun z hz => hz.elim
        · cases e
      | false =>
        rw [if_neg Bool.false_ne_true] at e ⊢
        obtain ⟨env3, e3, e⟩ := bind_some e
        obtain ⟨cs', e6, rfl⟩ := rejoin_some e3
        have ap2 := ap1.go g2
        have hi3 : i < env1.length := by
          rw [← s2.len, List.length_set, s.len]; exact hi
        obtain ⟨O4, s4, u4⟩ := s2.rejoin (i := i) (j := j) (q := qq) e6 si sj hij hi3 ap2 (ra.mono g2.ff)
        exact hr.sm F2 H2 _ _ O4 out env' _ s4 e (kk.go (wid g2 u4) bs)
  · cases e⟩
end
end DL

/-! The data layer: a dict that keeps what a function of its keys tells. -/
namespace DL
open PySem PySem.Spec PyProof.Rows L2
abbrev Mf := Nat → List (List Int) → List L2.Key → Option D
/-! ### an object that was just made is laid to rest, some dicts of it as such that keep -/
def mzF (kd : Str → Option Nat) (ps : List (List Int)) : List (Str × Fd) → List (Str × D)
  | [] => []
  | (m, x) :: r => (m, match kd m with | some n => .memo n ps | none => x.frz) :: mzF kd ps r
/-- a field's dict holds what the function tells -/
def mzOk (mf : Mf) (kd : Str → Option Nat) (ps : List (List Int)) (q : Str × Fd) : Prop := ∀ n, kd q.1 = some n → ∃ ks, q.2 = .dit ks ∧ ((ks.map (·.1)).Nodup ∧ ∀ d, mf n ps zK = some d → zK ∈ ks.map (·.1)) ∧ ∀ w ∈ ks, mf n ps w.1 = some w.2
section
variable {K : PySem.W.Frag} {cm : Cm} {F H : Hp}
theorem RpA.in2 {K : PySem.W.Frag} {F : Hp} : ∀ {kvs : List (List L2.Key × V)} {ks : List (List L2.Key × D)}, kvs.map (·.1) = ks.map (·.1) → RpA K cm F (kvs.map (·.2)) (ks.map (·.2)) → ∀ q ∈ kvs, ∃ d, (q.1, d) ∈ ks ∧ Rp K cm F q.2 d := fun {kvs ks} n r q hq => by
  obtain ⟨j, hj⟩ := List.mem_iff_getElem?.mp hq
  obtain ⟨_, ka⟩ := keys_at n r
  obtain ⟨d, e1, e2⟩ := ka (j := j) (k := q.1) (v := q.2) hj
  exact ⟨d, List.mem_of_getElem? e1, e2⟩
theorem OwFs.memo {mf : Mf} {kd : Str → Option Nat} {ps : List (List Int)} {fs : List (Str × V)} {gs : List (Str × Fd)} {S : Rg} (h : OwFs K cm F H fs gs S) : (∀ q ∈ gs, mzOk mf kd ps q) →
    ∃ T : Addr → Option Nat, (∀ d n, T d = some n → S d ∧ ∃ kvs, H d = some (.dT kvs) ∧ ((kvs.map (·.1)).Nodup ∧ ∀ d, mf n ps zK = some d → zK ∈ kvs.map (·.1)) ∧ ∀ q ∈ kvs, ∃ x, mf n ps q.1 = some x ∧ Rp K cm F q.2 x) ∧
      ∀ F', Same F F' → (∀ z u, H z = some u → S z → T z = none → F' z = some u) → (∀ z n, T z = some n → F' z = some (tagM n ps)) → RpA K cm F' (fs.map (·.2)) ((mzF kd ps gs).map (·.2)) := by
  induction h with
  | nil => exact fun _ => ⟨fun _ => none, fun _ _ e => (nomatch e), fun _ _ _ _ => .nil⟩
  | @cons m v x fs gs S S1 S2 ow r dj a b ih =>
    intro hok
    obtain ⟨T, h1, h2⟩ := ih fun q hq => hok q (List.mem_cons_of_mem _ hq)
    have h0 := hok (m, x) List.mem_cons_self
    cases hk : kd m with
    | none =>
      refine ⟨T, fun d n e => ⟨b d (h1 d n e).1, (h1 d n e).2⟩, fun F' sm hz ht => ?_⟩
      unfold mzF
      rw [hk]
      have hT : ∀ p, S1 p → T p = none := fun p w => by
        cases q : T p with
        | none => rfl
        | some n => exact absurd (h1 p n q).1 (dj p w)
      exact .cons (ow.frz sm fun p u e w => hz p u e (a p w) (hT p w)) (h2 F' sm (fun p u e w => hz p u e (b p w)) ht)
    | some n =>
      obtain ⟨ks, e1, e2, e3⟩ := h0 n hk
      have e1 : x = .dit ks := e1
      subst e1
      cases ow with
      | @dit d kvs _ _ i1 i2 i3 z =>
        refine ⟨fun y => if y = d then some n else T y, fun y m' e => ?_, fun F' sm hz ht => ?_⟩
        · have e : (if y = d then some n else T y) = some m' := e
          by_cases c : y = d
          · subst c
            rw [if_pos rfl] at e
            cases e
            refine ⟨a y z, kvs, i1, by rw [i2]; exact e2, fun q hq => ?_⟩
            obtain ⟨x, w1, w2⟩ := RpA.in2 i2 i3 q hq
            exact ⟨x, e3 _ w1, w2⟩
          · rw [if_neg c] at e
            exact ⟨b y (h1 y m' e).1, (h1 y m' e).2⟩
        · unfold mzF
          rw [hk]
          refine .cons (.memo (ht d n (if_pos rfl))) (h2 F' sm (fun p u e w t0 => hz p u e (b p w) ?_) fun p m' e => ht p m' ?_)
          · exact (if_neg (fun c : p = d => dj d z (by rw [← c]; exact w))).trans t0
          · exact (if_neg (fun c : p = d => dj d z (by rw [← c]; exact (h1 p m' e).1))).trans e
end
open Classical in
/-- kd: the fields that keep; pf: what they depend on -/
noncomputable def mkM (mf : Mf) (kd : Str → Option Nat) (pf : List (Str × Fd) → Option (List (List Int))) (f : M Od) : M D := mb f fun o => match o with
  | .obj c gs => match pf gs with
    | some ps => if ∀ q ∈ gs, mzOk mf kd ps q then mr (.obj c (mzF kd ps gs)) else mo none
    | none => mo none
  | _ => mo none
section
variable {X : Cx} {cm : Cm} {e : Expr} {te : TE} {f : M Od}
open Classical in
end
/-! ### keys -/
section
variable {X : Cx} {cm : Cm} {a b e : Expr} {ta tb te : TE} {pos : Pos} {fa fb : P D}
end
/-! ### if k not in x.f: body; x.f[k] = e; return x.f[k] -/
open Classical in
section
variable {X : Cx} {cm : Cm} {x fld : Str} {px p1 p2 p3 p4 p5 p6 p7 p8 p9 : Pos} {kx kx2 kx3 ve : Expr} {tk tk2 tk3 tv : TE} {body : List Stmt} {t0 : TS} {g0 : G} {fk : P (List L2.Key)} {fe : M D} {i : Nat}
end
end DL

/-! The data layer: x *= e; max(xs); a text in a module's tuple of texts; the alias of a pool's list. -/
namespace DL
open PySem PySem.Spec PyProof.Rows L2
/-- ints that are not too great -/
def ipC (C : Int → Int → Prop) (f : Int → Int → Int) : TIp := fun x y H Q => ∃ i j, x = .int i ∧ y = .int j ∧ C i j ∧ Q (.int (f i j)) H
theorem ip_mul {X : Cx} : PIp X .Mult (ipC CMul fun i j => i * j) := by
  intro pins s σ H x y v u Q I r1 r2 h
  obtain ⟨i, j, e1, e2, hc, q⟩ := h
  subst e1; subst e2
  obtain ⟨t, rfl⟩ := r1
  obtain ⟨t', rfl⟩ := r2
  exact PyProof.Rows.imul_int ⟨.int _, H, I.tok _, ⟨_, rfl⟩, q⟩ hc.ok
theorem ipM_sm {K : PySem.W.Frag} {cm : Cm} : ∀ F H x y a b d Q, Rp K cm F x a → Rp K cm F y b → mulD a b = some d → (∀ v, Rp K cm F v d → Q v H) → ipC CMul (fun i j => i * j) x y H Q := fun F H x y a b d Q ra rb e k => by
  cases a <;> try (cases e; done)
  cases b <;> try (cases e; done)
  rename_i i j
  obtain ⟨hc, e2⟩ := ite_some e
  subst e2
  cases ra
  cases rb
  have hc2 := of_decide_eq_true (p := (-(2 ^ 64) < i ∧ i < 2 ^ 64) ∨ (-(2 ^ 64) < j ∧ j < 2 ^ 64)) (by unfold mulC at hc; exact hc)
  exact ⟨i, j, rfl, rfl, hc2, k _ (.int _)⟩
def maxL : List Int → Int
  | [] => 0
  | [x] => x
  | x :: y :: r => let m := maxL (y :: r); if m < x then x else m
def maxLB : List D → Option D
  | [.lst ds] => (toInts ds).bind fun ns => if ns.length = 0 then none else some (.int (maxL ns))
  | [.tup ds] => (toInts ds).bind fun ns => if ns.length = 0 then none else some (.int (maxL ns))
  | _ => none
/-! ### s in T, T a module's tuple of texts -/
section
variable {X : Cx} {cm : Cm} {a : Expr} {ta : TE} {pos pc : Pos} {fa : P D} {x : Str} {g : Addr} {ss : List Str}
end
section
variable {X : Cx} {cm : Cm} {a : Expr} {ta : TE} {pos pc : Pos} {fa : P D} {x : Str} {g : Addr} {ss : List Str}
end
theorem alias_ix {K : PySem.W.Frag} {i : Nat} {k : Nat} : ∀ σ H p vs q Q, σ[i]? = some (some (.ref p)) → H p = some (.lst (vs ++ [.ref q])) → vs.length = k → Q (.ref q) H → tOp (rIx K) (tVar i) (tC (.int (k : Nat))) σ H Q := fun σ H p vs q Q ev hp hl h =>
  ⟨_, ev, .inl ⟨p, _, (k : Nat), .ref q, rfl, rfl, .of hp, by
    unfold atI
    rw [ixN_in (by omega) (by rw [List.length_append, hl]; show ((k : Nat) : Int) < ((k + 1 : Nat) : Int); omega), Option.bind_some, Int.toNat_natCast, ← hl, List.getElem?_append_right (Nat.le_refl _), Nat.sub_self]
    rfl, h⟩⟩
end DL

/-! The data layer: sorted(e), e a list of any number of tuples of ints. -/
namespace SrtO
open PySem PyProof.Rows Srt
section
variable {prog : Program} {w : World} {A : Around} {E : Value → Shared → Prop} {s : Shared}
theorem swo_rank (r : Value → Int) : Swo fun v u => decide (r v < r u) := by
  refine ⟨fun x y h => ?_, fun x y z h1 h2 => ?_⟩
  · have a := of_decide_eq_true (p := r x < r y) h
    exact decide_eq_false (p := r y < r x) (by omega)
  · have a := of_decide_eq_false (p := r y < r x) h1
    have b := of_decide_eq_false (p := r z < r y) h2
    exact decide_eq_false (p := r z < r x) (by omega)
theorem tups_cmp {d : Nat} {B : Int} {vs : List Value} (x : TS.TupsOk s.heap d B vs) (r : Value → Int) (hr : ∀ v, v ∈ vs → ∀ ns, TS.TupInts s.heap v ns → r v = TS.code B ns) : Cmp prog w A s (tuples' true) (fun p => p.1 ∈ vs) (lt2 fun v u => decide (r v < r u)) := by
  intro p q hp hq
  obtain ⟨ns, tp, lp, bp⟩ := x _ hp
  obtain ⟨ms, tq, lq, bq⟩ := x _ hq
  have ep := hr _ hp _ tp
  have eq2 := hr _ hq _ tq
  show wpAny (model prog w) A (keyLt' (tuples' true) p.1 q.1) (fun z s' => s' = s ∧ z = decide (r p.1 < r q.1)) (fun _ _ => False) s
  rw [ep, eq2]
  obtain ⟨a, xs, e1, ⟨o, ho, hc, n, hdt⟩, i⟩ := tp
  obtain ⟨a', ys, e2, ⟨o', ho', hc', n', hdt'⟩, i'⟩ := tq
  rw [e1, e2]
  refine PySem.W.kat_lt ho hdt ho' hdt' ?_
  have sz : decide (xs.size < ys.size) = false := by
    have l1 := i.length
    have l2 := i'.length
    rw [Array.length_toList] at l1 l2
    exact decide_eq_false (by omega)
  rw [sz]
  exact TS.lex_ints 0 i i' (by omega) bp bq ⟨rfl, rfl⟩
theorem tups_sortableO {a : Addr} {d : Nat} {B : Int} {vs : List Value} (hd : 1 ≤ d) (h0 : 0 < vs.length) (x : TS.TupsOk s.heap d B vs) (r : Value → Int) (hr : ∀ v, v ∈ vs → ∀ ns, TS.TupInts s.heap v ns → r v = TS.code B ns) (ha : ∀ o, s.heap.get? a = some o → o.cls ≠ .type "tuple") : SortableO prog w A s a vs fun v u => decide (r v < r u) := by
  intro h' keep
  have kp : ∀ b o, s.heap.get? b = some o → o.cls = .type "tuple" → h'.get? b = some o := fun b o e c => keep b o (fun z => by subst z; exact ha o e c) e
  have x' : TS.TupsOk h' d B vs := x.keeps kp
  obtain ⟨fs, k, hl, hi⟩ := TS.firsts_of hd vs x'
  refine ⟨tuples' true, fun Q E hq => ?_, tups_cmp x' r fun v hv ns t => ?_⟩
  · refine PySem.W.kat_kind (T := .type "int") k (by omega) (fun f hm => ?_) (by rfl) ?_
    · obtain ⟨y, t, rfl⟩ := hi f hm
      exact PySem.W.Looks.now
    · have e : (Value.type "int" != Value.type "tuple") = true := by first | decide +kernel | rfl | decide
      rw [e]
      exact hq
  · obtain ⟨ms, t2, _⟩ := x v hv
    have e1 := t.ints
    have e2 := (t2.keeps kp).ints
    rw [← e1, e2]
    exact hr v hv ms t2
theorem sorted_tupsO {l : Addr} {d : Nat} {B : Int} {vs : List Value} (r : Value → Int) {Q : Value → Shared → Prop} (hl : s.heap.IsList l vs.toArray) (hz : vs.length ≤ sizeLine) (hd : 1 ≤ d) (x : TS.TupsOk s.heap d B vs) (hr : ∀ v, v ∈ vs → ∀ ns, TS.TupInts s.heap v ns → r v = TS.code B ns)
    (h : ∀ (h' : Heap) (d : Addr) (out : List Value), Srtd (fun v u => decide (r v < r u)) out → Stb (fun v u => decide (r v < r u)) out vs → (∀ b o, s.heap.get? b = some o → h'.get? b = some o) → s.heap.objs.size ≤ d → (∃ n, h'.get? d = some (seqObj "list" out.toArray n)) → Q (.ref d) { s with heap := h' }) :
    wpAny (model prog w) A (call (.builtin "sorted") [.ref l]) Q E s := by
  refine sorted_ord (swo_rank r) hl hz (fun h2 h₁ a ha kk => ?_) fun out hs hb => ?_
  · have kp : ∀ b o, s.heap.get? b = some o → o.cls = .type "tuple" → h₁.get? b = some o := fun b o e _ => (kk b o e).2
    refine tups_sortableO (s := { s with heap := h₁ }) hd (by omega) (x.keeps kp) r (fun v hv ns t => ?_) fun o e => ?_
    · obtain ⟨ms, t2, _⟩ := x v hv
      have e1 := TS.TupInts.ints (h := h₁) t
      have e2 := (t2.keeps kp).ints
      rw [← e1, e2]
      exact hr v hv ms t2
    · have e' : some o = some (seqObj "list" vs.toArray 0) := e.symm.trans ha
      cases e'
      intro c
      exact absurd (Value.type.inj c) (by decide)
  · exact h _ _ out hs hb (fun b o e => sortedAll_old e) (Nat.le_succ _) (sortedAll_at s.heap vs out.toArray)
end
end SrtO
namespace DL
open PySem PySem.Spec PyProof.Rows L2
def rSortL (K : PySem.W.Frag) : List V → Hp → VK → Prop := fun vs H Q => ∃ (d : Nat) (a : Addr) (xs : List V), 1 ≤ d ∧ vs = [V.ref a] ∧ SqL K H a xs ∧ (∀ x ∈ xs, ∃ ns, TupI K H x ns ∧ ns.length = d ∧ TS.Bd 64 ns) ∧
  ∀ (ys : List V) (p : Addr), ys.Perm xs → ys.Pairwise (fun x y => ∀ n m, TupI K H x n → TupI K H y m → TS.code 64 n ≤ TS.code 64 m) → H p = none → Q (.ref p) (upd H p (.lst ys))
theorem cr_sortL {X : Cx} : CallR X (.builtin "sorted") (rSortL X.K) := by
  intro pins s σ H vs us Q I r h
  obtain ⟨d, a, xs, hd, rfl, hs, hx, q⟩ := h
  obtain ⟨its, rv, hl, hz⟩ := I.list hs
  rw [Vals.ref1 r]
  obtain ⟨e1, e2⟩ := bkV_refs rv fun x m => by
    obtain ⟨ns, ⟨t, e, _⟩, _⟩ := hx x m
    exact ⟨t, e⟩
  refine SrtO.sorted_tupsO (d := d) (B := 64) (fun v => TS.code 64 (TS.intsOf s.heap v)) hl.isList (by rw [← rv.length]; exact hz) hd (fun v hv => ?_) (fun v hv ns t => by rw [t.ints]) fun h' c out h1 h2 kp hc hn => ?_
  · obtain ⟨t, rfl⟩ := e2 v hv
    have hm : V.ref t ∈ xs := by
      rw [e1]
      exact List.mem_map.mpr ⟨_, hv, rfl⟩
    obtain ⟨ns, ⟨t', e, ht⟩, hn, hb⟩ := hx _ hm
    cases e
    exact ⟨ns, tupI_raw I ht, hn, hb⟩
  · have h3 : ∀ u ∈ out, ∃ a, u = Value.ref a := fun u hu => e2 u (h2.perm.mem_iff.mp hu)
    have hp : (out.map bkV).Perm xs := by
      rw [e1]
      exact h2.perm.map bkV
    have hlen : (out.map bkV).length ≤ sizeLine := by
      rw [hp.length_eq]
      exact hz
    obtain ⟨n, hn⟩ := hn
    refine ⟨.ref c, upd H c (.lst (out.map bkV)), I.laid (t' := s.toks) kp hc ⟨hlen, out, n, bkV_vals h3, hn⟩, rfl, q _ c hp ?_ (I.hok.fresh hc)⟩
    rw [List.pairwise_map]
    refine List.Pairwise.imp (fun {u v} huv n m hn hm => ?_) h1
    obtain ⟨t, et, ht⟩ := hn
    obtain ⟨t', et', ht'⟩ := hm
    have eu := bkV_ref et
    have ev := bkV_ref et'
    have i1 : TS.intsOf s.heap u = n := by
      rw [eu]
      exact (tupI_raw I ht).ints
    have i2 : TS.intsOf s.heap v = m := by
      rw [ev]
      exact (tupI_raw I ht').ints
    rw [← i1, ← i2]
    have := of_decide_eq_false huv
    omega
def okTL (ts : List (List Int)) : Bool := match ts with
  | [] => true
  | t :: r => decide (1 ≤ t.length) && (t :: r).all (okT t.length)
theorem okTL_of {ts : List (List Int)} (h : okTL ts = true) : ∃ d, 1 ≤ d ∧ ∀ t ∈ ts, t.length = d ∧ TS.Bd 64 t := by
  cases ts with
  | nil => exact ⟨1, by decide, fun t ht => absurd ht (by simp)⟩
  | cons t r =>
    have h : (decide (1 ≤ t.length) && (t :: r).all (okT t.length)) = true := h
    rw [Bool.and_eq_true, List.all_eq_true] at h
    refine ⟨t.length, of_decide_eq_true h.1, fun u hu => ?_⟩
    have := h.2 u hu
    unfold okT at this
    rw [Bool.and_eq_true, List.all_eq_true] at this
    exact ⟨eq_of_beq this.1, fun m hm => of_decide_eq_true (this.2 m hm)⟩
theorem okTL_mk {ts : List (List Int)} {d : Nat} (hd : 1 ≤ d) (h : ∀ t ∈ ts, t.length = d ∧ ∀ m ∈ t, 0 ≤ m ∧ m < 64) : okTL ts = true := by
  cases ts with
  | nil => rfl
  | cons t r =>
    have h0 := (h t List.mem_cons_self).1
    show (decide (1 ≤ t.length) && (t :: r).all (okT t.length)) = true
    rw [Bool.and_eq_true, List.all_eq_true]
    refine ⟨decide_eq_true (by omega), fun u hu => ?_⟩
    obtain ⟨h1, h2⟩ := h u hu
    unfold okT
    rw [Bool.and_eq_true, List.all_eq_true]
    exact ⟨beq_iff_eq.mpr (by omega), fun m hm => decide_eq_true (h2 m hm)⟩
def sortTL : List D → Option Od
  | [.lst ds] => (toTups ds).bind fun ts => if okTL ts = true then some (.fd (.lst ((tsort ts).map tupI))) else none
  | _ => none
theorem sr_sortTL {K : PySem.W.Frag} {cm : Cm} : SmR K cm (rSortL K) sortTL := fun F H σ env O vs ds o Q s ra e k => by
  unfold sortTL at e
  split at e
  · obtain ⟨ts, e1, e⟩ := bind_some e
    obtain ⟨c, rfl⟩ := ite_some e
    obtain ⟨dd', hd1, hts⟩ := okTL_of c
    obtain ⟨v, rfl, r⟩ := ra.one
    cases r with
    | lst hp rs =>
      obtain ⟨ks, h1, h2, h3⟩ := rs.tups e1
      subst h1
      subst h2
      refine ⟨dd', _, _, hd1, rfl, .of (s.fh.at hp), fun x hx => ?_, fun ys p hperm hpw np => ?_⟩
      · obtain ⟨q, hq, rfl⟩ := List.mem_map.mp hx
        exact ⟨q.2, ⟨q.1, rfl, tupT s.fh (h3 q hq)⟩, hts q.2 (List.mem_map_of_mem hq)⟩
      · obtain ⟨L, hL, rfl⟩ := perm_map hperm
        have h3' : ∀ q ∈ L, F q.1 = some (.tup (q.2.map V.int)) := fun q hq => h3 q (hL.mem_iff.mp hq)
        have eL : L.map (·.2) = tsort (ks.map (·.2)) := by
          refine tsort_eq (d := dd') hts (hL.map _) ?_
          rw [List.pairwise_map]
          refine List.Pairwise.imp_of_mem (fun {q r} hq hr h => h q.2 r.2 ⟨q.1, rfl, tupT s.fh (h3' q hq)⟩ ⟨r.1, rfl, tupT s.fh (h3' r hr)⟩) (List.pairwise_map.mp hpw)
        have rl := RpA.of_tups (cm := cm) (K := K) (F := F) L h3'
        have em : L.map (fun p => tupI p.2) = (tsort (ks.map (·.2))).map tupI := by rw [← eL, List.map_map]; rfl
        rw [em] at rl
        exact k.fresh s np rl
  · cases e
/-! ### a list of one's own: list + list -/
def catF : D → D → Option Od
  | .lst xs, .lst ys => if xs.length + ys.length ≤ 16777216 then some (.fd (.lst (xs ++ ys))) else none
  | _, _ => none
def mcat (fa fb : M D) : M Od := mb fa fun x => mb fb fun y => mo (catF x y)
section
variable {X : Cx} {cm : Cm} {a b : Expr} {ta tb : TE} {fa fb : M D} {pos : Pos}
end
end DL

namespace DL
open PySem PySem.Spec PyProof.Rows L2
/-! ### list(d): a dict's keys; a display of two pairs -/
section
variable {X : Cx} {cm : Cm} {a b c d : Expr} {ta tb tc td : TE} {pos : Pos}
end
end DL

/-! The data layer: raise, try. -/
namespace DL
open PySem PySem.Spec PyProof.Rows L2
/-! ### X() -/
theorem pmk_own0 {X : Cx} {C : Addr} {bmB : List Value} {B newId initId : String} {x : Str} {p pos : Pos} (F : ExcBaseFacts B newId initId bmB) (q : PySem.W.excIn X.K C bmB newId = true) (gC : X.mg x = some (.ref C))
    (kC : PySem.W.keepIn X.K (.ref C) = true) (r : Raises X (.ref C)) (hg : Gl X x) (hdb : (x == ("__debug__" : Str)) = false := by decide) : L2.PMk X (.Call (.Name x p) [] [] pos) (fun _ H Q => Q (.ref C) none H) := by
  intro pins s σ H Q I h
  refine wpAny_Call_Name_kw (ld_glob I hg gC ?_ hdb)
  refine PySem.W.callWith_K0 I.kIn kC ?_
  show wpAny _ _ (call (.ref C) []) _ _ _
  obtain ⟨bm, N, nm, qn, bs, hdct, sn, sub, ab, col, dd, k0, k1, k2, k3, k5, mN, hC, hN, hni, T⟩ := exc_obj I.kIn q
  refine wpAny_call_exc_subT F T hC hN hni (fun h' e hm => ?_) (Nat.zero_le _)
  exact L2.mk_of I hm r h (I.hok.gone hm.new)
/-! ### an error that leaves: told as a thing of a class from 1000 on -/
def exO (c : Nat) : Od := .obj (1000 + c) []
/-- an error: its class, the field that it keeps -/
structure Er where
  c : Nat
  d : Option (Str × D)
def Er.od : Er → Od
  | ⟨c, none⟩ => .obj (1000 + c) []
  | ⟨c, some (f, d)⟩ => .obj (1000 + c) [(f, .val d)]
def isX : Od → Option Er
  | .obj k [] => if 1000 ≤ k then some ⟨k - 1000, none⟩ else none
  | .obj k [(f, .val d)] => if 1000 ≤ k then some ⟨k - 1000, some (f, d)⟩ else none
  | _ => none
theorem isX_ex (c : Nat) : isX (exO c) = some ⟨c, none⟩ := by
  show (if 1000 ≤ 1000 + c then some (⟨1000 + c - 1000, none⟩ : Er) else none) = _
  rw [if_pos (Nat.le_add_right _ _), Nat.add_sub_cancel_left]
def exF (c : Nat) (f : Str) (d : D) : Od := .obj (1000 + c) [(f, .val d)]
theorem isX_od : ∀ e : Er, isX e.od = some e
  | ⟨c, none⟩ => isX_ex c
  | ⟨c, some (f, d)⟩ => by
    show (if 1000 ≤ 1000 + c then some (⟨1000 + c - 1000, some (f, d)⟩ : Er) else none) = _
    rw [if_pos (Nat.le_add_right _ _), Nat.add_sub_cancel_left]
theorem isX_ef (c : Nat) (f : Str) (d : D) : isX (exF c f d) = some ⟨c, some (f, d)⟩ := isX_od ⟨c, some (f, d)⟩
/-- what is wished of an error that leaves -/
def ErW (K : PySem.W.Frag) (cm : Cm) (F : Hp) (E : XK) (H : Hp) : Er → Prop
  | ⟨c, none⟩ => E (.ref (cm c)) none H
  | ⟨c, some (f, d)⟩ => ∀ a v, F a = some (.xd [(f, v)]) → Rp K cm F v d → E (.ref (cm c)) (some a) H
def XtP (K : PySem.W.Frag) (cm : Cm) (B : List Nat) (W : WX) (F H : Hp) (σ : L2.St) (O : Nat → Rg) (env' : Env) (c : Er) : Prop := ∀ F' H' σ' O', Go (Un O) F H (Un O') F' H' → Sts K cm F' H' σ' env' O' → Bor B σ σ' → ErW K cm F' (fun cl d H => W cl d σ' H) H' c
def EndR (K : PySem.W.Frag) (cm : Cm) (B : List Nat) (W : WX) (Dn : Ends) (F H : Hp) (σ : L2.St) (O : Nat → Rg) (env' : Env) (o : Od) : Option Er → Prop
  | some c => XtP K cm B W F H σ O env' c
  | none => EndP K cm B Dn F H σ O env' (.rt o)
def EndX (K : PySem.W.Frag) (cm : Cm) (B : List Nat) (W : WX) (Dn : Ends) (F H : Hp) (σ : L2.St) (O : Nat → Rg) (env' : Env) : Out → Prop
  | .rt o => EndR K cm B W Dn F H σ O env' o (isX o)
  | .nx => EndP K cm B Dn F H σ O env' .nx
  | .bk => EndP K cm B Dn F H σ O env' .bk
  | .ct => EndP K cm B Dn F H σ O env' .ct
section
variable {K : PySem.W.Frag} {cm : Cm} {B : List Nat} {W : WX} {Dn En : Ends} {F H F1 H1 : Hp} {σ σ1 : L2.St} {O O1 : Nat → Rg} {env' : Env} {out : Out}
theorem XtP.go {c : Er} (k : XtP K cm B W F H σ O env' c) (g : Go (Un O) F H (Un O1) F1 H1) (b : Bor B σ σ1) : XtP K cm B W F1 H1 σ1 O1 env' c := fun F' H' σ' O' g' s' b' => k F' H' σ' O' (g.trans g') s' (b.trans b')
theorem EndX_x {o : Od} {c : Er} (h : isX o = some c) : EndX K cm B W Dn F H σ O env' (.rt o) = XtP K cm B W F H σ O env' c := by
  show EndR K cm B W Dn F H σ O env' o (isX o) = _
  rw [h]; rfl
theorem EndX_n {o : Od} (h : isX o = none) : EndX K cm B W Dn F H σ O env' (.rt o) = EndP K cm B Dn F H σ O env' (.rt o) := by
  show EndR K cm B W Dn F H σ O env' o (isX o) = _
  rw [h]; rfl
theorem EndX.go (k : EndX K cm B W Dn F H σ O env' out) (g : Go (Un O) F H (Un O1) F1 H1) (b : Bor B σ σ1) : EndX K cm B W Dn F1 H1 σ1 O1 env' out := by
  cases out with
  | nx => exact EndP.go (out := .nx) k g b
  | bk => exact EndP.go (out := .bk) k g b
  | ct => exact EndP.go (out := .ct) k g b
  | rt o =>
    cases hc : isX o with
    | some c =>
      rw [EndX_x hc] at k ⊢
      exact k.go g b
    | none =>
      rw [EndX_n hc] at k ⊢
      exact EndP.go (out := .rt o) k g b
theorem EndX.imp (k : EndX K cm B W Dn F H σ O env' out) (h1 : out ≠ .nx) (h2 : En.bk = Dn.bk) (h3 : En.ct = Dn.ct) (h4 : En.rt = Dn.rt) : EndX K cm B W En F H σ O env' out := by
  cases out with
  | nx => exact absurd rfl h1
  | bk => exact EndP.imp (out := .bk) k h1 h2 h3 h4
  | ct => exact EndP.imp (out := .ct) k h1 h2 h3 h4
  | rt o =>
    cases hc : isX o with
    | some c =>
      rw [EndX_x hc] at k ⊢
      exact k
    | none =>
      rw [EndX_n hc] at k ⊢
      exact EndP.imp (out := .rt o) k h1 h2 h3 h4
theorem EndX.of (h : ∀ o, out = .rt o → isX o = none) (k : EndX K cm B W Dn F H σ O env' out) : EndP K cm B Dn F H σ O env' out := by
  cases out with
  | nx => exact k
  | bk => exact k
  | ct => exact k
  | rt o => rw [EndX_n (h o rfl)] at k; exact k
end
def SmX (K : PySem.W.Frag) (cm : Cm) (B : List Nat) (tb : WX → TS) (g : G) : Prop := ∀ (W : WX) F H σ env O out env' (Dn : Ends), Sts K cm F H σ env O → g env = some (out, env') → EndX K cm B W Dn F H σ O env' out → tb W Dn σ H
structure DR (X : Cx) (cm : Cm) (B : List Nat) (st : Stmt) (tb : WX → TS) (g : G) : Prop where
  pe : ∀ W, L2.Takes X W → PS X st (tb W)
  sm : SmX X.K cm B tb g
structure DRs (X : Cx) (cm : Cm) (B : List Nat) (st : List Stmt) (tb : WX → TS) (g : G) : Prop where
  pe : ∀ W, L2.Takes X W → PSs X st (tb W)
  sm : SmX X.K cm B tb g
/-- no error leaves it -/
def gnoE (g : G) : G := fun env => (g env).bind fun q => match q.1 with
  | .rt o => if (isX o).isSome = true then none else some q
  | _ => some q
theorem gnoE_some {g : G} {env : Env} {out : Out} {env' : Env} (h : gnoE g env = some (out, env')) : g env = some (out, env') ∧ ∀ o, out = .rt o → isX o = none := by
  unfold gnoE at h
  obtain ⟨⟨o1, e1⟩, h1, h2⟩ := bind_some h
  cases o1 with
  | nx => cases h2; exact ⟨h1, fun o z => nomatch z⟩
  | bk => cases h2; exact ⟨h1, fun o z => nomatch z⟩
  | ct => cases h2; exact ⟨h1, fun o z => nomatch z⟩
  | rt o =>
    dsimp only at h2
    by_cases c : (isX o).isSome = true
    · rw [if_pos c] at h2; cases h2
    · rw [if_neg c] at h2
      cases h2
      refine ⟨h1, fun o' z => ?_⟩
      cases z
      cases q : isX o with
      | none => rfl
      | some y => rw [q] at c; exact absurd rfl c
theorem smx_of {K : PySem.W.Frag} {cm : Cm} {B : List Nat} {ts : TS} {g : G} (h : SmS K cm B ts g) : SmX K cm B (fun _ => ts) (gnoE g) := fun W F H σ env O out env' Dn s e k => by
  obtain ⟨e1, e2⟩ := gnoE_some e
  exact h F H σ env O out env' Dn s e1 (k.of e2)
theorem smx_seq {K : PySem.W.Frag} {cm : Cm} {B : List Nat} {t u : WX → TS} {g h : G} (h1 : SmX K cm B t g) (h2 : SmX K cm B u h) : SmX K cm B (fun W => tSeq (t W) (u W)) (gseq g h) := fun W F H σ env O out env' Dn s e k => by
  unfold gseq at e
  obtain ⟨⟨o1, env1⟩, e1, e⟩ := bind_some e
  cases o1 with
  | nx =>
    have e : h env1 = some (out, env') := e
    exact h1 W F H σ env O _ env1 _ s e1 fun F1 H1 σ1 O1 g1 s1 b1 => h2 W F1 H1 σ1 env1 O1 out env' Dn s1 e (k.go g1 b1)
  | bk =>
    have e : some (Out.bk, env1) = some (out, env') := e
    cases e
    exact h1 W F H σ env O _ _ _ s e1 (k.imp (fun z => nomatch z) rfl rfl rfl)
  | ct =>
    have e : some (Out.ct, env1) = some (out, env') := e
    cases e
    exact h1 W F H σ env O _ _ _ s e1 (k.imp (fun z => nomatch z) rfl rfl rfl)
  | rt o =>
    have e : some (Out.rt o, env1) = some (out, env') := e
    cases e
    exact h1 W F H σ env O _ _ _ s e1 (k.imp (fun z => nomatch z) rfl rfl rfl)
section
variable {X : Cx} {cm : Cm} {B : List Nat} {e a b c : Expr} {es : List Expr} {te ta : TE} {pos : Pos} {st : Stmt} {rest : List Stmt} {ts : TS} {t u : WX → TS} {g h : G}
theorem ps_nox {st : Stmt} {t : TS} (h : PS X.nox st t) : PS X st t := ⟨fun pins s σ H D I hw =>
  wpAny_mono (h.run pins s σ H D (I.wish _) hw) (fun _ _ q => q.unwish) fun _ _ z => False.elim z⟩
theorem dx_of (d : DS X.nox cm B st ts g) : DR X cm B st (fun _ => ts) (gnoE g) := ⟨fun _ _ => ps_nox d.pe, smx_of d.sm⟩
theorem dxs_of (d : DSs X.nox cm B rest ts g) : DRs X cm B rest (fun _ => ts) (gnoE g) := ⟨fun _ _ => d.pe.nox, smx_of d.sm⟩
theorem dxs_one (d : DR X cm B st t g) : DRs X cm B [st] t g := ⟨fun W tk => pss_one (d.pe W tk), d.sm⟩
theorem dxs_cons (d : DR X cm B st t g) (r : DRs X cm B rest u h) : DRs X cm B (st :: rest) (fun W => tSeq (t W) (u W)) (gseq g h) := ⟨fun W tk => pss_cons (d.pe W tk) (r.pe W tk), smx_seq d.sm r.sm⟩
theorem dx_if {tt : TT} {fc : M Bool} {sa sb : List Stmt} (hc : DT X cm c tt fc) (ha : DRs X cm B sa t g) (hb : DRs X cm B sb u h) : DR X cm B (.If c sa sb pos) (fun W => tIfS tt (t W) (u W)) (gif fc g h) := ⟨fun W tk => ps_if hc.pe (ha.pe W tk) (hb.pe W tk), fun W F H σ env O out env' Dn s e k => by
  obtain ⟨x, env1, e1, e⟩ := gm_some e
  refine hc.sm F H σ env O x _ _ s e1 fun F1 H1 O1 g1 s1 => ?_
  cases x with
  | true => rw [if_pos rfl] at e ⊢; exact ha.sm W F1 H1 σ env1 O1 out env' Dn s1 e (k.go g1 .refl)
  | false => rw [if_neg Bool.false_ne_true] at e ⊢; exact hb.sm W F1 H1 σ env1 O1 out env' Dn s1 e (k.go g1 .refl)⟩
def graise (c : Nat) : G := fun env => some (.rt (exO c), env)
/-- what the top has written of an error's class -/
structure ErC (K : PySem.W.Frag) (mg : Str → Option Value) (C : Addr) (x : Str) : Prop where
  q : PySem.W.excIn K C [.type "ValueError", .type "Exception", .type "BaseException", .type "object"] "ValueError.__new__" = true
  k : PySem.W.keepIn K (.ref C) = true
  b : PySem.W.subIn K (.ref C) (.type "BaseException") = some true
  t : PySem.W.typeIn K (.ref C) = some (.type "type")
  g : mg x = some (.ref C)
theorem dx_raise {x : Str} {p pos' : Pos} (n : Nat) (T : ErC X.K X.mg (cm n) x) (hc : X.calm = true := by rfl) (hg : Gl X x := by rfl) (hdb : (x == ("__debug__" : Str)) = false := by decide) :
    DR X cm B (.Raise (some (.Call (.Name x p) [] [] pos)) none pos') (fun W _ σ H => W (.ref (cm n)) none σ H) (graise n) := ⟨fun W tk => L2.ps_raise hc tk (pmk_own0 PySem.F.excBase_ValueError T.q T.g T.k (L2.raises_own T.b T.t) hg hdb), fun W F H σ env O out env' Dn s e k => by
  cases e
  rw [EndX_x (isX_ex n)] at k
  exact k F H σ O Go.refl s .refl⟩
end
/-! ### a def that may raise -/
def KoX (K : PySem.W.Frag) (cm : Cm) (F H : Hp) (σ : L2.St) (O : Nat → Rg) (env' : Env) (c : Er) (E : XK) : Prop := ∀ F' H' O', Go (Un O) F H (Un O') F' H' → Sts K cm F' H' σ env' O' → ErW K cm F' E H' c
def KoR (K : PySem.W.Frag) (cm : Cm) (F H : Hp) (σ : L2.St) (O : Nat → Rg) (env' : Env) (o : Od) (Q : VK) (E : XK) : Option Er → Prop
  | some c => KoX K cm F H σ O env' c E
  | none => Ko K cm F H σ O env' o Q
def KoE (K : PySem.W.Frag) (cm : Cm) (F H : Hp) (σ : L2.St) (O : Nat → Rg) (env' : Env) (o : Od) (Q : VK) (E : XK) : Prop := KoR K cm F H σ O env' o Q E (isX o)
theorem KoE_x {K : PySem.W.Frag} {cm : Cm} {F H : Hp} {σ : L2.St} {O : Nat → Rg} {env' : Env} {o : Od} {Q : VK} {E : XK} {c : Er} (h : isX o = some c) : KoE K cm F H σ O env' o Q E = KoX K cm F H σ O env' c E := by
  unfold KoE; rw [h]; rfl
theorem KoE_n {K : PySem.W.Frag} {cm : Cm} {F H : Hp} {σ : L2.St} {O : Nat → Rg} {env' : Env} {o : Od} {Q : VK} {E : XK} (h : isX o = none) : KoE K cm F H σ O env' o Q E = Ko K cm F H σ O env' o Q := by
  unfold KoE; rw [h]; rfl
def spX (K : PySem.W.Frag) (cm : Cm) (p : Fn) (n : Nat) : Sp := fun vs H Q E => vs.length = n ∧ ∃ F args O o args', Sts K cm F H (vs.map some) args O ∧ p args = some (o, args') ∧ KoE K cm F H (vs.map some) O args' o Q E
section
variable {P : Program} {w : World} {K : PySem.W.Frag} {mg : Str → Option Value} {base : Heap} {cm : Cm}
theorem fn_x {x qual : Str} {st : Stmt} {f : Addr} {fd : FuncData} {N ps : List Str} {k : Nat} {B : List Nat} {g : G} {p : Fn} {n : Nat} (Fu : Fun K x qual st f fd) (S : FnScope N ps (defScope st)) (hle : ps.length ≤ N.length) (hp : p = runD ps.length N.length B g) (hn : n = ps.length)
    (hbody : ∀ (cdv : Value) (A : Around) (outer : List PySem.Env) (s : Shared) (H : Hp) (E : XK), Room k (A.deeper (envOfC qual (defScope st) s.heap.objs.size f cdv)) → ∃ tb, DRs (cxOf (L2.CX P w) P w K mg base N qual (defScope st) f cdv A outer s H E) cm B (defBody st) tb g) :
    FnOk P w K mg base (L2.CX P w) (k + 1) f fd ps (spX K cm p n) := by
  subst hp hn
  refine Fu.okX S (fun vs H Q E h => h.1) fun cdv A outer s H vs Q E hr h => ?_
  obtain ⟨hl, F, args, O, o, args', s1, e, kk⟩ := h
  obtain ⟨tb, D⟩ := hbody cdv A outer s H E hr
  refine ⟨tb (fun cls d _ H' => E cls d H'), D.pe _ (L2.takes_of rfl rfl rfl rfl), ?_⟩
  unfold runD at e
  have ha : args.length = ps.length := by rw [← s1.len, List.length_map]; exact hl
  rw [if_pos ha] at e
  obtain ⟨⟨out, env1⟩, e1, e2⟩ := bind_some e
  have es : L2.start N vs = vs.map some ++ List.replicate (N.length - ps.length) none := by unfold L2.start; rw [hl]
  rw [es]
  refine D.sm _ F H _ _ O out env1 _ (s1.more (N.length - ps.length)) e1 ?_
  cases out with
  | nx =>
    have e2 : some ((.fd (.val .non) : Od), outA B args env1) = some (o, args') := e2
    cases e2
    have kk : Ko K cm F H (vs.map some) O (outA B args env1) (.fd (.val .non)) Q := kk
    intro F' H' σ' O' g' s' b'
    exact kk F' H' .non _ (fun _ => False) (g'.sub fun p z => z.elim False.elim un_sub) (s1.back s' b' g'.ff) (.fd (.val .non)) fun p z => z.elim
  | rt o1 =>
    have e2 : some (o1, outA B args env1) = some (o, args') := e2
    cases e2
    cases hc : isX o with
    | some c =>
      rw [KoE_x hc] at kk
      rw [EndX_x hc]
      intro F' H' σ' O' g' s' b'
      exact kk F' H' _ (g'.sub fun p z => un_sub z) (s1.back s' b' g'.ff)
    | none =>
      rw [KoE_n hc] at kk
      rw [EndX_n hc]
      intro F' H' σ' v O' R g' s' b' ow n
      exact kk F' H' v _ R (g'.sub fun p z => z.imp id un_sub) (s1.back s' b' g'.ff) ow fun p z => ⟨(n p z).1, (n p z).2.1, fun w => (n p z).2.2 (un_sub w)⟩
  | bk => cases e2
  | ct => cases e2
/-- where no error is let out -/
def noX (p : Fn) : Fn := fun args => (p args).bind fun r => if (isX r.1).isSome = true then none else some r
theorem noX_some {p : Fn} {args : Env} {r : Od × Env} (h : noX p args = some r) : p args = some r ∧ isX r.1 = none := by
  unfold noX at h
  obtain ⟨q, h1, h2⟩ := bind_some h
  by_cases c : (isX q.1).isSome = true
  · rw [if_pos c] at h2; cases h2
  · rw [if_neg c] at h2
    cases h2
    refine ⟨h1, ?_⟩
    cases z : isX r.1 with
    | none => rfl
    | some y => rw [z] at c; exact absurd rfl c
theorem fn_noX {k : Nat} {f : Addr} {fd : FuncData} {ps : List Str} {p : Fn} {n : Nat} (Fo : FnOk P w K mg base (L2.CX P w) k f fd ps (spX K cm p n)) (hn : n = ps.length) : FnOk P w K mg base CX0 k f fd ps (spD K cm (noX p) n) := by
  subst hn
  refine ⟨fun vs H Q E h => h.1, fun A outer s H args us vs Q E hr he hb hv h => ?_⟩
  obtain ⟨hl, F, as, O, o, args', s1, e, kk⟩ := h
  obtain ⟨e1, e2⟩ := noX_some e
  have := Fo.run A outer s H args us vs Q (fun _ _ _ => False) hr he hb hv ⟨hl, F, as, O, o, args', s1, e1, by rw [KoE_n e2]; exact kk⟩
  refine codeAny_mono this fun r s' h => ?_
  cases r with
  | ok fl => cases fl <;> exact h
  | error u =>
    obtain ⟨_, _, _, _, _, _, _, _, _, _, _, _, z⟩ := h
    exact z.elim
end
/-! ### a call that may raise, as a statement -/
def gexX (p : Fn) (n : Nat) (fa : M (List D)) : G := fun env => (fa env).bind fun q => if q.1.length = n then (p (vals q.1)).bind fun r => match isX r.1 with
    | some c => some (.rt c.od, q.2)
    | none => some (.nx, q.2)
  else none
section
variable {X : Cx} {cm : Cm} {B : List Nat} {e : Expr} {es : List Expr} {pos pp epos : Pos} {t : TA} {fa : M (List D)} {p : Fn} {n k : Nat} {f : Addr} {fd : FuncData} {ps : List Str} {x : Str}
theorem smx_callX (ha : SmA X.K cm t fa) : SmX X.K cm B (fun W => tDrop (tCallS (spX X.K cm p n) (WE W) t)) (gexX p n fa) := fun W F H σ env O out env' Dn s e k => by
  unfold gexX at e
  obtain ⟨⟨ds, env1⟩, e1, e⟩ := bind_some e
  dsimp only at e
  have hl : ds.length = n := by
    by_cases c : ds.length = n
    · exact c
    · rw [if_neg c] at e; cases e
  rw [if_pos hl] at e
  obtain ⟨⟨o1, args'⟩, e2, e3⟩ := bind_some e
  dsimp only at e3
  refine ha F H σ env O ds _ _ s e1 fun F1 H1 vs O1 g1 s1 r => ⟨by rw [r.len]; exact hl, F1, vals ds, _, o1, args', sts_vals s1.fh s1.mm r, e2, ?_⟩
  cases hc : isX o1 with
  | some c =>
    rw [hc] at e3
    cases e3
    rw [KoE_x hc]
    intro F2 H2 Oc g2 sc
    rw [EndX_x (isX_od c)] at k
    have g2' : Go (Un fun _ _ => False) F1 H1 (fun p => (fun _ : Addr => False) p ∨ Un Oc p) F2 H2 := g2.sub fun p z => z.elim False.elim id
    obtain ⟨s3, g3⟩ := s1.callV g2' sc.fh sc.mm
    exact k F2 H2 σ O1 (g1.trans (g3.sub fun p z => .inr z)) s3 .refl
  | none =>
    rw [hc] at e3
    cases e3
    rw [KoE_n hc]
    have kk : Ko X.K cm F1 H1 σ O1 env' o1 (fun _ H' => Dn.nx σ H') := fun F2 H2 v Oc R g2 s2 ow nw => k F2 H2 σ Oc (g1.trans (g2.sub fun p z => .inr z)) s2 .refl
    exact kk.callV s1
theorem dx_call (Fo : FnOk X.prog X.w X.K X.mg X.base (L2.CX X.prog X.w) k f fd ps (spX X.K cm p n)) (hr : Room k X.A) (hm : X.mg x = some (.ref f)) (hk : PySem.W.keepIn X.K (.ref f) = true) (hb : Binds X.K fd ps []) (ha : DA X cm (e :: es) t fa) (hg : Gl X x := by rfl) (hdb : (x == ("__debug__" : Str)) = false := by decide) (he : starEach (e :: es) X.env = (false, eval e X.env) :: starEach es X.env := by rfl) (hpl : (backTo pos (starEach es X.env)).any (·.1) = false := by rfl)
    (hs : swapsWith (.Call (.Name x pp) (e :: es) [] pos) none epos.line X.env = pure false := by rfl) :
    DR X cm B (.Expr (.Call (.Name x pp) (e :: es) [] pos) epos) (fun W => tDrop (tCallS (spX X.K cm p n) (WE W) t)) (gexX p n fa) := ⟨fun W tk => ps_expr (pe_callS Fo hr hg hm hk hb (fun σ => passAt tk σ) ha.pe hdb he hpl) hs, smx_callX ha.sm⟩
end
/-! ### try: .. except C: .. -/
def hand (c : Nat) : List (List Nat × G) → G
  | [] => fun _ => none
  | (cs, h) :: r => fun env => if c ∈ cs then h env else hand c r env
def gtry (ks : List Nat) (g : G) (hs : List (List Nat × G)) : G := fun env => (g env).bind fun q => match q.1 with
  | .rt o => match isX o with
    | some c => if c.d.isNone = true ∧ c.c ∈ ks then hand c.c hs q.2 else none
    | none => some q
  | _ => some q
inductive HdX (X : Cx) (cm : Cm) (B : List Nat) (ks : List Nat) : List ExceptHandler → List (Value × (Addr → Value → Option Addr → TS)) → List (List Nat × G) → Prop
  | nil : HdX X cm B ks [] [] []
  | cons {x : Str} {c : Value} {cs : List Nat} {ts : TS} {g : G} {b₀ : Stmt} {suite : List Stmt} {np pos' : Pos} {hds : List ExceptHandler} {l : List (Value × (Addr → Value → Option Addr → TS))} {hs : List (List Nat × G)} (hc : Names X x c)
      (hm : ∀ n ∈ ks, PySem.W.exmOne X.K (.ref (cm n)) c = some (decide (n ∈ cs))) (hsu : ∀ (a : Addr) (pn : List (Addr × Obj)), DSs (X.suite a pn) cm B (b₀ :: suite) ts g) (r : HdX X cm B ks hds l hs) :
      HdX X cm B ks (.ExceptHandler (some (.Name x np)) none (b₀ :: suite) pos' :: hds) ((c, fun _ _ _ => ts) :: l) ((cs, g) :: hs)
section
variable {X : Cx} {cm : Cm} {B ks : List Nat} {hds : List ExceptHandler} {l : List (Value × (Addr → Value → Option Addr → TS))} {hs : List (List Nat × G)}
theorem HdX.ok (h : HdX X cm B ks hds l hs) : HdsOk X hds l := by
  induction h with
  | nil => exact .nil
  | cons hc hm hsu r ih => exact .cons hc (fun a oe cls d pn _ _ => (hsu a _).pe) ih
theorem HdX.go (h : HdX X cm B ks hds l hs) {n : Nat} (hn : n ∈ ks) {Dn : Ends} {F H : Hp} {σ : L2.St} {env : Env} {O : Nat → Rg} {out : Out} {env' : Env} (s : Sts X.K cm F H σ env O) (e : hand n hs env = some (out, env')) (k : EndP X.K cm B Dn F H σ O env' out) :
    wMany X.K (fun _ _ _ _ => False) Dn l (.ref (cm n)) none σ H := by
  induction h with
  | nil => cases e
  | @cons x c cs ts g b₀ suite np pos' hds l hs hc hm hsu r ih =>
    refine ⟨_, hm n hn, fun z a _ => ?_, fun z => ?_⟩
    · have z := of_decide_eq_true z
      have e : (if n ∈ cs then g env else hand n hs env) = some (out, env') := e
      rw [if_pos z] at e
      exact (hsu a []).sm F H σ env O out env' Dn s e k
    · have z := of_decide_eq_false z
      have e : (if n ∈ cs then g env else hand n hs env) = some (out, env') := e
      rw [if_neg z] at e
      exact ih e
/-- which errors a clause takes -/
theorem exm_of {K : PySem.W.Frag} {S D : Addr} {b : Bool} (h1 : PySem.W.subIn K (.ref D) (.type "BaseException") = some true) (h2 : PySem.W.isClsIn K D = true) (h3 : PySem.W.typeIn K (.ref D) = some (.type "type")) (h4 : PySem.W.subIn K (.ref S) (.ref D) = some b) :
    PySem.W.exmOne K (.ref S) (.ref D) = some b := by
  unfold PySem.W.exmOne PySem.W.kitCls
  have h2 : (PySem.W.clsIn K D).isSome = true := h2
  simp [h1, h2, h3, h4]
end
/-! ### min(list) -/
end DL

/-! The data layer: x in l, where the items are data of any depth. -/
namespace DL
open PySem PySem.Spec PyProof.Rows L2
def lstF : Fd → Option (List D)
  | .val (.lst xs) => some xs
  | .lst xs => some xs
  | _ => none
section
variable {K : PySem.W.Frag} {cm : Cm} {F H : Hp}
end
def inPD (neg : Bool) (a : D) (x : Fd) : Option D := (toP a).bind fun p => (lstF x).bind fun ds => (toPs ds).bind fun ps =>
  if (SeqAt.shaped p && SeqAt.shaped (.list ps)) = true then some (.bl (if neg = true then !ps.any fun z => PyData.eqv z p else ps.any fun z => PyData.eqv z p)) else none
section
variable {X : Cx} {cm : Cm} {e a b c : Expr} {te ta tb tc : TE} {pos : Pos} {fa : M D} {fx : P Fd}
def minP (neg : Bool) (fa : M D) (fx : P Fd) : M D := mb fa fun a => pu fun env => (fx env).bind fun x => inPD neg a x
end
end DL

/-! The data layer: for with what may raise, an assignment of what may raise, try .. except X as e, two items exchanged. -/
namespace DL
open PySem PySem.Spec PyProof.Rows L2
/-! ### for -/
section
variable {X : Cx} {cm : Cm} {B : List Nat} {tg iter : Expr} {pos : Pos}
end
/-! ### expressions that may raise -/
abbrev XR := Er ⊕ Od
def XeP (K : PySem.W.Frag) (cm : Cm) (W : WX) (F H : Hp) (σ : L2.St) (O : Nat → Rg) (env' : Env) (c : Er) : Prop := ∀ F' H' O', Go (Un O) F H (Un O') F' H' → Sts K cm F' H' σ env' O' → ErW K cm F' (fun cl d H => W cl d σ H) H' c
def EndE (K : PySem.W.Frag) (cm : Cm) (W : WX) (F H : Hp) (σ : L2.St) (O : Nat → Rg) (env' : Env) (Q : VK) : XR → Prop
  | .inl c => XeP K cm W F H σ O env' c
  | .inr o => Ko K cm F H σ O env' o Q
abbrev ME := Env → Option (XR × Env)
structure DXE (X : Cx) (cm : Cm) (e : Expr) (te : WX → TE) (f : ME) : Prop where
  pe : ∀ W, L2.Takes X W → PE X e (te W)
  sm : ∀ (W : WX) F H σ env O r env' Q, Sts X.K cm F H σ env O → f env = some (r, env') → EndE X.K cm W F H σ O env' Q r → te W σ H Q
def mxc (p : Fn) (n : Nat) (fa : M (List D)) : ME := fun env => (fa env).bind fun q => if q.1.length = n then (p (vals q.1)).map fun r => ((match isX r.1 with
    | some c => .inl c
    | none => .inr r.1), q.2)
  else none
def mxt (d0 : D) (f : ME) : ME := fun env => (f env).map fun q => ((match q.1 with
    | .inl c => .inl c
    | .inr o => .inr (.fd (.val (.tup [d0, o.frz])))), q.2)
def gstE (i : Nat) (f : ME) : G := fun env => (f env).bind fun q => match q.1 with
    | .inl c => some (.rt c.od, q.2)
    | .inr o => if i < q.2.length then some (.nx, q.2.set i (some o)) else none
section
variable {X : Cx} {cm : Cm} {B : List Nat} {e e0 : Expr} {es : List Expr} {pos pp epos : Pos} {t : TA} {fa : M (List D)} {p : Fn} {n k : Nat} {f : Addr} {fd : FuncData} {ps : List Str} {x : Str}
theorem xe_call (Fo : FnOk X.prog X.w X.K X.mg X.base (L2.CX X.prog X.w) k f fd ps (spX X.K cm p n)) (hr : Room k X.A) (hm : X.mg x = some (.ref f)) (hk : PySem.W.keepIn X.K (.ref f) = true) (hb : Binds X.K fd ps []) (ha : DA X cm (e :: es) t fa) (hg : Gl X x := by rfl) (hdb : (x == ("__debug__" : Str)) = false := by decide) (he : starEach (e :: es) X.env = (false, eval e X.env) :: starEach es X.env := by rfl) (hpl : (backTo pos (starEach es X.env)).any (·.1) = false := by rfl) :
    DXE X cm (.Call (.Name x pp) (e :: es) [] pos) (fun W => tCallS (spX X.K cm p n) (WE W) t) (mxc p n fa) := ⟨fun W tk => pe_callS Fo hr hg hm hk hb (fun σ => passAt tk σ) ha.pe hdb he hpl, fun W F H σ env O r env' Q s e k => by
  unfold mxc at e
  obtain ⟨⟨ds, env1⟩, e1, e⟩ := bind_some e
  dsimp only at e
  have hl : ds.length = n := by
    by_cases c : ds.length = n
    · exact c
    · rw [if_neg c] at e; cases e
  rw [if_pos hl] at e
  obtain ⟨⟨o1, args'⟩, e2, e3⟩ := map_some e
  refine ha.sm F H σ env O ds _ _ s e1 fun F1 H1 vs O1 g1 s1 r1 => ⟨by rw [r1.len]; exact hl, F1, vals ds, _, o1, args', sts_vals s1.fh s1.mm r1, e2, ?_⟩
  cases hc : isX o1 with
  | some c =>
    dsimp only at e3
    rw [hc] at e3
    cases e3
    rw [KoE_x hc]
    intro F2 H2 Oc g2 sc
    have g2' : Go (Un fun _ _ => False) F1 H1 (fun p => (fun _ : Addr => False) p ∨ Un Oc p) F2 H2 := g2.sub fun p z => z.elim False.elim id
    obtain ⟨s3, g3⟩ := s1.callV g2' sc.fh sc.mm
    exact k F2 H2 O1 (g1.trans (g3.sub fun p z => .inr z)) s3
  | none =>
    dsimp only at e3
    rw [hc] at e3
    cases e3
    rw [KoE_n hc]
    have kk : Ko X.K cm F H σ O env' o1 Q := k
    exact (kk.go g1).callV s1⟩
theorem dx_setE {i : Nat} {x : Str} {pos' : Pos} {te : WX → TE} {f : ME} (h : DXE X cm e te f) (hN : X.N.Nodup) (hB : i ∉ B := by decide) (hi : X.N[i]? = some x := by rfl) (hx : Loc X.env.scope x := by first | exact .inl rfl | exact .inr rfl) (hs : swapsWith e (some (.Name x pos')) pos.line X.env = pure false := by rfl) (hf : X.fn x = true ∨ X.env.scope.names.lookup x = some .local := by first | exact .inl rfl | exact .inr rfl | assumption) :
    DR X cm B (.Assign [.Name x pos'] e pos) (fun W => tAsg (te W) (gName i)) (gstE i f) := ⟨fun W tk => ps_set hN hi hx (h.pe W tk) hs hf, fun W F H σ env O out env' Dn s e k => by
  unfold gstE at e
  obtain ⟨⟨r, env1⟩, e1, e2⟩ := bind_some e
  cases r with
  | inl c =>
    cases e2
    rw [EndX_x (isX_od c)] at k
    exact h.sm W F H σ env O _ _ _ s e1 fun F' H' O' g s' => k F' H' σ O' g s' .refl
  | inr o =>
    dsimp only at e2
    obtain ⟨hi, e3⟩ := ite_some e2
    cases e3
    refine h.sm W F H σ env O _ _ _ s e1 ?_
    show Ko _ _ _ _ _ _ _ _ _
    intro F' H' v O' R g s' ow n
    obtain ⟨O2, s2, sub⟩ := s'.seto (i := i) hi ow n
    exact k F' H' _ O2 (g.sub sub) s2 (.set hB)⟩
theorem xe_callT {pn : List (Addr × Obj)} {xe : Value → Shared → Prop} (Fo : FnOk X.prog X.w X.K X.mg X.base (L2.CX X.prog X.w) k f fd ps (spX X.K cm p n)) (hr : Room k X.A) (hm : X.mg x = some (.ref f)) (hk : PySem.W.keepIn X.K (.ref f) = true) (hb : Binds X.K fd ps []) (ha : DA (X.tr pn xe) cm (e :: es) t fa) (hg : Gl X x := by rfl) (hdb : (x == ("__debug__" : Str)) = false := by decide) (he : starEach (e :: es) X.env = (false, eval e X.env) :: starEach es X.env := by rfl) (hpl : (backTo pos (starEach es X.env)).any (·.1) = false := by rfl) :
    DXE (X.tr pn xe) cm (.Call (.Name x pp) (e :: es) [] pos) (fun W => tCallS (spX X.K cm p n) (WE W) t) (mxc p n fa) := xe_call (X := X.tr pn xe) Fo hr hm hk hb ha hg hdb he hpl
end
/-! ### try: .. except X as e: one statement -/
section
variable {K : PySem.W.Frag} {cm : Cm} {F H : Hp} {σ : L2.St} {env : Env} {O : Nat → Rg}
theorem sts_hide (s : Sts K cm F H σ env O) (i : Nat) (v : Option V) : Sts K cm F H (σ.set i v) (env.set i none) O := by
  refine ⟨s.fh, by rw [List.length_set, List.length_set]; exact s.len, fun j o e => ?_, s.ow, s.dj, s.mm⟩
  by_cases c : i = j
  · subst c
    rw [List.getElem?_set] at e
    rw [if_pos rfl] at e
    split at e <;> cases e
  · rw [List.getElem?_set_ne c] at e ⊢
    exact s.at_ j o e
end
section
variable {X : Cx} {cm : Cm} {B : List Nat} {i j : Nat} {ks : List Nat} {e e2 e0 : Expr} {pos p p1 p2 : Pos} {te te2 : Addr → Nat → TE} {b b2 : Nat → Bool} {rest : List Expr}
end
/-! ### l[a], l[b] = e1, e2 -/
def gsw (j : Nat) (fa fb : P D) (f : M (List D)) : G := fun env => (f env).bind fun q => match q.1 with
  | [d1, d2] => (lstAt j q.2).bind fun ds => (fa q.2).bind fun a => (toI a).bind fun za => (ixN ds.length za).bind fun na =>
    let env1 := q.2.set j (some (.fd (.lst (ds.set na d1))))
    (fb env1).bind fun b => (toI b).bind fun zb => (ixN ds.length zb).map fun nb => (.nx, q.2.set j (some (.fd (.lst ((ds.set na d1).set nb d2)))))
  | _ => none
section
variable {X : Cx} {cm : Cm} {B : List Nat} {a b e1 e2 : Expr} {ta tb : TE} {fa fb : P D} {t : TA} {f : M (List D)} {pos : Pos}
end
/-! ### x in a list that is told -/
end DL

/-! The data layer: a list of one's own compared with what is told anew, walked by a comprehension; it stays one's own. -/
namespace DL
open PySem PySem.Spec PyProof.Rows L2
/-! ### x == e: x is looked at only -/
def mcLE (i : Nat) (g : D → D → Option D) (fb : M D) : M D := fun env => ((env[i]?).join).bind fun _ => (fb env).bind fun q => (px i q.2).bind fun x => (thaw x).bind fun a => (g a q.1).bind fun d => (onlyB d).map fun d => (d, q.2)
section
variable {X : Cx} {cm : Cm} {b : Expr} {tb : TE} {pos : Pos} {fb : M D}
end
/-! ### [e for y in x] -/
section
variable {K : PySem.W.Frag} {cm : Cm} {F H F1 H1 : Hp} {σ : L2.St} {env : Env} {O O1 : Nat → Rg}
end
def mlcV (i n : Nat) (vs : List Nat) (tg : Tg) (ft : M Bool) (fe : M D) : M Od := fun env => match env[i]? with
  | some (some (.fd (.lst ds))) => if env.length = n then (lcD vs tg ft fe ds [] (wipeE (env.set i none) vs)).map fun r => (.fd (.lst r.1), (restE (env.set i none) vs r.2).set i (some (.fd (.lst ds)))) else none
  | _ => none
section
variable {X : Cx} {cm : Cm} {elt tg iter c : Expr} {ifs : List Expr} {scope : Scope} {own : List (Str × Nat)} {pos : Pos} {wi : TI} {g : TG} {tt : TT} {te : TE} {tgd : Tg} {ft : M Bool} {fe : M D}
end
end DL

/-! The data layer: repr(e) of plain data, in the law itself. -/
namespace DL
open PySem PySem.Spec PyProof.Rows L2
section
variable {P : Program} {w : World} {K : PySem.W.Frag} {mg : Str → Option Value} {base : Heap} {cm : Cm}
/-- what the law's own def promises where nothing runs below it -/
structure RunG (P : Program) (w : World) (K : PySem.W.Frag) (mg : Str → Option Value) (base : Heap) (f : Addr) (fd : FuncData) (ps : List Str) (sp : Sp) : Prop where
  run : ∀ (s : Shared) (H : Hp) (args : Args) (us : List Value) (vs : List V) (Q : VK) (E : XK), Env0 P w K mg base callerA [] s H → BindsTo s fd args (ps.zip us) → Vals vs us → sp vs H Q E → codeAny (model P w) callerA (.call (.ref f) args) (CR CX0 [] P w H s Q E) s
theorem RunG.imp {f : Addr} {fd : FuncData} {ps : List Str} {sp sp' : Sp} (F : RunG P w K mg base f fd ps sp) (h : ∀ vs H Q E, sp' vs H Q E → sp vs H Q E) : RunG P w K mg base f fd ps sp' :=
  ⟨fun s H args us vs Q E e b r q => F.run s H args us vs Q E e b r (h vs H Q E q)⟩
end
/-! ### repr(e) -/
def okR (p : PyData) : Bool := p.showable && !p.hasDict && decide (p.depth ≤ 60) && decide (p.shown.length ≤ sizeLine)
def reprD : D → Option D
  | .lst xs => (toP (.lst xs)).bind fun p => if okR p = true then some (.str p.shown) else none
  | .tup xs => (toP (.tup xs)).bind fun p => if okR p = true then some (.str p.shown) else none
  | _ => none
section
variable {X : Cx} {cm : Cm} {a : Expr} {ta : TE} {fa : M D} {fx : P Fd} {p pos : Pos}
def preprL (fx : P Fd) : P D := fun env => (fx env).bind fun x => (thaw x).bind reprD
end
end DL

/-! The data layer: dict.update; a dict that two objects share; walks over its items; defs that only look. -/
namespace DL
open PySem PySem.Spec PyProof.Rows L2
/-! ### d.update(e), d of one's own in slot i, ints or texts as keys -/
def mergeD (ks more : List (L2.Key × D)) : List (L2.Key × D) := more.foldl (fun acc kv => dput acc kv.1 kv.2) ks
def updL (x : Fd) (ds : List D) : Option (List (L2.Key × D)) := match x, ds with
  | .dik ks, [.dik ms] => if ks.length + ms.length ≤ 16777216 then some (mergeD ks ms) else none
  | _, _ => none
def isDik : Fd → Bool
  | .dik _ => true
  | _ => false
def mupd (i : Nat) (fa : M (List D)) : M D := fun env => (px i env).bind fun x0 => if isDik x0 = true then (fa env).bind fun q => (px i q.2).bind fun x => (updL x q.1).map fun r => (.non, q.2.set i (some (.fd (.dik r)))) else none
section
variable {X : Cx} {cm : Cm} {e : Expr} {t : TA} {fa : M (List D)} {i : Nat} {x : Str} {pn ap cp : Pos}
end
end DL

/-! The data layer: a dict that two objects share; walks over its items; defs that only look. -/
namespace DL
open PySem PySem.Spec PyProof.Rows L2
/-! ### o.f, a dict of o's own: from now on it is a datum, locked -/
section
variable {K : PySem.W.Frag} {cm : Cm} {F H : Hp}
end
def mlkf (j : Nat) (n : Str) : M D := fun env => match env[j]? with
  | some (some (.obj c gs)) => match gs.lookup n with
    | some (.dik ks) => some (.lik ks, env.set j (some (.obj c (putG n (.val (.lik ks)) gs))))
    | _ => none
  | _ => none
section
variable {X : Cx} {cm : Cm} {x n : Str} {p1 pos : Pos}
end
/-! ### for k, v in e.items(), e a locked datum -/
def itI (fx : P Fd) : M (List D) := fun env => match fx env with
  | some (.val (.lik ks)) => some (ks.map fun q => .tup [kD q.1, q.2], env)
  | _ => none
section
variable {X : Cx} {cm : Cm} {e : Expr} {te : TE} {fx : P Fd}
end
/-! ### defs that only look -/
section
variable {Pg : Program} {w : World} {K : PySem.W.Frag} {mg : Str → Option Value} {base : Heap} {cm : Cm}
end
/-- o.m(e, ..), m a def that only looks, o in slot i -/
def ppm (m : Str) (cl i : Nat) (p : Env → Option D) (fa : P (List D)) : P D := fun env => ((env[i]?).join).bind fun o => if noM m cl o = true then (fa env).bind fun ds => p (some o :: vals ds) else none
def pnil : P (List D) := fun _ => some []
def pcons (f : P D) (g : P (List D)) : P (List D) := fun env => (f env).bind fun d => (g env).map fun ds => d :: ds
section
variable {X : Cx} {cm : Cm} {a : Expr} {es : List Expr} {ta : TE} {t : TA} {fa : P D} {fs : P (List D)} {k : Nat} {f : Addr} {fd : FuncData} {ps : List Str} {p : Env → Option D} {m : Str} {n : Nat}
end
end DL

/-! The data layer: o.f.append(tuple([x for x in r if t])), t looks only. -/
namespace DL
open PySem PySem.Spec PyProof.Rows L2
section
variable {K : PySem.W.Frag} {cm : Cm} {F H : Hp}
end
section
variable {X : Cx} {cm : Cm} {K : PySem.W.Frag}
end
section
variable {X : Cx} {cm : Cm} {scope : Scope} {p1 p2 p3 p4 p5 p6 p7 p8 p9 : Pos} {x y z n : Str} {test : Expr} {fq : P Bool}
end
end DL

/-! The data layer: list(d) of a dict with tuples for keys. -/
namespace DL
open PySem PySem.Spec PyProof.Rows L2
section
variable {K : PySem.W.Frag} {cm : Cm}
end
end DL

/-! The data layer: E.append(x), E a list that was just made. -/
namespace DL
open PySem PySem.Spec PyProof.Rows L2
section
variable {K : PySem.W.Frag} {cm : Cm} {F H F1 H1 : Hp} {σ : L2.St} {env : Env} {O O1 : Nat → Rg} {S R : Rg}
end
section
variable {X : Cx} {cm : Cm} {a b : Expr} {ta tb : TE} {fo : M Od} {fb : P D} {ap cp : Pos}
end
end DL

/-! The data layer: [f0, f1, f2][i](e, ..), a call through a list of defs. -/
namespace DL
open PySem PySem.Spec PyProof.Rows L2
section
variable {X : Cx} {CX : CXT} {k : Nat} {fe e : Expr} {es : List Expr} {tf : TE} {t : TA} {E : L2.St → XK} {S : Addr → Sp → Prop} {pos : Pos}
end
def S3 (f : Fn → Sp) (a0 a1 a2 : Addr) (p0 p1 p2 : Fn) (a : Addr) (sp : Sp) : Prop := (a = a0 ∧ sp = f p0) ∨ (a = a1 ∧ sp = f p1) ∨ (a = a2 ∧ sp = f p2)
section
variable {K : PySem.W.Frag} {cm : Cm} {F H : Hp} {σ : L2.St} {env : Env} {O : Nat → Rg} {a0 a1 a2 : Addr} {p0 p1 p2 p : Fn} {i : Nat} {d : D} {z : Int} {fsp : Fn → Sp} {t : TA} {E : L2.St → XK} {Q : VK}
end
section
variable {X : Cx} {cm : Cm} {B : List Nat} {e : Expr} {es : List Expr} {t : TA} {fa : M (List D)} {p0 p1 p2 : Fn} {n k k0 k1 k2 i : Nat} {a0 a1 a2 : Addr} {f0 f1 f2 : FuncData} {ps0 ps1 ps2 : List Str} {x0 x1 x2 y : Str} {q0 q1 q2 qy lp sp_ pos epos : Pos}
end
end DL
namespace DL
open PySem PySem.Spec PyProof.Rows L2
section
variable {X : Cx} {cm : Cm} {B : List Nat} {e : Expr} {es : List Expr} {t : TA} {fa : M (List D)} {p0 p1 p2 : Fn} {n k : Nat} {a0 a1 a2 : Addr} {f0 f1 f2 : FuncData} {ps0 ps1 ps2 : List Str} {x0 x1 x2 y : Str} {q0 q1 q2 qy lp sp_ pos epos : Pos}
end
end DL

/-! The data layer: a tuple compared with an instance of an own class (its __eq__, turned). -/
namespace GQ
open PySem PySem.Spec PyProof.Rows
section
variable {prog : Program} {w : World} {A : Around} {R : Except Value Flow → Shared → Prop}
end
end GQ
namespace DL
open PySem PySem.Spec PyProof.Rows L2
section
variable {X : Cx} {cm : Cm}
end
end DL

/-! The data layer: l.count(x) of a list of data of any depth. -/
namespace L2
open PySem PySem.Spec PyProof.Rows
section
variable {X : Cx}
end
end L2
namespace DL
open PySem PySem.Spec PyProof.Rows L2
/-! ### try: .. except X as e: several statements; slot m is left unknown, slot j holds what is told -/
section
variable {X : Cx} {cm : Cm} {B : List Nat} {i j m : Nat} {ks : List Nat} {pos : Pos}
end
end DL

/-! x in d.values(), d a dict of ints; dict(d). -/
namespace PySem
namespace OVI
open PySem.Spec PyProof.Rows
section
variable {prog : Program} {w : World} {A : Around} {R : Result → Shared → Prop}
end
section
variable {prog : Program} {w : World} {A : Around} {E : Value → Shared → Prop} {s : Shared}
end
end OVI
end PySem
namespace L2
open PySem PySem.Spec PyProof.Rows
section
variable {X : Cx} {o i : Expr} {ty td : TE} {apos cpos : Pos}
end
end L2
namespace DL
open PySem PySem.Spec PyProof.Rows L2
/-! ### x in d.values() -/
def valsF : Fd → Option (List Int)
  | .dik ks => toInts (ks.map (·.2))
  | .val (.dik ks) => toInts (ks.map (·.2))
  | _ => none
def pvi (neg : Bool) (fx : P Fd) (fb : P D) : P D := fun env => (fb env).bind fun k => (fx env).bind fun x => (valsF x).bind fun ns => match k with
  | .int n => some (.bl (if neg = true then !decide (n ∈ ns) else decide (n ∈ ns)))
  | _ => none
section
variable {X : Cx} {cm : Cm} {a b : Expr} {ta tb : TE} {fx : P Fd} {fb : P D} {pos apos cpos : Pos}
end
/-! ### dict(d) -/
def dictD : List D → Option Od
  | [.dik ks] => some (.fd (.dik ks))
  | _ => none
end DL

/-! The data layer: repr(e) of None, ints, texts, an empty dict, besides lists and tuples. -/
namespace DL
open PySem PySem.Spec PyProof.Rows L2
section
variable {X : Cx} {cm : Cm} {a : Expr} {ta : TE} {fa : M D} {p pos : Pos}
end
end DL

/-! The data layer: d.setdefault(k, v), d of one's own, ints or texts as keys. -/
namespace DL
open PySem PySem.Spec PyProof.Rows L2
section
variable {X : Cx} {cm : Cm} {b e : Expr} {tb te : TE} {fk fv : M D} {i : Nat} {x : Str} {pn ap cp : Pos}
end
end DL
namespace DL
open PySem PySem.Spec PyProof.Rows L2
/-! ### dict(l), l a list of pairs -/
end DL

/-! The data layer: sorted(e), e a list of tuples of ints of any size below 2^30. -/
namespace DL
open PySem PySem.Spec PyProof.Rows L2
end DL

/-! The data layer: four names as a target. -/
namespace DL
open PySem PySem.Spec PyProof.Rows L2
end DL

/-! The data layer: l * k, l a list. -/
namespace DL
open PySem PySem.Spec PyProof.Rows L2
def mulL : D → D → Option D
  | .lst xs, .int k => if 0 ≤ k ∧ k ≤ 1000 ∧ xs.length ≤ 1000 then some (.lst (List.replicate k.toNat xs).flatten) else none
  | _, _ => none
theorem sr_mulL {K : PySem.W.Frag} {cm : Cm} : SmR2 K cm rRep mulL := fun F H σ env O x y a b d Q s ra rb e k => by
  unfold mulL at e
  split at e
  · rename_i xs i
    obtain ⟨⟨c1, c2, c3⟩, e⟩ := ite_some e
    cases e
    cases rb
    cases ra with
    | lst h r =>
      rename_i p vs
      have hl := r.len
      have h1 : i.toNat ≤ 1000 := by omega
      have h2 : vs.length * i.toNat ≤ 1000 * 1000 := Nat.mul_le_mul (by omega) h1
      have h3 : 1000 * 1000 ≤ sizeLine := by decide
      refine ⟨p, i, vs, rfl, rfl, s.fh.at h, by omega, by omega, by omega, fun q hq => ?_⟩
      exact k.alloc s hq fun F' sm e => .lst e ((r.rep i.toNat).mono sm)
  · cases e
section
variable {X : Cx} {cm : Cm} {a b : Expr} {ta tb : TE} {pos : Pos} {fa fb : M D}
theorem de_mulL (ha : DE X cm a ta fa) (hb : DE X cm b tb fb) : DE X cm (.BinOp a .Mult b pos) (tOp rRep ta tb) (m2 mulL fa fb) := de_op op_rep sr_mulL ha hb
end
end DL

/-! The data layer: x in t, t a tuple, where the items are data of any depth. -/
namespace DL
open PySem PySem.Spec PyProof.Rows L2
def tupF : Fd → Option (List D)
  | .val (.tup xs) => some xs
  | _ => none
section
variable {K : PySem.W.Frag} {cm : Cm} {F H : Hp}
end
def inPT (neg : Bool) (a : D) (x : Fd) : Option D := (toP a).bind fun p => (tupF x).bind fun ds => (toPs ds).bind fun ps =>
  if (SeqAt.shaped p && SeqAt.shaped (.tuple ps)) = true then some (.bl (if neg = true then !ps.any fun z => PyData.eqv z p else ps.any fun z => PyData.eqv z p)) else none
section
variable {X : Cx} {cm : Cm} {e a b c : Expr} {te ta tb tc : TE} {pos : Pos} {fa : M D} {fx : P Fd}
def minPT (neg : Bool) (fa : M D) (fx : P Fd) : M D := mb fa fun a => pu fun env => (fx env).bind fun x => inPT neg a x
end
end DL

/-! The data layer: a < b for data of any depth that are alike (tuples of numbers and of tuples). -/
namespace DL
open PySem PySem.Spec PyProof.Rows L2
end DL

/-! The data layer: rows[b].pop(a), rows a list of lists of one's own in slot i. -/
namespace DL
open PySem PySem.Spec PyProof.Rows L2
section
variable {X : Cx} {cm : Cm} {b e : Expr} {tb : TE} {t : TA} {fb : M D} {fa : M (List D)} {i : Nat}
end
section
variable {X : Cx} {cm : Cm} {b e : Expr} {tb : TE} {x : Str} {pn ap cp p2 : Pos} {t : TA} {fb : M D} {fa : M (List D)} {i : Nat}
end
end DL

/-! The data layer: dicts whose keys are tuples: compared, copied. -/
namespace PySem
open W
section
variable {prog : Program} {w : World} {K : Type} [DecidableEq K] {knd : HeapKind prog w K} {A : Around} {E : Value → Shared → Prop} {s : Shared}
end
end PySem

namespace L2
open PySem PySem.Spec PyProof.Rows
section
variable {X : Cx}
theorem KT.mem {H : Hp} {kvs : List (List Key × V)} {xs : List (List Key × Addr × Value)} (r : KT H kvs xs) : ∀ x ∈ xs, ∃ p ∈ kvs, p.1 = x.1 ∧ RelV p.2 x.2.2 := by
  induction r with
  | nil => intro x hx; exact nomatch hx
  | @cons p q ps qs h t ih =>
    intro x hx
    rcases List.mem_cons.mp hx with e | hx
    · subst e
      exact ⟨p, List.mem_cons_self, h.1, h.2.2⟩
    · obtain ⟨p', h1, h2⟩ := ih x hx
      exact ⟨p', List.mem_cons_of_mem _ h1, h2⟩
/-! dict(d), keys that are tuples of ints -/
end
end L2

namespace DL
open PySem PySem.Spec PyProof.Rows L2
section
variable {K : PySem.W.Frag} {cm : Cm} {F H : Hp}
end
/-! dict(d) -/
end DL

/-! dict(xs), xs a list of pairs whose keys are tuples -/
namespace L2
open PySem PySem.Spec PyProof.Rows
section
variable {X : Cx}
end
end L2

namespace DL
open PySem PySem.Spec PyProof.Rows L2
end DL

/-! len(d), the keys tuples -/
namespace DL
open PySem PySem.Spec PyProof.Rows L2
end DL

/-! The data layer: sorted(e), e a list of tuples of any depth that are alike. -/
namespace L2
open PySem PySem.Spec PyProof.Rows
section
variable {X : Cx}
end
end L2
namespace DL
open PySem PySem.Spec PyProof.Rows L2
end DL

/-! The data layer: sorted(d), d a dict whose keys are tuples of ints; d.update(e) of such dicts. -/
namespace L2
open PySem PySem.Spec PyProof.Rows
def kP : Key → PyData
  | .inl i => .int i
  | .inr x => .str x
abbrev kd (k : List Key) : PyData := .tuple (k.map kP)
section
variable {X : Cx}
end
end L2
namespace DL
open PySem PySem.Spec PyProof.Rows L2
end DL
/-! d.update(e), the keys tuples -/
namespace DL
open PySem PySem.Spec PyProof.Rows L2
section
variable {X : Cx} {cm : Cm} {e : Expr} {t : TA} {fa : M (List D)} {i : Nat} {x : Str} {pn ap cp : Pos}
end
end DL

/-! The data layer: return of what may raise; a call whose first argument may raise. -/
namespace DL
open PySem PySem.Spec PyProof.Rows L2
section
variable {X : Cx} {cm : Cm} {B : List Nat} {e : Expr} {es : List Expr} {pos pp : Pos} {t : TA} {te : WX → TE} {fe : ME} {fa : M (List D)} {p : Fn} {n k : Nat} {f : Addr} {fd : FuncData} {ps : List Str} {x : Str}
end
end DL

/-! The data layer: errors that carry fields; __init__ with super().__init__(..) over ValueError's. -/
namespace DL
open PySem PySem.Spec PyProof.Rows L2 NdefX
/-- what is written of such an __init__ and of its class -/
structure SupC (P : Program) (K : PySem.W.Frag) (C fI cc : Addr) (F : NF) (fd : FuncData) : Prop where
  fn : ∃ oc od osl, K.lookup fI = some ⟨oc, od, .func fd, osl⟩
  fb : fd.body = .stmts F.body
  fs : fd.scope = F.scope
  fq : fd.qualname = F.qual
  fc : fd.code = .ref F.c
  fp : fd.params = F.params
  env : ∀ L, callEnv fd L fI = envF F fI L
  cl : F.cl = [(("__class__" : Str), cc)]
  code : PySem.W.codeIn K (.ref F.c) F.qual = true
  file : ∃ oc cdd vs ccs file tf, K.lookup F.c = some ⟨oc, cdd, .fields vs, ccs⟩ ∧ vs[2]? = some (.str file tf) ∧ ((P.main.file : Str) == file) = true
  cell : ∃ oc cld csl, K.lookup cc = some ⟨oc, cld, .cell (some (.ref C)), csl⟩
  cls : ∃ cd, PySem.W.clsIn K C = some cd ∧ PySem.W.alongIn K "__init__" ((cd.mro.dropWhile (· != .ref C)).drop 1) = some (some (.builtin "ValueError.__init__"))
  self : PySem.W.mroIn K C (.ref C) = some true
  vE : PySem.W.subIn K (.ref C) (.type "ValueError") = some true
  sup : PySem.W.nsIn K mainGlobals "super" = some none
  any : PySem.W.nsIn K cStatics "thirdparty.any" = some none
  top : (P.main.scope.names.lookup ("super" : Str)).isSome = false
  ks : F.scope.names.lookup ("super" : Str) = some .globalImplicit
  kc : F.scope.names.lookup ("__class__" : Str) = some .free
  ox : OexC K C
section
variable {CX : CXT} {P : Program} {w : World} {K : PySem.W.Frag} {mg : Str → Option Value} {base : Heap} {N ps : List Str} {F : NF} {fd : FuncData} {C f cc : Addr} {k : Nat}
def spS (C : Addr) (N ps : List Str) (t : TS) : Sp := fun vs H Q _ => vs.length = ps.length ∧ ∃ a ws, vs = .ref a :: ws ∧ H a = some (exo a C none) ∧ t { nx := fun _ H' => Q .non H', rt := Q } (startF N vs [none]) H
theorem fnok_sup {ar : Arg} {e1 : Expr} {es : List Expr} {rest : List Stmt} {t : TS} {p0 p1 p2 p3 p4 : Pos} {pl : Addr → Sem Bool} (T : SupC P K C f cc F fd) (S : NScope N ps ["__class__"] F.scope)
    (hbd : F.body = .Expr (.Call (.Attribute (.Call (.Name "super" p0) [] [] p1) "__init__" p2) (e1 :: es) [] p3) p4 :: rest)
    (hp : (F.params.posonlyargs ++ F.params.args).head? = some ar) (h0 : ps.head? = some ar.arg)
    (hev : ∀ L, eval (.Call (.Attribute (.Call (.Name "super" p0) [] [] p1) "__init__" p2) (e1 :: es) [] p3) (envF F f L) = (do
      let ov ← attributeBase (.Call (.Name "super" p0) [] [] p1) "__init__" (envF F f L) (eval (.Call (.Name "super" p0) [] [] p1) (envF F f L))
      standAt p2.atName
      let (g, first) ← holding [ov] (getMethod ov "__init__" (pl L))
      callWith p3 g first (backTo p3 (starEach (e1 :: es) (envF F f L))) []))
    (hin : ∀ L, interactive (envF F f L) = false) (hsw : ∀ L, swapsWith (.Call (.Attribute (.Call (.Name "super" p0) [] [] p1) "__init__" p2) (e1 :: es) [] p3) none p4.line (envF F f L) = pure false)
    (hst : ∀ L, starEach (e1 :: es) (envF F f L) = (false, eval e1 (envF F f L)) :: starEach es (envF F f L)) (hpl : ∀ L, (backTo p3 (starEach es (envF F f L))).any (·.1) = false)
    (hargs : ∀ (L : Addr) {A : Around} {E : Value → Shared → Prop} {s : Shared} {us : List Value} {Q : List Value → Shared → Prop}, s.heap.Ns L (fun y => (ps.zip us).reverse.lookup y) → us.length = ps.length → (∀ rs : List Value, rs.length ≤ 1000 → Q rs s) → wpAny (model P w) A (spliced ((false, eval e1 (envF F f L)) :: backTo p3 (starEach es (envF F f L)))) Q E s)
    (hr : ∀ A outer s H E, PSs (ncx CX P w K mg base N F f A outer s H E) rest t) :
    FnOk P w K mg base CX (k + 1) f fd ps (spS C N ps t) := by
  refine ⟨fun vs H Q E h => h.1, fun A outer s H as us vs Q E hro e0 hb r hsp => ?_⟩
  obtain ⟨hl, a, ws, rfl, ea, ht⟩ := hsp
  have bk : ∀ b o, base.get? b = some o → s.heap.get? b = some o := fun b o e => (e0.bs b o e).1
  have kin : K.In s.heap := e0.mod.kin.keeps bk
  have lim : s.heap.NoLimit := e0.mod.nolimit.keeps bk
  obtain ⟨oc, od, osl, ho⟩ := T.fn
  obtain ⟨oc2, cld, csl, hcell⟩ := T.cell
  have C0 : CellsAt F.cl ["__class__"] [none] s.heap H := ⟨rfl, fun y c e => by
      rw [T.cl] at e
      have hc : c = cc := by
        rw [List.lookup_cons] at e
        split at e
        · exact (Option.some.inj e).symm
        · cases e
      subst hc
      exact ⟨(e0.bs _ _ (e0.mod.kin _ _ hcell)).2, _, _, kin _ _ hcell, rfl⟩, fun x y c e1 e2 => by
      rw [T.cl, List.lookup_cons] at e1 e2
      have q : ∀ {z : Str}, (match z == ("__class__" : Str) with | true => some cc | false => List.lookup z []) = some c → z = "__class__" := fun {z} e => by
        cases hz : z == ("__class__" : Str) with
        | true => exact eq_of_beq hz
        | false => rw [hz] at e; cases e
      rw [q e1, q e2], fun i y e => by
      cases i with
      | zero => cases e; exact ⟨cc, by rw [T.cl]; rfl, fun v z => by cases z⟩
      | succ i => cases e⟩
  have hloc : ∀ x ∈ ps.zip us, fd.scope.names.lookup x.1 = some .local := fun ⟨n, u⟩ hy => by
    rw [T.fs]
    exact S.par n (List.of_mem_zip hy).1
  refine ks_codeAny_call_defAt hro.depth (kin _ _ ho) rfl lim (by rw [T.fc, T.fq]; exact PySem.W.codeRec_of kin T.code) T.fb hb (by rw [T.fs]; exact S.nocell) hloc (fun h₁ hns kp => ?_) (by rw [T.fs]; exact S.co) (by rw [T.fs]; exact S.gen) (by rw [T.fs]; exact S.kind)
  have I : Inv (ncx CX P w K mg base N F f A outer s H E) [] (startF N (.ref a :: ws) [none]) H { s with heap := h₁, toks := s.toks + (ps.zip us).length } := inv_startN S hro.hd e0 hl r C0 hns kp
  rw [T.env, hbd]
  refine ks_wpAt_execs_cons (ks_wpAt_Expr_any (ks_wpAt_MethodCall ?_ (hev _)) (hin _) (hsw _))
  obtain ⟨occ, cdd, cvs, ccs, file, tf, hcode, hvs, hfile⟩ := T.file
  have hself : (ps.zip us).reverse.lookup ar.arg = some (.ref a) := by
    cases hps : ps with
    | nil => rw [hps] at h0; cases h0
    | cons p ps' =>
      rw [hps] at h0
      cases h0
      cases r with
      | @cons _ u0 _ ur ra rw' =>
        obtain rfl : u0 = Value.ref a := ra
        have ndP : ps.Nodup := by
          have q := S.nd.sublist (List.take_sublist (ps.length + [("__class__" : Str)].length) N)
          rw [S.pre] at q
          exact (List.nodup_append.mp q).1
        rw [hps] at ndP
        exact zip_look (i := 0) ndP rfl rfl
  refine ks_wpAt_super_base (of := ⟨oc, od, .func fd, osl⟩) (fd := fd) (ar := ar) T.ks T.kc (by decide +kernel) rfl (kp _ _ (kin _ _ ho)) rfl (by rw [T.fp]; exact hp) rfl (kp _ _ (kin _ _ hcode)) rfl hvs hfile T.top ?_
  obtain ⟨mb, hb1, hb2⟩ := e0.mod.blt
  have bk1 : ∀ b o, base.get? b = some o → h₁.get? b = some o := fun b o e => kp _ _ (bk _ _ e)
  have kin1 : K.In h₁ := e0.mod.kin.keeps bk1
  have har : ar.arg ∈ ps := by
    cases hps : ps with
    | nil => rw [hps] at h0; cases h0
    | cons p ps' => rw [hps] at h0; cases h0; exact List.mem_cons_self
  obtain ⟨cd, hcd, hal⟩ := T.cls
  obtain ⟨oD, hD1, hD2⟩ : ∃ oD, h₁.get? C = some oD ∧ oD.data = .cls cd := by
    have hcd' := hcd
    unfold PySem.W.clsIn at hcd'
    split at hcd'
    · rename_i c d cd' sl ho
      cases hcd'
      exact ⟨_, kin1 _ _ ho, rfl⟩
    · cases hcd'
  obtain ⟨t1, hx⟩ := exo_at I.hok ea
  refine PySem.W.ks_loadName_global S.kind T.ks (Calls.loadGlobal_builtin (env := envF F f s.heap.objs.size) (e0.mod.glob.keeps bk1) (PySem.W.mg_none_of e0.mod.kin e0.mod.glob T.sup) (hb1.keeps bk1) ((hb2 _ (by decide)).trans PyProof.Rows.Boot.«super») ⟨rfl, ?_⟩)
  refine wpAny_loadName_free S.kind T.kc (by show F.cl.lookup _ = _; rw [T.cl]; rfl) ⟨_, kp _ _ (kin _ _ hcell), rfl⟩ ?_
  refine wpAny_loadName_local S.kind (S.par ar.arg har) hns hself ?_
  refine ks_wpAny_isType_cls hD1 hD2 ⟨rfl, ?_⟩
  refine ks_wpAny_call_super hD1 hD2 hx rfl (fun c e => by cases e) (PySem.W.looks_mroIn kin1 T.self) (fun h2 e2 k2 => ?_)
  have kin2 : K.In h2 := kin1.keeps k2
  have hx2 := k2 _ _ hx
  have hxC : a ≠ C := fun z => by
    rw [z, hD1] at hx
    cases hx
    cases hD2
  have hI : PySem.W.Looks (model P w) h2 (isInstance (.ref a) (.type "ValueError")) true := (PySem.W.InstAt.type (od := none) ⟨hx2, rfl, rfl, trivial⟩).andThen (PySem.W.looks_subIn kin2 T.vE)
  refine PySem.W.kxs_getMethod PySem.W.kxs_ValueError e2 (PySem.W.looks_opaque kin2 T.any) (l₀ := cd.mro) (fun A Q E s k q => wpAny_bind ((PySem.W.looks_clsIn kin2 hcd) A _ E s k (wpAny_pure q))) rfl kin2 hal hI hxC (by decide +kernel) ?_
  have k3 : ∀ b o, h2.get? b = some o → (h2.push (PySem.W.kxs_mw "ValueError.__init__" a)).get? b = some o := fun b o e => Heap.get?_push_of_some _ e
  have hu : (h2.push (PySem.W.kxs_mw "ValueError.__init__" a)).get? h2.objs.size = some (PySem.W.kxs_mw "ValueError.__init__" a) := Heap.get?_push_at rfl rfl
  have hx3 := k3 _ _ hx2
  have kin3 : K.In (h2.push (PySem.W.kxs_mw "ValueError.__init__" a)) := kin2.keeps k3
  have k13 : ∀ b o, h₁.get? b = some o → (h2.push (PySem.W.kxs_mw "ValueError.__init__" a)).get? b = some o := fun b o e => k3 _ _ (k2 _ _ e)
  have hns3 : (h2.push (PySem.W.kxs_mw "ValueError.__init__" a)).Ns s.heap.objs.size (fun y => (ps.zip us).reverse.lookup y) := hns.keeps k13
  generalize h2.push (PySem.W.kxs_mw "ValueError.__init__" a) = h3 at *
  rw [show backTo p3 (starEach (e1 :: es) (envF F f s.heap.objs.size)) = (false, eval e1 (envF F f s.heap.objs.size)) :: backTo p3 (starEach es (envF F f s.heap.objs.size)) by rw [hst]; rfl]
  refine PySem.W.kxs_callWith (i := "ValueError.__init__") (x := a) (by show (false || (backTo p3 (starEach es (envF F f s.heap.objs.size))).any (·.1)) = false; rw [hpl]; rfl) ?_
  have hul : us.length = ps.length := by rw [← r.length]; exact hl
  refine Calls.evalArgs_plain ?_
  refine hargs s.heap.objs.size hns3 hul fun rs hrs => ⟨hu, ?_⟩
  obtain ⟨nm, q, N', bs, bm, sn, sub, ab, col, dd, q0, q1, q2, q3, q5, hC, hbm⟩ := T.ox.cls
  refine wpAny_call (codeAny_of_tree ?_)
  show wpAny _ _ (callAny (.ref h2.objs.size) ⟨rs, []⟩) _ _ _
  simp only [callAny]
  refine wpAny_bind (wpAny_load hu ?_)
  simp only [PySem.W.kxs_mw, show (Value.type "method-wrapper" == Value.type "method" || Value.type "method-wrapper" == Value.type "builtin_function_or_method" || Value.type "method-wrapper" == Value.type "method-wrapper") = true by decide, if_true]
  refine PySem.W.KFB.if_so (by decide) ?_
  refine wpAny_bind (PySem.W.check_bound_init PySem.F.excBase_ValueError.toExcCallFacts (kin3 _ _ hC) hx3 rfl ?_)
  refine wpAny_bind (wpAny_pure (wpAny_pure ?_))
  refine ⟨plainId_quiet PySem.F.excBase_ValueError.init.plain _, codeAny_builtin PySem.F.excBase_ValueError.initEntry ?_⟩
  refine PySem.W.exc_init_tree (cls := .ref C) (t0 := t1) (dv := none) (c2 := .none) (c3 := .none) (b4 := .bool false) hx3 (by rw [sizeLine_eq]; omega) fun h' k4 hx4 ht4 => ?_
  have kk : ∀ b o, b ≠ a → h₁.get? b = some o → h'.get? b = some o := fun b o hb e => k4 b o hb (k13 b o e)
  have J := I.write (t' := s.toks + (ps.zip us).length + 1) (x := a) (e := a) (o := exo a C none) (by rw [ea]; exact True.intro) (.inl rfl) kk ⟨_, hx4⟩ (exo_ok hx4)
  have eu : upd H a (exo a C none) = H := by
    funext b
    by_cases hb : b = a
    · rw [hb, upd_same, ea]
    · rw [upd_ne hb]
  rw [eu] at J
  show PySem.wpAt _ _ _ (execs rest (envF F f s.heap.objs.size)) _ _ _
  refine wpAt_of_wpAny (wpAny_mono ((hr A outer s H E).run [] _ (startF N (.ref a :: ws) [none]) H _ J ht) (fun fl s' hs => ?_) fun e s' hs => hs)
  have fin : ∀ {σ' : L2.St} {H' : Hp} {v : V} {u : Value}, Inv (ncx CX P w K mg base N F f A outer s H E) [] σ' H' s' → L2.RelV v u → Q v H' → CE outer P w H s Q u s' :=
    fun {σ' H' v u} J rv q => ⟨v, H', J.os, J.bare, J.base, J.hok, rv, q⟩
  cases fl with
  | ret u =>
    obtain ⟨v, σ', H', J, rv, q⟩ := hs
    exact fin J rv q
  | next =>
    obtain ⟨σ', H', J, q⟩ := hs
    exact fin (v := V.non) (u := Value.none) J rfl q
  | brk =>
    obtain ⟨_, _, _, q⟩ := hs
    exact False.elim q
  | cont =>
    obtain ⟨_, _, _, q⟩ := hs
    exact False.elim q
end
end DL
namespace DL
open PySem PySem.Spec PyProof.Rows L2 NdefX
/-- the name that is an argument -/
theorem arg_name {M : Model} {A : Around} {E : Value → Shared → Prop} {s : Shared} {F : NF} {f L : Addr} {p3 p5 : Pos} {p : Str} {m : Str → Option Value} {v : Value} {Q : List Value → Shared → Prop} (hk : F.scope.kind = .function) (hl : F.scope.names.lookup p = some .local)
    (hd : (p == ("__debug__" : Str)) = false) (hn : s.heap.Ns L m) (hv : m p = some v) (hq : Q [v] s) : wpAny M A (spliced ((false, eval (.Name p p5) (envF F f L)) :: backTo p3 (starEach [] (envF F f L)))) Q E s := by
  refine Calls.spliced_cons (wpAny_Name (wpAny_loadName_local (env := envF F f L) hk hl hn hv ?_) hd)
  exact Calls.spliced_nil hq
end DL
namespace DL
open PySem PySem.Spec PyProof.Rows L2 NdefX
/-- an error's class whose own __init__ keeps one field -/
structure ErF (P : Program) (K : PySem.W.Frag) (mg : Str → Option Value) (C : Addr) (x f : Str) : Prop where
  ox : OexC K C
  g : mg x = some (.ref C)
  no : PySem.W.findIn K (.ref C) f = some none
  xf : XfC K C
  ini : ∃ (fI : Addr) (fd : FuncData) (N ps : List Str), PySem.W.findIn K (.ref C) "__init__" = some (some (.ref fI)) ∧ PySem.W.typeIn K (.ref fI) = some (.type "function") ∧ Binds K fd ps [] ∧ ps.length = 2 ∧ 2 ≤ N.length ∧
    ∀ (w : World) (base : Heap), FnOk P w K mg base CX0 1 fI fd ps (spS C N ps (tOst K f (tVar 0) (tVar 1)))
section
variable {X : Cx} {C : Addr} {x f : Str} {e : Expr} {te : TE} {pp pos : Pos}
theorem erf_wish {K : PySem.W.Frag} {C : Addr} {f : Str} {N ps : List Str} {v : V} {H1 : Hp} {Q : XK} (ox : OexC K C) (no : PySem.W.findIn K (.ref C) f = some none) (h4 : ps.length = 2) (hq : ∀ d, H1 d = none → Q (.ref C) (some d) (upd H1 d (.xd [(f, v)]))) :
    [v].length ≤ 1000 ∧ ∀ a, H1 a = none → spS C N ps (tOst K f (tVar 0) (tVar 1)) (.ref a :: ([v] ++ [])) (upd H1 a (exo a C none))
      (fun v H2 => v = .non ∧ ∃ (d : Addr) (fs : List (Str × V)), H2 a = some (exo a C (some d)) ∧ H2 d = some (exd d fs) ∧ H1 d = none ∧ Q (.ref C) (some d) (upd (del H2 a) d (.xd fs))) (fun _ _ _ => False) := by
  refine ⟨by show 1 ≤ 1000; decide, fun a na => ⟨h4.symm ▸ rfl, a, [v], rfl, upd_same, v, rfl, .ref a, rfl, a, C, rfl, ox, no, .inl ⟨upd_same, fun dx ndx hda => ?_⟩⟩⟩
  have nd1 : H1 dx = none := by rwa [upd_ne hda] at ndx
  refine ⟨rfl, dx, [(f, v)], upd_same, ?_, nd1, ?_⟩
  · rw [upd_ne hda, upd_same]
  · have e : upd (del (upd (upd (upd H1 a (exo a C none)) dx (exd dx [(f, v)])) a (exo a C (some dx))) a) dx (.xd [(f, v)]) = upd H1 dx (.xd [(f, v)]) := by
      funext b
      by_cases hb : b = dx
      · rw [hb, upd_same, upd_same]
      · rw [upd_ne hb, upd_ne hb]
        by_cases hba : b = a
        · rw [hba, del_same, na]
        · rw [del_ne hba, upd_ne hba, upd_ne hb, upd_ne hba]
    rw [e]
    exact hq dx nd1
def tErF (K : PySem.W.Frag) (C : Addr) (f : Str) (N ps : List Str) (te : TE) : L2.St → Hp → XK → Prop := tMkO C (spS C N ps (tOst K f (tVar 0) (tVar 1))) [] (tCons te tNil)
theorem erf_go {K : PySem.W.Frag} {C : Addr} {f : Str} {N ps : List Str} {te : TE} {σ : L2.St} {H : Hp} {Q : XK} (ox : OexC K C) (no : PySem.W.findIn K (.ref C) f = some none) (h4 : ps.length = 2)
    (h : ∀ W : VK, (∀ v H1, (∀ d, H1 d = none → Q (.ref C) (some d) (upd H1 d (.xd [(f, v)]))) → W v H1) → te σ H W) : tErF K C f N ps te σ H Q :=
  h _ fun v H1 hq => erf_wish ox no h4 hq
theorem pmk_erf {k : Nat} (T : ErF X.prog X.K X.mg C x f) (hr : Room k X.A) (hk : 2 ≤ k) (ha : PE X e te) (hg : Gl X x := by rfl) (hdb : (x == ("__debug__" : Str)) = false := by decide)
    (he : starEach [e] X.env = (false, eval e X.env) :: starEach [] X.env := by rfl) (hpl : (backTo pos (starEach [] X.env)).any (·.1) = false := by rfl) :
    ∃ N ps, ps.length = 2 ∧ PMk X (.Call (.Name x pp) [e] [] pos) (tErF X.K C f N ps te) := by
  obtain ⟨fI, fd, N, ps, h1, h2, h3, h4, h5, h6⟩ := T.ini
  exact ⟨N, ps, h4, pmk_oex (CX := CX0) (ds := []) (dvs := []) T.ox h1 h2 (h6 X.w X.base) (hr.mono hk) h3 .nil (fun _ _ _ _ _ _ _ z => z.elim) hg T.g (pa_cons ha pa_nil he) hdb he hpl⟩
end
end DL
namespace DL
open PySem PySem.Spec PyProof.Rows L2 NdefX
section
variable {P : Program} {K : PySem.W.Frag} {mg : Str → Option Value} {C fI cc cda : Addr} {st : Stmt} {qual x p f : Str} {oc kV doc pm ct occ occ2 : Value} {od an cld cdd : Option Addr} {osl csl ccs : Array (Option Value)} {vs : Array Value}
  {p0 p1 p2 p3 p4 p5 p6 p7 p8 p9 : Pos} {cd : ClassData}
abbrev ferr (st : Stmt) (qual : Str) (cc cda : Addr) (kV doc pm : Value) (an : Option Addr) (ct : Value) : FuncData := PySem.W.fnX "__init__" qual (defArgs st) (defBody st) (defScope st) [("__class__", cc)] .none kV doc pm an (.ref cda) ct
def isFile (x : Str) : Option Value → Bool
  | some (.str file _) => x == file
  | _ => false
/-- the class, as it is written -/
theorem erf_of {pl : PySem.Env → Sem Bool} (hbd : defBody st = [.Expr (.Call (.Attribute (.Call (.Name "super" p0) [] [] p1) "__init__" p2) [.Name p p5] [] p3) p4, .Assign [.Attribute (.Name "self" p6) f p7] (.Name p p8) p9])
    (hev : ∀ env : PySem.Env, eval (.Call (.Attribute (.Call (.Name "super" p0) [] [] p1) "__init__" p2) [.Name p p5] [] p3) env = (do
      let ov ← attributeBase (.Call (.Name "super" p0) [] [] p1) "__init__" env (eval (.Call (.Name "super" p0) [] [] p1) env)
      standAt p2.atName
      let (g, first) ← holding [ov] (getMethod ov "__init__" (pl env))
      callWith p3 g first (backTo p3 (starEach [.Name p p5] env)) []))
    (hsc : nscB ["self", p, "__class__"] ["self", p] ["__class__"] (defScope st) = true) (hks : (defScope st).names.lookup ("super" : Str) = some .globalImplicit)
    (hhd : (((defArgs st).posonlyargs ++ (defArgs st).args).head?.map (·.arg)) = some ("self" : Str))
    (hbi : ∀ us : List Value, us.length = 2 → bindArgs (ferr st qual cc cda kV doc pm an ct) ⟨us, []⟩ = pure ([("self" : Str), p].zip us))
    (hp1 : (p == ("__debug__" : Str)) = false) (hp2 : (p == ("__classdict__" : Str)) = false)
    (l : K.lookup fI = some ⟨oc, od, .func (ferr st qual cc cda kV doc pm an ct), osl⟩) (c : PySem.W.codeIn K (.ref cda) qual = true)
    (lcc : K.lookup cc = some ⟨occ, cld, .cell (some (.ref C)), csl⟩) (lcd : K.lookup cda = some ⟨occ2, cdd, .fields vs, ccs⟩)
    (hfile : isFile P.main.file vs[2]? = true) (htop : (P.main.scope.names.lookup ("super" : Str)).isSome = false)
    (hsup : PySem.W.nsIn K mainGlobals "super" = some none) (hany : PySem.W.nsIn K cStatics "thirdparty.any" = some none)
    (hal : PySem.W.ks_superIn K C C "__init__" = some (some (.builtin "ValueError.__init__"))) (hself : PySem.W.mroIn K C (.ref C) = some true) (hvE : PySem.W.subIn K (.ref C) (.type "ValueError") = some true)
    (ox : OexC K C) (g : mg x = some (.ref C)) (no : PySem.W.findIn K (.ref C) f = some none) (xf : XfC K C) (hi : PySem.W.findIn K (.ref C) "__init__" = some (some (.ref fI))) (ht : PySem.W.typeIn K (.ref fI) = some (.type "function")) :
    ErF P K mg C x f := by
  have S : NScope ["self", p, "__class__"] ["self", p] ["__class__"] (defScope st) := nscope_by hsc
  have T : SupC P K C fI cc ⟨"__init__", qual, defArgs st, defBody st, defScope st, [("__class__", cc)], cda⟩ (ferr st qual cc cda kV doc pm an ct) := by
    refine ⟨⟨_, _, _, l⟩, rfl, rfl, rfl, rfl, rfl, fun L => rfl, rfl, c, ?_, ⟨_, _, _, lcc⟩, ?_, hself, hvE, hsup, hany, htop, hks, S.frk _ List.mem_cons_self, ox⟩
    · cases hv : vs[2]? with
      | none => rw [hv] at hfile; cases hfile
      | some v =>
        rw [hv] at hfile
        cases v with
        | str file tf => exact ⟨_, _, _, _, file, tf, lcd, hv, hfile⟩
        | _ => cases hfile
    · unfold PySem.W.ks_superIn at hal
      cases hc : PySem.W.clsIn K C with
      | none => rw [hc] at hal; cases hal
      | some cd => rw [hc] at hal; exact ⟨cd, rfl, hal⟩
  refine ⟨ox, g, no, xf, fI, ferr st qual cc cda kV doc pm an ct, ["self", p, "__class__"], ["self", p], hi, ht, .all hbi, rfl, by show 2 ≤ 3; decide, fun w base => ?_⟩
  obtain ⟨ar, har, hara⟩ := map_some hhd
  refine fnok_sup (k := 0) (F := ⟨"__init__", qual, defArgs st, defBody st, defScope st, [("__class__", cc)], cda⟩) (ar := ar) (es := []) T S hbd har (by rw [hara]; rfl) (fun L => hev _) (fun L => by unfold interactive; show ((defScope st).kind == .module && _) = false; rw [show (defScope st).kind = .function from S.kind]; rfl) (fun L => rfl) (fun L => rfl) (fun L => rfl)
    (fun L {A} {E} {s} {us} {Q} hn hl hq => ?_) (fun A outer s H E => pss_one (ps_ost (pe_var rfl (.inl (S.par _ List.mem_cons_self)) (by decide) (by decide)) (pe_var rfl (.inl (S.par _ (List.mem_cons_of_mem _ List.mem_cons_self))) hp1 hp2)))
  match us, hl with
  | [u0, u1], _ =>
    refine arg_name S.kind (S.par _ (List.mem_cons_of_mem _ List.mem_cons_self)) hp1 hn (v := u1) ?_ (hq _ (by show 1 ≤ 1000; decide))
    show List.lookup p [(p, u1), (("self" : Str), u0)] = some u1
    rw [List.lookup_cons, beq_self_eq_true]
end
end DL

/-! The data layer: raise C(x); try with clauses that may name what they take. -/
namespace DL
open PySem PySem.Spec PyProof.Rows L2 NdefX
/-! ### raise C(x) -/
def tMo (te : TE) : TE := fun σ H Q => ∃ W : VK, (∀ v H1, W v H1 → Q v H1) ∧ te σ H W
theorem pe_mo {X : Cx} {e : Expr} {te : TE} (h : PE X e te) : PE X e (tMo te) := ⟨fun pins s σ H Q I ⟨W, hW, ht⟩ =>
  thn (h.run pins s σ H W I ht) fun u s1 ⟨v, H1, I1, r1, q⟩ => ⟨v, H1, I1, r1, hW v H1 q⟩⟩
def tErM (C : Addr) (f : Str) (te : TE) : L2.St → Hp → XK → Prop := fun σ H Q => tMo te σ H fun v H1 => ∀ d, H1 d = none → Q (.ref C) (some d) (upd H1 d (.xd [(f, v)]))
theorem pmk_erm {X : Cx} {C : Addr} {x f : Str} {e : Expr} {te : TE} {pp pos : Pos} {k : Nat} (T : ErF X.prog X.K X.mg C x f) (hr : Room k X.A) (hk : 2 ≤ k) (ha : PE X e te) (hg : Gl X x := by rfl) (hdb : (x == ("__debug__" : Str)) = false := by decide)
    (he : starEach [e] X.env = (false, eval e X.env) :: starEach [] X.env := by rfl) (hpl : (backTo pos (starEach [] X.env)).any (·.1) = false := by rfl) : PMk X (.Call (.Name x pp) [e] [] pos) (tErM C f te) := by
  obtain ⟨N, ps, h4, hp⟩ := pmk_erf (pp := pp) (pos := pos) T hr hk (pe_mo ha) hg hdb he hpl
  intro pins s σ H Q I ⟨W, hW, ht⟩
  exact hp pins s σ H Q I (erf_go T.ox T.no h4 fun W' hW' => ⟨W, fun v H1 hw => hW' v H1 (hW v H1 hw), ht⟩)
theorem nx_xd {f : Str} {v : V} (h : f ≠ ("" : Str)) : NX (.xd [(f, v)]) := fun n ps z => h (by injection z with z; injection z with z1 z2; injection z1)
def graiseF (c : Nat) (f : Str) (fe : M D) : G := fun env => (fe env).map fun q => (.rt (exF c f q.1), q.2)
theorem dx_raiseF {X : Cx} {cm : Cm} {B : List Nat} {x f : Str} {e : Expr} {te : TE} {fe : M D} {pp pos pos' : Pos} {k : Nat} (n : Nat) (T : ErF X.prog X.K X.mg (cm n) x f) (ha : DE X cm e te fe) (hr : Room k X.A) (hk : 2 ≤ k := by decide) (hf : f ≠ ("" : Str) := by decide) (hc : X.calm = true := by rfl) (hg : Gl X x := by rfl) (hdb : (x == ("__debug__" : Str)) = false := by decide)
    (he : starEach [e] X.env = (false, eval e X.env) :: starEach [] X.env := by rfl) (hpl : (backTo pos (starEach [] X.env)).any (·.1) = false := by rfl) :
    DR X cm B (.Raise (some (.Call (.Name x pp) [e] [] pos)) none pos') (fun W _ σ H => tErM (cm n) f te σ H fun cls d H' => W cls d σ H') (graiseF n f fe) := ⟨fun W tk => L2.ps_raise hc tk (pmk_erm T hr hk ha.pe hg hdb he hpl), fun W F H σ env O out env' Dn s e k => by
  unfold graiseF at e
  obtain ⟨q, e1, e2⟩ := map_some e
  obtain ⟨d, env1⟩ := q
  cases e2
  refine ⟨fun v H1 => ∀ a, H1 a = none → W (.ref (cm n)) (some a) σ (upd H1 a (.xd [(f, v)])), fun v H1 h => h, ?_⟩
  refine ha.sm F H σ env O d env1 _ s e1 fun F1 H1 v O1 g1 s1 r1 a na => ?_
  rw [EndX_x (isX_ef n f d)] at k
  obtain ⟨s3, g3⟩ := s1.alloc (o := .xd [(f, v)]) na (nx_xd hf)
  exact k _ _ σ O1 (g1.trans g3) s3 .refl a v upd_same (r1.mono (same_new (s1.fnone na)))⟩
end DL
namespace DL
open PySem PySem.Spec PyProof.Rows L2 NdefX
/-! ### try: several clauses, each may name what it takes -/
abbrev Cz := Value × Option Nat × (Addr → Value → Option Addr → TS)
def unD (D : Ends) (i : Nat) : Ends := { nx := fun σ H => D.nx (σ.set i none) H, rt := D.rt, bk := fun σ H => D.bk (σ.set i none) H, ct := fun σ H => D.ct (σ.set i none) H }
def wCz (D : Ends) (ts : Addr → Value → Option Addr → TS) (cls : Value) (d : Option Addr) (σ : L2.St) (H : Hp) : Option Nat → Prop
  | none => ∀ a, H a = none → ts a cls d D σ H
  | some i => ∀ a, H a = none → ts a cls d (unD D i) (σ.set i (some (.ref a))) H
def wNames (K : PySem.W.Frag) (Wout : WX) (D : Ends) : List Cz → WX
  | [] => Wout
  | (c, i, ts) :: r => fun cls d σ H => ∃ b, PySem.W.exmOne K cls c = some b ∧ (b = true → wCz D ts cls d σ H i) ∧ (b = false → wNames K Wout D r cls d σ H)
inductive NmOk (X : Cx) : Option Str → Option Nat → Prop
  | none : NmOk X none none
  | some {n : Str} {i : Nat} (hi : X.N[i]? = some n) (hl : X.env.kindOf n = some .local) : NmOk X (some n) (some i)
inductive HdsN (X : Cx) : List ExceptHandler → List Cz → Prop
  | nil : HdsN X [] []
  | cons {x : Str} {c : Value} {nm : Option Str} {i : Option Nat} {ts : Addr → Value → Option Addr → TS} {b₀ : Stmt} {suite : List Stmt} {np pos' : Pos} {hds : List ExceptHandler} {l : List Cz} (hc : Names X x c) (hn : NmOk X nm i)
      (hsu : ∀ (a : Addr) (oe : Obj) (cls : Value) (d : Option Addr) (pn : List (Addr × Obj)), Zc cls d oe → (∃ vs, oe.data = .fields vs) → PSs (X.suite a ((a, oe) :: pn)) (b₀ :: suite) (ts a cls d)) (r : HdsN X hds l) :
      HdsN X (.ExceptHandler (some (.Name x np)) nm (b₀ :: suite) pos' :: hds) ((c, i, ts) :: l)
section
variable {X : Cx} {body : List Stmt} {h₀ : ExceptHandler} {hds : List ExceptHandler} {l : List Cz} {pos : Pos} {tb : WX → TS} {Wout : WX}
theorem ps_try_names (hs : X.stack = X.env :: X.outer) (hf : X.env.frame = some X.env.locals) (hN : X.N.Nodup) (tk : Takes X Wout)
    (hb : ∀ (W : WX) (pn : List (Addr × Obj)) (xe : Value → Shared → Prop), Takes (X.tr pn xe) W → PassesOwn (model X.prog X.w) X.A X.env xe → PSs (X.tr pn xe) body (tb W))
    (hh : HdsN X (h₀ :: hds) l) : PS X (.Try body (h₀ :: hds) [] [] pos) (fun D σ H => tb (wNames X.K Wout D l) D σ H) := by
  refine ⟨fun pins s σ H D I h => ?_⟩
  have ok := I.ok
  have hfr : X.A.frames = some (X.env :: X.outer) := by rw [ok.frames, hs]
  refine wpAny_Try_except ?_
  refine wpAny_mono ((hb (wNames X.K Wout D l) (X.pn ++ pins) (fun e s₁ => wpAny (model X.prog X.w) X.A (noteFrame e X.env) (fun _ s₂ => wpAny (model X.prog X.w) X.A (setFlight e none) (fun _ s₃ =>
    wpAny (model X.prog X.w) X.A (handleBy e X.env (h₀ :: hds)) (SP X pins D) X.xe s₃) X.xe s₂) X.xe s₁) (fun u s' xx => ?_) PassesOwn.looking).run [] s σ H D (I.toTry _) h) (fun f s1 hsp => ?_) (fun e s1 he => he)
  · obtain ⟨a, B, sI, pins', σ', H', cls, d, rfl, J', nb, up, sky, na, os, ag, w⟩ := xx
    have J : Inv X pins σ' H' sI := J'.ofTry ok
    have sky' : Sky B (X.env :: X.outer) a (Zc cls d) X.env.locals s'.heap := by rw [← hs]; exact sky
    show wpAny (model X.prog X.w) X.A (noteFrame (.ref a) X.env) _ _ _
    refine Sky.land Zc.steady hfr hf sky' fun h3 fl3 up3 => ?_
    have J3 : Inv X pins σ' H' { s' with heap := h3 } := J.landed nb fl3.1 (up.trans up3) os ag
    obtain ⟨oe3, vs3, he3, hz3, hd3⟩ := fl3.there
    have nfr : a ∉ frs (X.env :: X.outer) := fun hm => by
      obtain ⟨_, o', e', hnf⟩ := fl3.2.2.1.mem hm
      rw [he3] at e'; cases e'
      exact hnf _ hd3
    have nL : a ≠ X.env.locals := fun z => nfr (List.mem_filterMap.mpr ⟨X.env, List.mem_cons_self, by rw [hf, z]⟩)
    have nF : a ∉ X.fs := fun hm => by
      obtain ⟨e, he, q⟩ := List.mem_filterMap.mp hm
      exact nfr (List.mem_filterMap.mpr ⟨e, List.mem_cons_of_mem _ he, q⟩)
    have S3 := J3.suite he3 hd3 na nL nF
    have go : ∀ {hds' : List ExceptHandler} {l' : List Cz}, HdsN X hds' l' → wNames X.K Wout D l' cls d σ' H' →
        wpAny (model X.prog X.w) X.A (handleBy (.ref a) X.env hds') (SP X pins D) X.xe { s' with heap := h3 } := by
      intro hds' l' hk
      induction hk with
      | nil =>
        intro w
        refine wpAny_handleBy_nil ?_
        obtain ⟨k1, k2, k3, oe, vs, T, oT, ts', he, hz, hd, h1, hr⟩ := id fl3
        unfold PySem.passOn
        refine wpAny_bind (wpAny_field he hd h1 ?_)
        rw [if_neg (show ¬ ((Value.ref T == Value.none) = true) from by simp)]
        have fin : wpAny (model X.prog X.w) X.A (setFlight (.ref a) X.env.frame) (fun _ s4 => wpAny (model X.prog X.w) X.A (throw (.ref a) : Sem Flow) (SP X pins D) X.xe s4) X.xe { s' with heap := h3 } := by
          rw [hf]
          refine HandSPX.setFlight_upZ fl3 fun h4 hh4 up4 => wpAny_throw (tk _ _ ?_)
          exact ⟨a, B, sI, pins, σ', H', cls, d, rfl, J, nb, (up.trans up3).trans up4, .inr (.inr (by rw [hs]; exact hh4)), na, os, ag, w⟩
        first
          | exact wpAny_bind (wpAny_pure (wpAny_bind fin))
          | exact wpAny_bind fin
      | @cons x c nm i ts b₀ suite np pos' hds2 l2 hc hn hsu r ih =>
        intro w
        obtain ⟨b, hb1, hyes, hno⟩ := w
        refine wpAny_handleBy_cons (codeAny_handlers_test ?_) (by intro q; cases q)
        have LT : PySem.W.Looks (model X.prog X.w) h3 (typeOf (.ref a)) cls := fun A Q E s k q => wpAny_typeOf_ref (k _ _ he3) (by rw [hz3.1]; exact q)
        have LM := PySem.W.exm_one (M := model X.prog X.w) (J3.kIn) LT hb1
        have test : ∀ {Q : Value → Shared → Prop} {E : Value → Shared → Prop}, Q c { s' with heap := h3 } → wpAny (model X.prog X.w) (X.A.mark (some (.ref a))) (eval (.Name x np) X.env) Q E { s' with heap := h3 } := fun {Q E} q => by
          obtain ⟨hg, hdbg, hm | ⟨hm, hv, hnn⟩⟩ := hc
          · exact ld_glob (X := X.suite a ((a, oe3) :: (X.pn ++ pins))) S3 hg hm q hdbg
          · exact ld_blt (X := X.suite a ((a, oe3) :: (X.pn ++ pins))) S3 hg hm hv q hnn hdbg
        refine test (LM.here ?_)
        cases b with
        | true =>
          cases hn with
          | none =>
            refine codeAny_handlers_suite ?_
            refine HandSPX.lands_againZ fl3 fun h4 fl4 up4 => ?_
            have J4 : Inv X pins σ' H' { s' with heap := h4 } := J.landed nb fl4.1 ((up.trans up3).trans up4) os ag
            obtain ⟨oe4, vs4, he4, hz4, hd4⟩ := fl4.there
            have S4 := J4.suite he4 hd4 na nL nF
            refine wpAny_mono ((hsu a oe4 cls d (X.pn ++ pins) hz4 ⟨_, hd4⟩).run [] _ _ H' _ S4 (hyes rfl a na)) (fun f s6 hsp => ?_) (fun _ _ z => False.elim z)
            cases f with
            | next =>
              obtain ⟨σ6, H6, S6, q6⟩ := hsp
              exact ⟨_, _, S6.unsuite ok, q6⟩
            | brk =>
              obtain ⟨σ6, H6, S6, q6⟩ := hsp
              exact ⟨_, _, S6.unsuite ok, q6⟩
            | cont =>
              obtain ⟨σ6, H6, S6, q6⟩ := hsp
              exact ⟨_, _, S6.unsuite ok, q6⟩
            | ret u =>
              obtain ⟨v6, σ6, H6, S6, r6, q6⟩ := hsp
              exact ⟨_, _, _, S6.unsuite ok, r6, q6⟩
          | @some n i hi hln =>
            have hloc : Loc X.env.scope n := .inl hln
            refine codeAny_handlers_suite_as ?_
            refine HandSPX.lands_againZ fl3 fun h4 fl4 up4 => ?_
            have J4 : Inv X pins σ' H' { s' with heap := h4 } := J.landed nb fl4.1 ((up.trans up3).trans up4) os ag
            obtain ⟨oe4, vs4, he4, hz4, hd4⟩ := fl4.there
            have S4 := J4.suite he4 hd4 na nL nF
            refine store_ok (X := X.suite a ((a, oe4) :: (X.pn ++ pins))) (v := .ref a) S4 hN hi hloc rfl (fun s5 S5 => ?_) (.inr hln)
            refine wpAny_mono ((hsu a oe4 cls d (X.pn ++ pins) hz4 ⟨_, hd4⟩).run [] s5 _ H' _ S5 (hyes rfl a na)) (fun f s6 hsp => ?_) (fun _ _ z => False.elim z)
            have end_ : ∀ {σ6 : L2.St} {H6 : Hp} {Q : Shared → Prop}, Inv (X.suite a ((a, oe4) :: (X.pn ++ pins))) [] σ6 H6 s6 → (∀ s7, Inv X pins (σ6.set i none) H6 s7 → Q s7) →
                wpAny (model X.prog X.w) X.A (do bindName X.env n .none; unbindBehindTheSuite X.env n pos') (fun _ s7 => Q s7) X.xe s6 := fun {σ6 H6 Q} S6 hq => gone_ok (S6.unsuite ok) hN hi hln hq
            cases f with
            | next =>
              obtain ⟨σ6, H6, S6, q6⟩ := hsp
              exact end_ S6 fun s7 J7 => ⟨_, _, J7, q6⟩
            | brk =>
              obtain ⟨σ6, H6, S6, q6⟩ := hsp
              exact end_ S6 fun s7 J7 => ⟨_, _, J7, q6⟩
            | cont =>
              obtain ⟨σ6, H6, S6, q6⟩ := hsp
              exact end_ S6 fun s7 J7 => ⟨_, _, J7, q6⟩
            | ret u =>
              obtain ⟨v6, σ6, H6, S6, r6, q6⟩ := hsp
              exact end_ S6 fun s7 J7 => ⟨_, _, _, J7, r6, q6⟩
        | false =>
          show wpAny _ X.A (handleBy (.ref a) X.env hds2) _ _ _
          exact ih (hno rfl)
    exact go hh w
  · cases f with
    | next =>
      obtain ⟨σ', H', J', q⟩ := hsp
      exact wpAny_execs_nil ⟨σ', H', J'.ofTry ok, q⟩
    | brk =>
      obtain ⟨σ', H', J', q⟩ := hsp
      exact ⟨σ', H', J'.ofTry ok, q⟩
    | cont =>
      obtain ⟨σ', H', J', q⟩ := hsp
      exact ⟨σ', H', J'.ofTry ok, q⟩
    | ret u =>
      obtain ⟨v, σ', H', J', r, q⟩ := hsp
      exact ⟨v, σ', H', J'.ofTry ok, r, q⟩
end
end DL
namespace DL
open PySem PySem.Spec PyProof.Rows L2 NdefX
/-- a clause's statement that reads the error's field: slot j holds what is told -/
structure HsF (X : Cx) (cm : Cm) (i j : Nat) (cs : List Nat) (f : Str) (st : Stmt) (ts : Addr → Nat → Addr → TS) (hd : D → D) : Prop where
  pe : ∀ n ∈ cs, ∀ (a : Addr) (oe : Obj) (dd : Addr) (pn : List (Addr × Obj)), Zc (.ref (cm n)) (some dd) oe → (∃ vs, oe.data = .fields vs) → PS (X.suite a ((a, oe) :: pn)) st (ts a n dd)
  sm : ∀ n ∈ cs, ∀ (a dd : Addr) F H σ env O (Dn : Ends) (v : V) (d : D), Sts X.K cm F H σ env O → σ[i]? = some (some (.ref a)) → j < env.length → F dd = some (.xd [(f, v)]) → Rp X.K cm F v d →
    (∀ F' H' v' O', Go (Un O) F H (Un O') F' H' → Sts X.K cm F' H' (σ.set j (some v')) (env.set j (some (.fd (.val (hd d))))) O' → Dn.nx (σ.set j (some v')) H') → ts a n dd Dn σ H
section
variable {X : Cx} {cm : Cm} {B : List Nat} {i j : Nat} {cs : List Nat} {f en x : Str} {pos p pos' p1 tpos : Pos}
/-- x = (c, e.f) -/
theorem hsf_tup {d0 : D} {e0 : Expr} {te0 : TE} {x1} (T : ∀ n ∈ cs, XfC X.K (cm n) ∧ PySem.W.findIn X.K (.ref (cm n)) f = some none) (h0 : ∀ a oe pn, DE (X.suite a ((a, oe) :: pn)) cm e0 te0 (pu (pc d0))) (hN : X.N.Nodup) (hi : X.N[i]? = some en := by rfl) (hv : Vis X.env.scope en := by first | exact Or.inl rfl | exact Or.inr (Or.inl rfl) | exact Or.inr (Or.inr rfl))
    (hj : X.N[j]? = some x := by rfl) (hx : Loc X.env.scope x := by first | exact .inl rfl | exact .inr rfl) (hs : swapsWith (.Tuple [e0, .Attribute (.Name en p) f p1] x1 tpos) (some (.Name x pos')) pos.line X.env = pure false := by rfl) (hf : X.fn x = true ∨ X.env.scope.names.lookup x = some .local := by first | exact .inl rfl | exact .inr rfl | assumption)
    (hb : attributeBase (.Name en p) f X.env (eval (.Name en p) X.env) = eval (.Name en p) X.env := by rfl) (hd1 : (en == ("__debug__" : Str)) = false := by decide) (hcd : (en == ("__classdict__" : Str)) = false := by decide)
    (hfe : f ≠ ("" : Str) := by decide) (hs0 : starEach [e0, .Attribute (.Name en p) f p1] X.env = (false, eval e0 X.env) :: starEach [.Attribute (.Name en p) f p1] X.env := by rfl) (hs1 : starEach [.Attribute (.Name en p) f p1] X.env = (false, eval (.Attribute (.Name en p) f p1) X.env) :: starEach [] X.env := by rfl) :
    HsF X cm i j cs f (.Assign [.Name x pos'] (.Tuple [e0, .Attribute (.Name en p) f p1] x1 tpos) pos) (fun a n dd => tAsg (tTup (tCons te0 (tCons (tXf a (.ref (cm n)) (some dd) (cm n) f (tVar i)) tNil))) (gName j)) (fun d => .tup [d0, d]) :=
  ⟨fun n hk a oe dd pn hz hfl => ps_set (X := X.suite a ((a, oe) :: pn)) hN hj hx (pe_tup (pa_cons (h0 a oe pn).pe (pa_cons (pe_xf (T n hk).1 (T n hk).2 hz hfl (pe_var hi hv hd1 hcd) hb) pa_nil hs1) hs0)) hs hf, fun n hk a dd F H σ env O Dn v d s ei hl hdd r k => by
    refine (h0 a { cls := .none, data := .fields #[] } []).sm F H σ env O d0 env _ s rfl fun F1 H1 v0 O1 g1 s1 r0 => ?_
    have hdd1 : H1 dd = some (.xd [(f, v)]) := s1.fh.at (g1.ff _ _ hdd) (nx_xd hfe)
    refine ⟨.ref a, ei, rfl, rfl, dd, [(f, v)], v, rfl, hdd1, by rw [List.lookup_cons, beq_self_eq_true], by show 2 ≤ sizeLine; decide, fun q hq => ?_⟩
    obtain ⟨s3, g3⟩ := s1.alloc (o := .tup [v0, v]) hq
    exact k _ _ (.ref q) O1 (g1.trans g3) (s3.setv hl (.tup upd_same ((RpA.cons r0 (.cons (r.mono g1.ff) .nil)).mono (same_new (s1.fnone hq)))))⟩
end
end DL
namespace DL
open PySem PySem.Spec PyProof.Rows L2 NdefX
abbrev Hx := Option (Str × D) → G
def handN (c : Nat) (q : Option (Str × D)) : List (List Nat × Hx) → G
  | [] => fun _ => none
  | (cs, h) :: r => fun env => if c ∈ cs then h q env else handN c q r env
/-- slot j holds what is told of the field f, slot i (the error's name) is gone -/
def gfld (i j : Nat) (f : Str) (hd : D → D) : Hx
  | some (f', d) => fun env => if f' = f ∧ i < env.length ∧ j < env.length ∧ i ≠ j then some (.nx, (env.set i none).set j (some (.fd (.val (hd d))))) else none
  | none => fun _ => none
def gtryN (ks : List Nat) (g : G) (hs : List (List Nat × Hx)) : G := fun env => (g env).bind fun q => match q.1 with
  | .rt o => match isX o with
    | some c => if c.c ∈ ks then handN c.c c.d hs q.2 else none
    | none => some q
  | _ => some q
inductive HdN (X : Cx) (cm : Cm) (B : List Nat) (ks : List Nat) : List ExceptHandler → List Cz → List (List Nat × Hx) → Prop
  | nil : HdN X cm B ks [] [] []
  | plain {x : Str} {c : Value} {cs : List Nat} {ts : TS} {g : G} {b₀ : Stmt} {suite : List Stmt} {np pos' : Pos} {hds : List ExceptHandler} {l : List Cz} {hs : List (List Nat × Hx)} (hc : Names X x c)
      (hm : ∀ n ∈ ks, PySem.W.exmOne X.K (.ref (cm n)) c = some (decide (n ∈ cs))) (hsu : ∀ (a : Addr) (pn : List (Addr × Obj)), DSs (X.suite a pn) cm B (b₀ :: suite) ts g) (r : HdN X cm B ks hds l hs) :
      HdN X cm B ks (.ExceptHandler (some (.Name x np)) none (b₀ :: suite) pos' :: hds) ((c, none, fun _ _ _ => ts) :: l) ((cs, fun _ => g) :: hs)
  | fld {x en f : Str} {c : Value} {i j : Nat} {cs : List Nat} {st : Stmt} {ts : Addr → Nat → Addr → TS} {hd : D → D} {np pos' : Pos} {hds : List ExceptHandler} {l : List Cz} {hs : List (List Nat × Hx)} (hc : Names X x c)
      (hm : ∀ n ∈ ks, PySem.W.exmOne X.K (.ref (cm n)) c = some (decide (n ∈ cs))) (hh : HsF X cm i j cs f st ts hd) (hi : X.N[i]? = some en) (hln : X.env.kindOf en = some .local) (hBi : i ∉ B) (hBj : j ∉ B) (r : HdN X cm B ks hds l hs) :
      HdN X cm B ks (.ExceptHandler (some (.Name x np)) (some en) [st] pos' :: hds) ((c, some i, fun a cls d => fun Dn σ H => ∃ n ∈ cs, ∃ dd, cls = .ref (cm n) ∧ d = some dd ∧ ts a n dd Dn σ H) :: l) ((cs, gfld i j f hd) :: hs)
section
variable {X : Cx} {cm : Cm} {B ks : List Nat} {hds : List ExceptHandler} {l : List Cz} {hs : List (List Nat × Hx)}
theorem HdN.ok (h : HdN X cm B ks hds l hs) : HdsN X hds l := by
  induction h with
  | nil => exact .nil
  | plain hc hm hsu r ih => exact .cons hc .none (fun a oe cls d pn _ _ => (hsu a _).pe) ih
  | fld hc hm hh hi hln hBi hBj r ih => exact .cons hc (.some hi hln) (fun a oe cls d pn hz hfl => ⟨fun pins s σ H Dn I h => by
      obtain ⟨n, hk, dd, rfl, rfl, h⟩ := h
      exact (pss_one (hh.pe n hk a oe dd pn hz hfl)).run pins s σ H Dn I h⟩) ih
/-- what the wish's dict is -/
def DdOk (K : PySem.W.Frag) (cm : Cm) (F : Hp) : Option (Str × D) → Option Addr → Prop
  | none, d => d = none
  | some (f, d), a => ∃ dd v, a = some dd ∧ F dd = some (.xd [(f, v)]) ∧ Rp K cm F v d
theorem HdN.go (h : HdN X cm B ks hds l hs) {n : Nat} {q : Option (Str × D)} {d : Option Addr} (hn : n ∈ ks) {Dn : Ends} {F H F0 H0 : Hp} {σ σ0 : L2.St} {env : Env} {O O0 : Nat → Rg} {out : Out} {env' : Env} (s : Sts X.K cm F H σ env O) (hd : DdOk X.K cm F q d) (e : handN n q hs env = some (out, env'))
    (k0 : EndP X.K cm B Dn F0 H0 σ0 O0 env' out) (g0 : Go (Un O0) F0 H0 (Un O) F H) (b0 : Bor B σ0 σ) :
    wNames X.K (fun _ _ _ _ => False) Dn l (.ref (cm n)) d σ H := by
  induction h with
  | nil => cases e
  | @plain x c cs ts g b₀ suite np pos' hds l hs hc hm hsu r ih =>
    refine ⟨_, hm n hn, fun z a _ => ?_, fun z => ?_⟩
    · have z := of_decide_eq_true z
      have e : (if n ∈ cs then g env else handN n q hs env) = some (out, env') := e
      rw [if_pos z] at e
      exact (hsu a []).sm F H σ env O out env' Dn s e (k0.go g0 b0)
    · have z := of_decide_eq_false z
      have e : (if n ∈ cs then g env else handN n q hs env) = some (out, env') := e
      rw [if_neg z] at e
      exact ih e
  | @fld x en f c i j cs st ts hdf np pos' hds l hs hc hm hh hi hln hBi hBj r ih =>
    refine ⟨_, hm n hn, fun z a _ => ?_, fun z => ?_⟩
    · have z := of_decide_eq_true z
      have e : (if n ∈ cs then gfld i j f hdf q env else handN n q hs env) = some (out, env') := e
      rw [if_pos z] at e
      cases q with
      | none => cases e
      | some fd =>
        obtain ⟨f', d'⟩ := fd
        obtain ⟨dd, v, rfl, h1, h2⟩ := hd
        have e : (if f' = f ∧ i < env.length ∧ j < env.length ∧ i ≠ j then some (Out.nx, (env.set i none).set j (some (.fd (.val (hdf d'))))) else none) = some (out, env') := e
        by_cases zz : f' = f ∧ i < env.length ∧ j < env.length ∧ i ≠ j
        case neg => rw [if_neg zz] at e; cases e
        rw [if_pos zz] at e
        cases e
        obtain ⟨rfl, z2, z3, z4⟩ := zz
        refine ⟨n, z, dd, rfl, rfl, ?_⟩
        refine hh.sm n z a dd F H _ (env.set i none) O _ v d' (sts_hide s i (some (.ref a))) ?_ (by rw [List.length_set]; exact z3) h1 h2 fun F2 H2 v2 O2 g2 s2 => ?_
        · rw [List.getElem?_set_self (by rw [s.len]; exact z2)]
        · have s3 := sts_hide s2 i none
          rw [show ((env.set i none).set j (some (.fd (.val (hdf d'))))).set i none = (env.set i none).set j (some (.fd (.val (hdf d')))) from by
            rw [List.set_comm _ _ (Ne.symm z4), List.set_set]] at s3
          exact k0 F2 H2 _ O2 (g0.trans g2) s3 (b0.trans ((Bor.set hBi).trans ((Bor.set hBj).trans (Bor.set hBi))))
    · have z := of_decide_eq_false z
      have e : (if n ∈ cs then gfld i j f hdf q env else handN n q hs env) = some (out, env') := e
      rw [if_neg z] at e
      exact ih e
theorem ds_tryN {body : List Stmt} {h₀ : ExceptHandler} {pos : Pos} {tb : WX → TS} {g : G} (hb : ∀ (pn : List (Addr × Obj)) (xe : Value → Shared → Prop), DRs (X.tr pn xe) cm B body tb g) (hh : HdN X cm B ks (h₀ :: hds) l hs) (hN : X.N.Nodup)
    (hst : X.stack = X.env :: X.outer := by rfl) (hf : X.env.frame = some X.env.locals := by rfl) :
    DS X cm B (.Try body (h₀ :: hds) [] [] pos) (fun D σ H => tb (wNames X.K (fun _ _ _ _ => False) D l) D σ H) (gtryN ks g hs) := ⟨ps_try_names hst hf hN takes_none5 (fun W pn xe tk _ => (hb pn xe).pe W tk) hh.ok, fun F H σ env O out env' Dn s e k => by
  unfold gtryN at e
  obtain ⟨⟨o1, env1⟩, e1, e2⟩ := bind_some e
  refine (hb [] X.xe).sm (wNames X.K (fun _ _ _ _ => False) Dn l) F H σ env O o1 env1 Dn s e1 ?_
  cases o1 with
  | nx => cases e2; exact k
  | bk => cases e2; exact k
  | ct => cases e2; exact k
  | rt o =>
    have e2 : (match isX o with | some c => if c.c ∈ ks then handN c.c c.d hs env1 else none | none => some (Out.rt o, env1)) = some (out, env') := e2
    cases hc : isX o with
    | some c =>
      rw [hc] at e2
      have e2 : (if c.c ∈ ks then handN c.c c.d hs env1 else none) = some (out, env') := e2
      rw [EndX_x hc]
      by_cases z : c.c ∈ ks
      · rw [if_pos z] at e2
        obtain ⟨c, d⟩ := c
        cases d with
        | none => exact fun F' H' σ' O' g' s' b' => hh.go z s' (show DdOk X.K cm F' none none from rfl) e2 k g' b'
        | some q =>
          obtain ⟨f, d⟩ := q
          exact fun F' H' σ' O' g' s' b' => fun a v h1 h2 => hh.go z s' (show DdOk X.K cm F' (some (f, d)) (some a) from ⟨a, v, rfl, h1, h2⟩) e2 k g' b'
      · rw [if_neg z] at e2; cases e2
    | none =>
      rw [hc] at e2
      cases e2
      rw [EndX_n hc]
      exact k⟩
end
end DL

/-! The data layer: sum(d.values()), d a dict with ints or with tuples for keys. -/
namespace L2
open PySem PySem.Spec PyProof.Rows
theorem preSum_full (ns : List Int) : preSum (fun i => ns.getD i 0) ns.length = ns.sum := by
  rw [PyProof.Rows.preSum_getD, List.take_length]
theorem kt_at {H2 : Hp} {kvs : List (List Key × V)} {xs : List (List Key × Addr × Value)} (rel : KT H2 kvs xs) : ∀ {i : Nat} {y : List Key × Addr × Value}, xs[i]? = some y → ∃ x, kvs[i]? = some x ∧ (x.1 = y.1 ∧ H2 y.2.1 = some (.tup (x.1.map kV)) ∧ RelV x.2 y.2.2) := by
  induction rel with
  | nil => intro i y hy; cases hy
  | @cons a b l1 l2 hq t ih =>
    intro i y hy
    cases i with
    | zero => cases hy; exact ⟨a, rfl, hq⟩
    | succ i => exact ih hy
def tVSum (td : TE) : TE := fun σ H Q => td σ H fun x H1 => ∃ (a : Addr) (ns : List Int), x = .ref a ∧ ((∃ kvs : List (Key × V), Rd H1 a (.dK kvs) ∧ kvs.map (·.2) = ns.map V.int) ∨ ∃ kvs : List (List Key × V), Rd H1 a (.dT kvs) ∧ kvs.map (·.2) = ns.map V.int) ∧ Q (.int ns.sum) H1
section
variable {X : Cx} {o : Expr} {td : TE} {p apos cpos pos : Pos}
theorem vsum_core (hc : X.calm = true) {pins : List (Addr × Obj)} {s : Shared} {σ : St} {H : Hp} {a : Addr} {es : Array DictEntry} {ep : Nat} {ns : List Int} {Q : VK} (I : Inv X pins σ H s) (raw : s.heap.DictRaw a es ep) (hz : es.size = ns.length)
    (hv : ∀ i (hi : i < es.size), ∃ t, es[i].val = Value.int (ns.getD i 0) t) (q : Q (.int ns.sum) H) :
    wpAny (model X.prog X.w) X.A (call (.builtin "sum") [.ref s.heap.objs.size]) (EP X pins σ Q) X.xe { s with heap := s.heap.push { cls := .type "dict_values", data := .fields #[.ref a] } } := by
  have hlt : a < s.heap.objs.size := let ⟨_, ho, _⟩ := raw; Heap.lt_size ho
  have hsz : (s.heap.push { cls := .type "dict_values", data := .fields #[.ref a] }).objs.size = s.heap.objs.size + 1 := Heap.size_push _ _
  have raw1 : (s.heap.push { cls := .type "dict_values", data := .fields #[.ref a] }).DictRaw a es ep := raw.at fun o e => Heap.get?_push_of_some _ e
  refine call_sum_walkG (wpAny_pyIter_values_raw (v := s.heap.objs.size) (d := a) ⟨_, Heap.get?_push_size _ rfl, rfl, rfl⟩ raw1 ?_)
  refine ⟨_, _, _, _, _, _, fun i => ns.getD i 0, rfl, Walks.rawValues (A := X.A.in1) (I.ok.hd hc) (s.heap.push { cls := .type "dict_values", data := .fields #[.ref a] }).objs.size a (by rw [hsz]; exact Nat.ne_of_lt (Nat.lt_succ_of_lt hlt)) es ep,
    ⟨⟨_, Heap.get?_push_size _ rfl, rfl, rfl⟩, raw1.at fun o e => Heap.get?_push_of_some _ e⟩, fun b hb => ?_, fun i v ⟨hi, e⟩ => ?_, fun h' tk t' hk => ?_⟩
  · show b < ((s.heap.push _).push _).objs.size
    rw [Heap.size_push, hsz]
    rcases List.mem_cons.mp hb with e | hb
    · rw [e, hsz]; exact Nat.lt_succ_self _
    · rw [List.mem_singleton.mp hb]; exact Nat.lt_succ_of_lt (Nat.lt_succ_of_lt hlt)
  · obtain ⟨t, e2⟩ := hv i hi
    exact ⟨t, e.trans e2⟩
  · rw [hz, preSum_full]
    refine ⟨.int ns.sum, H, I.kept (t' := tk) fun b u e => hk b u (fun hmem => ?_) (Heap.get?_push_of_some _ (Heap.get?_push_of_some _ e)), ⟨_, rfl⟩, q⟩
    have e1 := List.mem_singleton.mp hmem
    have e2 := Heap.lt_size e
    rw [hsz] at e1
    rw [e1] at e2
    exact absurd e2 (Nat.not_lt.mpr (Nat.le_succ _))
theorem vsum_run (hc : X.calm = true) (ho : PE X o td) (hg : Gl X "sum") (hm : X.mg "sum" = none) (hb : bootBuiltins "sum" = some (.builtin "sum"))
    (hbase : attributeBase o "values" X.env (eval o X.env) = eval o X.env) (hline : (apos.endLine == cpos.line) = true)
    (he : starEach [.Call (.Attribute o "values" apos) [] [] cpos] X.env = (false, eval (.Call (.Attribute o "values" apos) [] [] cpos) X.env) :: starEach [] X.env) (hpl : (backTo pos (starEach [] X.env)).any (·.1) = false) :
    PE X (.Call (.Name "sum" p) [.Call (.Attribute o "values" apos) [] [] cpos] [] pos) (tVSum td) := by
  refine ⟨fun pins s σ H Q I h => ?_⟩
  refine wpAny_Call_Name_kw (ld_blt I hg hm hb ?_ (by decide) (by decide))
  refine PyProof.Rows.callWith_builtin1 ?_ he hpl
  rw [he]
  show wpAny _ _ (spliced ((false, eval (.Call (.Attribute o "values" apos) [] [] cpos) X.env) :: backTo pos (starEach [] X.env))) _ _ s
  refine Calls.spliced_cons ?_
  refine wpAny_Call_method (T := "dict") (id := "dict.values") hbase rfl hline F.plainAttrs_dict F.slot_dict_values F.type_dict_values (thn (ho.run pins s σ H _ I h) fun u s2 ⟨x, H2, I2, rx, a, ns, ex, hrd, q2⟩ => ?_)
  subst ex
  obtain rfl : u = Value.ref a := rx
  rcases hrd with ⟨kvs, hrd, hns⟩ | ⟨kvs, hrd, hns⟩
  · obtain ⟨z, hs, vs, rel, dd⟩ := dk_rd I2.hok hrd
    obtain ⟨es, ep, raw, hz, hes⟩ := dd.raw
    have hl : vs.length = ns.length := by
      have e1 := congrArg List.length hns
      rw [List.length_map, List.length_map] at e1
      rw [← e1]
      exact (KV.length rel).symm
    refine ⟨dd.typeIs, dd.mapOf.noDict, ?_⟩
    show wpAny _ _ (callWith cpos (.builtin "dict.values") [.ref a] [] []) _ X.xe s2
    refine method_meetsIn F.slot_dict_values F.entry_dict_values rfl (PySem.evalArgs_none ⟨rfl, dd.typeIs, F.args_dict_values_1 _, _, meets_dict_values_raw a hs, ⟨es, ep, raw⟩, ?_⟩)
    refine Calls.spliced_nil (vsum_core hc I2 raw (by rw [hz, hl]) (fun i hi => ?_) q2)
    have hi2 : i < vs.length := by rw [← hz]; exact hi
    have h0 : vs[i]? = some (vs[i].1, vs[i].2) := List.getElem?_eq_getElem hi2
    have e0 := (hes i hi _ _ h0).2
    obtain ⟨x, h1, h2⟩ := KV.at' rel h0
    have e1 : (kvs.map (·.2))[i]? = some x := by rw [List.getElem?_map, h1] <;> rfl
    rw [hns, List.getElem?_map] at e1
    obtain ⟨j, hj, e2⟩ := Option.map_eq_some_iff.mp e1
    subst e2
    obtain ⟨t, e3⟩ := h2
    refine ⟨t, ?_⟩
    rw [e0, e3, List.getD_eq_getElem?_getD, hj] <;> rfl
  · obtain ⟨z, hs, xs, rel, dd⟩ := dt_rd I2.hok hrd
    obtain ⟨es, ep, raw, hz, hes⟩ := dd.raw
    have hl : xs.length = ns.length := by
      have e1 := congrArg List.length hns
      rw [List.length_map, List.length_map] at e1
      rw [← e1]
      exact (Paired.length rel).symm
    refine ⟨dd.typeIs, fun b e => ?_, ?_⟩
    · exact PyProof.Rows.dictOfH_noDict dd b e
    show wpAny _ _ (callWith cpos (.builtin "dict.values") [.ref a] [] []) _ X.xe s2
    refine method_meetsIn F.slot_dict_values F.entry_dict_values rfl (PySem.evalArgs_none ⟨rfl, dd.typeIs, F.args_dict_values_1 _, _, meets_dict_values_raw a hs, ⟨es, ep, raw⟩, ?_⟩)
    refine Calls.spliced_nil (vsum_core hc I2 raw (by rw [hz, hl]) (fun i hi => ?_) q2)
    obtain ⟨y, hy, _, e0, _⟩ := hes i hi
    obtain ⟨x, h1, h2⟩ : ∃ x, kvs[i]? = some x ∧ (x.1 = y.1 ∧ H2 y.2.1 = some (.tup (x.1.map kV)) ∧ RelV x.2 y.2.2) := by
      exact kt_at rel hy
    have e1 : (kvs.map (·.2))[i]? = some x.2 := by rw [List.getElem?_map, h1] <;> rfl
    rw [hns, List.getElem?_map] at e1
    obtain ⟨j, hj, e2⟩ := Option.map_eq_some_iff.mp e1
    have h3 := h2.2.2
    rw [← e2] at h3
    obtain ⟨t, e3⟩ := h3
    refine ⟨t, ?_⟩
    rw [e0, e3, List.getD_eq_getElem?_getD, hj] <;> rfl
end
end L2
namespace DL
open PySem PySem.Spec PyProof.Rows L2
def vsmF : Fd → Option Int
  | .dik ks => (toInts (ks.map (·.2))).map List.sum
  | .val (.dik ks) => (toInts (ks.map (·.2))).map List.sum
  | .dit ks => (toInts (ks.map (·.2))).map List.sum
  | .val (.dit ks) => (toInts (ks.map (·.2))).map List.sum
  | _ => none
def pvsm (fx : P Fd) : P D := fun env => (fx env).bind fun x => (vsmF x).map D.int
section
variable {X : Cx} {cm : Cm} {a : Expr} {ta : TE} {fx : P Fd} {pos p apos cpos : Pos}
theorem vsm_at {K : PySem.W.Frag} {F H : Hp} {v : V} {x : Fd} {S : Rg} {n : Int} (ow : OwF K cm F H v x S) (fh : SmH F H) (e : vsmF x = some n) :
    ∃ (a : Addr) (ns : List Int), v = .ref a ∧ ((∃ kvs : List (Key × V), Rd H a (.dK kvs) ∧ kvs.map (·.2) = ns.map V.int) ∨ ∃ kvs : List (List Key × V), Rd H a (.dT kvs) ∧ kvs.map (·.2) = ns.map V.int) ∧ ns.sum = n := by
  cases ow with
  | val rr =>
    cases rr <;> try (cases e; done)
    · rename_i h1 h2 h3
      obtain ⟨ns, h4, h5⟩ := Option.map_eq_some_iff.mp e
      exact ⟨_, ns, rfl, .inl ⟨_, .of (fh.at h1), RpA.toInts h3 h4⟩, h5⟩
    · rename_i h1 h2 h3
      obtain ⟨ns, h4, h5⟩ := Option.map_eq_some_iff.mp e
      exact ⟨_, ns, rfl, .inr ⟨_, .of (fh.at h1), RpA.toInts h3 h4⟩, h5⟩
  | dik h1 h2 h3 z =>
    obtain ⟨ns, h4, h5⟩ := Option.map_eq_some_iff.mp e
    exact ⟨_, ns, rfl, .inl ⟨_, .of h1, RpA.toInts h3 h4⟩, h5⟩
  | dit h1 h2 h3 z =>
    obtain ⟨ns, h4, h5⟩ := Option.map_eq_some_iff.mp e
    exact ⟨_, ns, rfl, .inr ⟨_, .of h1, RpA.toInts h3 h4⟩, h5⟩
  | _ => cases e
theorem dp_vsum (hc : X.calm = true) (hm : X.mg "sum" = none) (ho : DX X cm a ta fx) (hg : Gl X "sum" := by rfl) (hbase : attributeBase a "values" X.env (eval a X.env) = eval a X.env := by rfl) (hline : (apos.endLine == cpos.line) = true := by rfl)
    (he : starEach [.Call (.Attribute a "values" apos) [] [] cpos] X.env = (false, eval (.Call (.Attribute a "values" apos) [] [] cpos) X.env) :: starEach [] X.env := by rfl) (hpl : (backTo pos (starEach [] X.env)).any (·.1) = false := by rfl) :
    DP X cm (.Call (.Name "sum" p) [.Call (.Attribute a "values" apos) [] [] cpos] [] pos) (tVSum ta) (pvsm fx) := by
  refine ⟨vsum_run hc ho.pe hg hm (by decide +kernel) hbase hline he hpl, fun F H σ env O d Q s e k => ?_⟩
  obtain ⟨x, e1, e⟩ := bind_some e
  obtain ⟨n, e2, rfl⟩ := Option.map_eq_some_iff.mp e
  refine ho.sm F H σ env O x _ s e1 fun v S ow => ?_
  obtain ⟨q, ns, rfl, g, rfl⟩ := vsm_at ow s.fh e2
  exact ⟨q, ns, rfl, g, k _ (.int _)⟩
end
end DL

/-! The data layer: for k, v in d.items(), d a locked dict whose keys are tuples; an argument that is locked as it is passed. -/
namespace L2
open PySem PySem.Spec PyProof.Rows
section
variable {X : Cx} {pins : List (Addr × Obj)} {σ : L2.St} {H : Hp} {s : Shared} {d : Addr} {o : Obj}
theorem frzT2 {kvs : List (List Key × V)} (I : Inv X pins σ H s) (h : H d = some (.frz o (.dT kvs))) :
    (d == sysModules) = false ∧ s.heap.get? d = some o ∧ o.ExactDict ∧ ∃ (es : Array DictEntry) (ep : Nat), o.data = .dict es ep ∧ es.size = kvs.length ∧
      ∀ (i : Nat) (k : List Key) (v : V), kvs[i]? = some (k, v) → ∃ (en : DictEntry) (q : Addr), es[i]? = some en ∧ en.key = .ref q ∧ H q = some (.tup (k.map kV)) ∧ RelV v en.val := by
  obtain ⟨hd, z, hs, xs, pr, o', es, ep, ho, hx, hdt, he, _⟩ := I.hok d _ h
  rw [hd] at ho
  cases ho
  refine ⟨hs, hd, hx, es, ep, hdt, ?_, fun i k v e => ?_⟩
  · have l1 : es.size = xs.length := size_of_entries he
    have l2 : kvs.length = xs.length := Paired.length pr
    omega
  · obtain ⟨b, hb, e1, e2, e3⟩ := L2.paired_get pr e
    have q := entry_at he i
    rw [hb] at q
    exact ⟨_, b.2.1, q, rfl, e2, e3⟩
end
/-- the pairs of a locked dict whose keys are tuples -/
def Itit (d : Addr) (o : Obj) (kvs : List (List Key × V)) : It :=
  ⟨fun i H => H d = some (.frz o (.dT kvs)) ∧ i < kvs.length, fun i H x H' => ∃ T q k v, kvs[i]? = some (k, v) ∧ x = .ref T ∧ H T = none ∧ H q = some (.tup (k.map kV)) ∧ H' = upd H T (.tup [.ref q, v]), fun i H => H d = some (.frz o (.dT kvs)) ∧ kvs.length ≤ i⟩
section
variable {P : Program} {w : World} {K : PySem.W.Frag} {d : Addr} {o : Obj} {es : Array DictEntry} {ep : Nat}
theorem turn_itemsT {kvs : List (List Key × V)} {elts : List Expr} {kk : Nat} {tpos : Pos} (it : Addr) (hod : o.data = .dict es ep) :
    Turn P w K (.Tuple elts kk tpos) (Itit d o kvs) [it] it (fun i h => ∃ ok ov, IsItemIter h it d i kvs.length ep ok ov) where
  mem := by simp
  obj := fun i h st b hb => by
    have e : b = it := by simpa using hb
    subst e
    obtain ⟨ok, ov, e⟩ := st
    exact ⟨_, e, fun v z => nomatch z⟩
  keep := fun i h h' st k => let ⟨ok, ov, e⟩ := st; ⟨ok, ov, k it (by simp) _ e⟩
  item := by
    intro X hP hw hK hc i pins s σ H E I hf st hg
    subst hP hw hK
    obtain ⟨hd, hi⟩ := hg
    obtain ⟨hs, hgd, hx, es', ep', hdt, hsz, ent⟩ := frzT2 I hd
    obtain ⟨rfl, rfl⟩ := dict_ep hod hdt
    have raw : s.heap.DictRaw d es' ep' := ⟨o, hgd, hx, hdt⟩
    obtain ⟨⟨k, v⟩, hkv⟩ : ∃ p, kvs[i]? = some p := ⟨kvs[i], List.getElem?_eq_getElem hi⟩
    obtain ⟨en, q, hen, hkey, hq, ru⟩ := ent i k v hkv
    have hi2 : i < es'.size := by rw [hsz]; exact hi
    have een : es'[i] = en := by
      rw [Array.getElem?_eq_getElem hi2] at hen
      exact Option.some.inj hen
    obtain ⟨ok, ov, he⟩ := st
    rw [← hsz] at he
    have hlt : it < s.heap.objs.size := Heap.lt_size he
    refine wpAny_pyNext_items_item_raw he raw hi2 fun h' ho hT hz hk => ?_
    rw [een, hkey] at hT
    refine ⟨_, rfl, wpAny_letOwnedTupleGo_items (s := { s with heap := h' }) ho fun h'' he' sb => ?_⟩
    have hT2 : h''.get? s.heap.objs.size = some { cls := .type "tuple", data := .seq #[.ref q, en.val] } := (sb.2 _ (Nat.ne_of_gt hlt)).trans hT
    have new : ObjOk X.prog X.w (upd H s.heap.objs.size (.tup [.ref q, v])) h'' s.heap.objs.size (.tup [.ref q, v]) :=
      ⟨by show 2 ≤ sizeLine; decide, [.ref q, en.val], .cons rfl (.cons ru .nil), ⟨_, hT2, rfl, _, rfl⟩⟩
    have I1 : Inv X pins σ (upd H s.heap.objs.size (.tup [.ref q, v])) { s with heap := h'' } :=
      I.turnedNew (t' := s.toks) (ch := [it]) (fun b ob hb e => (sb.2 b (by simpa using hb)).trans (hk b ob (by simpa using hb) e)) hf (Nat.le_refl _) new
    refine ⟨.ref s.heap.objs.size, _, I1, rfl, ⟨_, q, k, v, hkv, rfl, I.hok.fresh (Nat.le_refl _), hq, rfl⟩, ⟨es'[i].key, es'[i].val, ?_⟩, fun b hb => ?_⟩
    · rw [← hsz]; exact he'
    · have e : b = it := by simpa using hb
      rw [e, upd_ne (Nat.ne_of_lt hlt)]
      exact (hf it (by simp)).1
  done := by
    intro X hP hw hK hc i pins s σ H E I hf st hg
    subst hP hw hK
    obtain ⟨hd, hi⟩ := hg
    obtain ⟨f0, f1, f2, f3, f4, f5⟩ := hf it (by simp)
    obtain ⟨hs, hgd, hx, es', ep', hdt, hsz, ent⟩ := frzT2 I hd
    obtain ⟨rfl, rfl⟩ := dict_ep hod hdt
    obtain ⟨ok, ov, he⟩ := st
    rw [← hsz] at he
    exact wpAny_pyNext_items_end_raw (I.ok.hd hc) he ⟨o, hgd, hx, hdt⟩ (by rw [hsz]; exact hi) fun h' eb => ⟨rfl, I.turned (t' := s.toks) (fun b ob hb e => eb b ob hb e) f0 f1 f3 f4 f5⟩
  self := fun A i s Q E st h => let ⟨_, _, e⟩ := st; PySem.W.kcp_self e h
def iItemsT (td : TE) : TI := fun σ H R => td σ H fun x H1 => ∃ d o kvs, x = .ref d ∧ H1 d = some (.frz o (.dT kvs)) ∧ R (Itit d o kvs) H1
end
section
variable {X : Cx} {e : Expr} {td : TE} {apos cpos : Pos}
theorem pi_itemsT {elts : List Expr} {kk : Nat} {tpos : Pos} (he : PE X e td) (hbase : attributeBase e "items" X.env (eval e X.env) = eval e X.env := by rfl) (hline : (apos.endLine == cpos.line) = true := by rfl) :
    PI X (.Tuple elts kk tpos) (.Call (.Attribute e "items" apos) [] [] cpos) (iItemsT td) := by
  refine ⟨fun pins s σ H R I h => ?_⟩
  refine wpAny_Call_method (T := "dict") (id := "dict.items") hbase rfl hline F.plainAttrs_dict F.slot_dict_items F.type_dict_items (thn (he.run pins s σ H _ I h) fun u s1 ⟨x, H1, I1, rx, d, o, kvs, ex, hd, q⟩ => ?_)
  subst ex
  obtain rfl : u = Value.ref d := rx
  obtain ⟨hs, hgd, hx, es, ep, hdt, hsz, ent⟩ := frzT2 I1 hd
  have raw : s1.heap.DictRaw d es ep := ⟨o, hgd, hx, hdt⟩
  have htn : ∀ b, Value.ref d = .ref b → ∃ ob, s1.heap.get? b = some ob ∧ ob.dict = none := fun b e => by
    cases e
    exact ⟨o, hgd, hx.2.1⟩
  refine ⟨raw.typeIs, htn, ?_⟩
  have I2 : Inv X pins σ H1 { s1 with heap := s1.heap.push { cls := .type "dict_items", data := .fields #[.ref d] } } := I1.kept (t' := s1.toks) fun b ob q => Heap.get?_push_of_some _ q
  have fin : wpAny (model X.prog X.w) X.A (pyIter (.ref s1.heap.objs.size)) (PIE X pins σ (.Tuple elts kk tpos) R) X.xe { s1 with heap := s1.heap.push { cls := .type "dict_items", data := .fields #[.ref d] } } := by
    refine wpAny_pyIter_items_raw (d := d) ⟨_, Heap.get?_push_size _ rfl, rfl, rfl⟩ (raw.at fun b e => Heap.get?_push_of_some _ e) (pi_one (tk := s1.toks) I2 _ (turn_itemsT _ hdt) ⟨.none, .none, ?_⟩ q)
    rw [← hsz]
    exact Heap.get?_push_size _ rfl
  show wpAny _ _ (callWith cpos (.builtin "dict.items") [.ref d] [] []) _ X.xe s1
  exact method_meetsIn F.slot_dict_items F.entry_dict_items rfl (PySem.evalArgs_none ⟨rfl, raw.typeIs, F.args_dict_items_1 _, _, meets_dict_items_raw d hs, ⟨es, ep, raw⟩, fin⟩)
theorem walk_itemsT {d : Addr} {o : Obj} {kvs : List (List Key × V)} : Walk (Itit d o kvs) kvs.length (fun H => H d = some (.frz o (.dT kvs)))
    (fun i H x H' => ∃ T q k v, kvs[i]? = some (k, v) ∧ x = .ref T ∧ H T = none ∧ H q = some (.tup (k.map kV)) ∧ H' = upd H T (.tup [.ref q, v])) :=
  ⟨fun _ _ hi q => ⟨q, hi⟩, fun _ q => ⟨q, Nat.le_refl _⟩, fun _ _ _ _ _ _ y => y⟩
end
end L2
namespace DL
open PySem PySem.Spec PyProof.Rows L2
/-! ### an argument that is locked as it is passed -/
def rdl (i : Nat) : M D := fun env => match env[i]? with
  | some (some (.fd (.dit ks))) => some (.lit ks, env.set i (some (.fd (.val (.lit ks)))))
  | _ => none
section
variable {X : Cx} {cm : Cm} {x : Str} {p : Pos}
theorem de_lkv (i : Nat) (hN : X.N[i]? = some x := by rfl) (hv : Vis X.env.scope x := by first | exact Or.inl rfl | exact Or.inr (Or.inl rfl) | exact Or.inr (Or.inr rfl)) (hd : (x == ("__debug__" : Str)) = false := by decide) (hcd : (x == ("__classdict__" : Str)) = false := by decide) :
    DE X cm (.Name x p) (tLockV (tVar i)) (rdl i) := ⟨pe_lockV (pe_var hN hv hd hcd), fun F H σ env O d env' Q s e k => by
  unfold rdl at e
  split at e
  · rename_i ks q
    cases e
    obtain ⟨v, ev, ow⟩ := s.at_ i _ q
    cases ow with
    | fd ow =>
      cases ow with
      | @dit a kvs _ _ h1 h2 h3 z =>
        have hF := (s.ow i a z).1
        refine ⟨a, .dT kvs, h1, trivial, fun od => ⟨_, ev, ?_⟩⟩
        have r : Rp X.K cm (upd F a (.frz od (.dT kvs))) (.ref a) (.lit ks) := .lit upd_same h2 (h3.mono (same_new hF))
        obtain ⟨O1, s1, g1⟩ := s.lock (od := od) (u := .dT kvs) q ev z r
        exact k _ _ _ O1 g1 s1 r
  · cases e⟩
end
/-! ### for k, v in d.items(), d a locked dict whose keys are tuples, in slot i -/
def gforT (i : Nat) (tg : Tg) (body : G) : G := fun env => match env[i]? with
  | some (some (.fd (.val (.lit ks)))) => forD tg body (ks.map fun q => .tup [.tup (q.1.map kD), q.2]) env
  | _ => none
section
variable {X : Cx} {cm : Cm} {B : List Nat} {pos px : Pos} {x : Str}
theorem wk_turnT {K : PySem.W.Frag} {F0 F H : Hp} {σ : L2.St} {env : Env} {O : Nat → Rg} {T q : Addr} {k : List Key} {v : V} {d : D} (hT : H T = none) (hq : H q = some (.tup (k.map kV))) (r : Rp K cm F0 v d) (sm : Same F0 F) (s : Sts K cm F H σ env O) :
    ∃ F', Sts K cm F' (upd H T (.tup [.ref q, v])) σ env O ∧ Go (Un O) F H (Un O) F' (upd H T (.tup [.ref q, v])) ∧ Rp K cm F' (.ref T) (.tup [.tup (k.map kD), d]) := by
  obtain ⟨F1, s1, g1, r1⟩ := s.tuple hq (rpA_k k)
  obtain ⟨s2, g2⟩ := s1.alloc (o := .tup [.ref q, v]) hT
  exact ⟨_, s2, g1.trans g2, .tup upd_same ((RpA.cons r1 (.cons (r.mono (sm.trans g1.ff)) .nil)).mono (same_new (s1.fnone hT)))⟩
theorem ds_forT {elts : List Expr} {kk : Nat} {tpos ap cp : Pos} {g : TG} {tgd : Tg} {t : TS} {body : List Stmt} {gb : G} (i : Nat) (hg : DG X cm B (.Tuple elts kk tpos) g tgd) (hb : DSs X cm B body t gb) (hN : X.N[i]? = some x := by rfl) (hv : Vis X.env.scope x := by first | exact Or.inl rfl | exact Or.inr (Or.inl rfl) | exact Or.inr (Or.inr rfl)) (hd : (x == ("__debug__" : Str)) = false := by decide) (hcd : (x == ("__classdict__" : Str)) = false := by decide)
    (hbase : attributeBase (.Name x px) "items" X.env (eval (.Name x px) X.env) = eval (.Name x px) X.env := by rfl) (hline : (ap.endLine == cp.line) = true := by rfl)
    (hc : X.calm = true := by rfl) (hp : PassesOwn (model X.prog X.w) X.A X.env X.xe := by exact PassesOwn.never) (hs : ∀ y, foldedSetIterable (.Call (.Attribute (.Name x px) "items" ap) [] [] cp) X.env y = pure y := by intro _; rfl) :
    DS X cm B (.For (.Tuple elts kk tpos) (.Call (.Attribute (.Name x px) "items" ap) [] [] cp) body [] pos) (tFor (iItemsT (tVar i)) g t) (gforT i tgd gb) := ⟨ps_for hp hc (pi_itemsT (pe_var hN hv hd hcd) hbase hline) hg.pe hb.pe hs, fun F H σ env O out env' Dn s e k => by
  unfold gforT at e
  split at e
  · rename_i ks q
    obtain ⟨v, ev, ow⟩ := s.at_ i _ q
    cases ow with
    | fd ow =>
      cases ow with
      | val r =>
        cases r with
        | @lit a od kvs _ h1 h2 h3 =>
          obtain ⟨kl, ka⟩ := keys_at h2 h3
          refine ⟨_, ev, a, od, kvs, rfl, s.fh.at h1, ?_⟩
          refine for_it (D := Dn) walk_itemsT (fun j σ2 H2 => ∃ F2 env2 O2, Go (Un O) F H (Un O2) F2 H2 ∧ Same F F2 ∧ Sts X.K cm F2 H2 σ2 env2 O2 ∧ Bor B σ σ2 ∧ forD tgd gb ((ks.map fun q => D.tup [.tup (q.1.map kD), q.2]).drop j) env2 = some (out, env'))
            ⟨F, env, O, Go.refl, Same.refl _, s, .refl, e⟩ (fun j σ2 H2 _ ⟨F2, env2, O2, _, sm, s2, _, _⟩ => s2.fh.at (sm _ _ h1)) ?_ ?_
          · rintro j x σ2 H2 H' hi2 ⟨F2, env2, O2, g2, sm, s2, b2, e2⟩ hy
            obtain ⟨T, qa, k', v', i1, rfl, hT, hq, rfl⟩ := hy
            obtain ⟨d', i3, r4⟩ := ka i1
            have hd : (ks.map fun q => D.tup [.tup (q.1.map kD), q.2])[j]? = some (.tup [.tup (k'.map kD), d']) := by rw [List.getElem?_map, i3]; rfl
            have hlt := (List.getElem?_eq_some_iff.mp hd).1
            rw [List.drop_eq_getElem_cons hlt, (List.getElem?_eq_some_iff.mp hd).2] at e2
            unfold forD at e2
            obtain ⟨env3, e3, e2⟩ := bind_some e2
            obtain ⟨⟨o4, env4⟩, e4, e2⟩ := bind_some e2
            obtain ⟨F3, s3, g3, r3⟩ := wk_turnT hT hq r4 sm s2
            refine hg.sm F3 _ σ2 env2 O2 _ _ env3 _ s3 r3 e3 fun σ4 s4 b4 => ?_
            refine hb.sm F3 _ σ4 env3 O2 o4 env4 _ s4 e4 ?_
            have gg := g2.trans g3
            have bb := b2.trans b4
            cases o4 with
            | nx => exact fun F5 H5 σ5 O5 g5 s5 b5 => ⟨F5, env4, O5, gg.trans g5, (sm.trans g3.ff).trans g5.ff, s5, bb.trans b5, e2⟩
            | ct => exact fun F5 H5 σ5 O5 g5 s5 b5 => ⟨F5, env4, O5, gg.trans g5, (sm.trans g3.ff).trans g5.ff, s5, bb.trans b5, e2⟩
            | bk =>
              have e2 : some (Out.nx, env4) = some (out, env') := e2
              cases e2
              intro F5 H5 σ5 O5 g5 s5 b5
              exact k F5 H5 σ5 O5 (gg.trans g5) s5 (bb.trans b5)
            | rt o =>
              have e2 : some (Out.rt o, env4) = some (out, env') := e2
              cases e2
              intro F5 H5 σ5 v O5 R g5 s5 b5 ow n
              exact k F5 H5 σ5 v O5 R (gg.trans g5) s5 (bb.trans b5) ow n
          · rintro σ2 H2 ⟨F2, env2, O2, g2, sm, s2, b2, e2⟩
            rw [← kl, show ks.length = (ks.map fun q => D.tup [.tup (q.1.map kD), q.2]).length from (List.length_map _).symm, List.drop_length] at e2
            cases e2
            exact k F2 H2 σ2 O2 g2 s2 b2
  · cases e⟩
end
end DL

/-! The data layer: sorted(list of int tuples), whatever the item of a list of one is. -/
namespace L2
open PySem PySem.Spec PyProof.Rows
def rSortZ (K : PySem.W.Frag) : List V → Hp → VK → Prop := fun vs H Q => DL.rSortL K vs H Q ∨ ∃ (a : Addr) (xs : List V), vs = [V.ref a] ∧ SqL K H a xs ∧ xs.length ≤ 1 ∧ ∀ p : Addr, H p = none → Q (.ref p) (upd H p (.lst xs))
theorem perm_le1 {α : Type} {a b : List α} (h : a.Perm b) (hl : b.length ≤ 1) : a = b := by
  match b, hl with
  | [], _ => exact List.perm_nil.mp h
  | [x], _ => exact List.perm_singleton.mp h
theorem cr_sortZ {X : Cx} : CallR X (.builtin "sorted") (rSortZ X.K) := by
  intro pins s σ H vs us Q I r h
  rcases h with h | ⟨a, xs, rfl, hs, h1, q⟩
  · exact DL.cr_sortL pins s σ H vs us Q I r h
  · obtain ⟨its, rv, hl, hz⟩ := I.list hs
    rw [Vals.ref1 r]
    have hle : its.length ≤ 1 := by rw [← rv.length]; exact h1
    refine Srt.sorted_any hl.isList (by rw [← rv.length]; exact hz) (fun h2 => by omega) fun out hp => ?_
    have e := perm_le1 hp hle
    subst e
    obtain ⟨n, hn⟩ := sortedAll_at s.heap out out.toArray
    exact ⟨.ref (s.heap.objs.size + 1), upd H (s.heap.objs.size + 1) (.lst xs), I.laid (t' := s.toks) (fun b o e => sortedAll_old e) (Nat.le_succ _) ⟨hz, out, n, rv, hn⟩, rfl, q _ (I.hok.fresh (Nat.le_succ _))⟩
end L2
namespace DL
open PySem PySem.Spec PyProof.Rows L2
def sortTZ : List D → Option Od
  | [.lst ds] => if ds.length ≤ 1 then some (.fd (.lst ds)) else sortTL [.lst ds]
  | _ => none
theorem sr_sortTZ {K : PySem.W.Frag} {cm : Cm} : SmR K cm (rSortZ K) sortTZ := fun F H σ env O vs ds o Q s ra e k => by
  unfold sortTZ at e
  split at e
  · rename_i ds
    by_cases c : ds.length ≤ 1
    · rw [if_pos c] at e
      cases e
      obtain ⟨v, rfl, r⟩ := ra.one
      cases r with
      | lst hp rs => exact .inr ⟨_, _, rfl, .of (s.fh.at hp), by rw [rs.len]; exact c, fun p np => k.fresh s np rs⟩
    · rw [if_neg c] at e
      exact .inl (sr_sortTL F H σ env O _ _ o Q s ra e k)
  · cases e
end DL
namespace DL
open PySem PySem.Spec PyProof.Rows L2
/-! ### a list of one's own: list * int -/
def mulO (a b : D) : Option Od := match mulL a b with
  | some (.lst xs) => some (.fd (.lst xs))
  | _ => none
theorem mulO_inv {a b : D} {o : Od} (h : mulO a b = some o) : ∃ xs i, a = .lst xs ∧ b = .int i ∧ 0 ≤ i ∧ i ≤ 1000 ∧ xs.length ≤ 1000 ∧ o = .fd (.lst (List.replicate i.toNat xs).flatten) := by
  unfold mulO at h
  split at h
  · rename_i ys hm
    cases h
    unfold mulL at hm
    split at hm
    · rename_i xs i
      obtain ⟨⟨c1, c2, c3⟩, hm⟩ := ite_some hm
      cases hm
      exact ⟨_, _, rfl, rfl, c1, c2, c3, rfl⟩
    · cases hm
  · cases h
def mmul (fa fb : M D) : M Od := mb fa fun x => mb fb fun y => mo (mulO x y)
section
variable {X : Cx} {cm : Cm} {a b : Expr} {ta tb : TE} {fa fb : M D} {pos : Pos}
theorem do_mul (ha : DE X cm a ta fa) (hb : DE X cm b tb fb) : DO X cm (.BinOp a .Mult b pos) (tOp rRep ta tb) (mmul fa fb) := ⟨pe_op op_rep ha.pe hb.pe, fun F H σ env O d env' Q s e k => by
  obtain ⟨x, env1, e1, e⟩ := mb_some e
  obtain ⟨y, env2, e2, e⟩ := mb_some e
  obtain ⟨e3, e4⟩ := mo_some e
  dsimp only at e3 e4
  subst e4
  refine ha.sm F H σ env O x _ _ s e1 fun F1 H1 v1 O1 g1 s1 r1 => ?_
  refine hb.sm F1 H1 σ env1 O1 y _ _ s1 e2 fun F2 H2 v2 O2 g2 s2 r2 => ?_
  have r1 := r1.mono g2.ff
  obtain ⟨xs, i, rfl, rfl, c1, c2, c3, rfl⟩ := mulO_inv e3
  cases r2
  cases r1 with
  | lst h1 q1 =>
    rename_i p vs
    have hl := q1.len
    have h1' : i.toNat ≤ 1000 := by omega
    have h2 : vs.length * i.toNat ≤ 1000 * 1000 := Nat.mul_le_mul (by omega) h1'
    have h3 : 1000 * 1000 ≤ sizeLine := by decide
    refine ⟨p, i, vs, rfl, rfl, s2.fh.at h1, by omega, by omega, by omega, fun q hq => ?_⟩
    exact ((k.go g1).go g2).fresh s2 hq (q1.rep i.toNat)⟩
end
end DL

/-! The data layer: products of great ints; x[i] += e, x a list of one's own. -/
namespace DL
open PySem PySem.Spec PyProof.Rows L2
section
variable {K : PySem.W.Frag} {cm : Cm}
def mulWC (i j : Int) : Bool := decide (i.natAbs.log2 + j.natAbs.log2 < 1000000)
def mulW := lcI mulWC fun i j => .int (i * j)
theorem pu_mulW : Pure2 K cm (rI L2.CMulW fun i j => .int (i * j)) mulW := pu_I (fun i j h => by unfold L2.CMulW; exact of_decide_eq_true (show mulWC i j = true from h)) fun _ _ _ => .int _
end
/-! ### x[b] += e -/
def rGetL : V → V → Hp → VK → Prop := fun o i H Q => ∃ p xs k v, o = .ref p ∧ i = .int k ∧ H p = some (.lst xs) ∧ 0 ≤ k ∧ xs[k.toNat]? = some v ∧ Q v H
theorem get_listL {X : Cx} : PGet X rGetL := by
  intro pins s σ H o i ov iv Q I ro ri h
  obtain ⟨p, xs, k, v, rfl, rfl, hp, h0, hv, q⟩ := h
  cases ro
  obtain ⟨t, rfl⟩ := ri
  obtain ⟨its, n, r, ho, hz⟩ := I.lst hp
  obtain ⟨w, ew, rw'⟩ := r.get hv
  have hlt := (List.getElem?_eq_some_iff.mp hv).1
  have hn := line63
  have il : s.heap.IsList p its.toArray := ⟨_, ho, rfl, n, rfl⟩
  exact getItem_listL il h0 (by omega) ew ⟨v, H, I, rw', q⟩
def gsau (j : Nat) (fb fe : P D) : G := fun env => (lstAt j env).bind fun ds => (fb env).bind fun b => (toI b).bind fun z => if 0 ≤ z ∧ z.toNat < ds.length then (ds[z.toNat]?).bind fun old => (toI old).bind fun x => (fe env).bind fun v => (toI v).map fun y => (.nx, env.set j (some (.fd (.lst (ds.set z.toNat (.int (x + y))))))) else none
section
variable {X : Cx} {cm : Cm} {B : List Nat} {b e : Expr} {tb te : TE} {fb fe : P D} {pos p2 px : Pos} {x : Str}
theorem ds_sau (j : Nat) (hb : DP X cm b tb fb) (he : DP X cm e te fe) (hN : X.N[j]? = some x := by rfl) (hv : Vis X.env.scope x := by first | exact Or.inl rfl | exact Or.inr (Or.inl rfl) | exact Or.inr (Or.inr rfl)) (hd : (x == ("__debug__" : Str)) = false := by decide) (hcd : (x == ("__classdict__" : Str)) = false := by decide)
    (ha : ∀ ov iv new, augStore b ov iv new = (do holding [new, ov, iv] (setItem ov iv new); release [new, ov, iv] []; pure .next) := by intros; rfl) :
    DS X cm B (.AugAssign (.Subscript (.Name x px) b p2) .Add e pos) (tAugS (tVar j) tb te rGetL (ipI fun i j => i + j) rSetL) (gsau j fb fe) := ⟨ps_augS (pe_var hN hv hd hcd) hb.pe get_listL he.pe ip_add set_list ha, fun F H σ env O out env' Dn s e' k => by
  obtain ⟨ds, e2, e'⟩ := bind_some e'
  obtain ⟨bb, e3, e'⟩ := bind_some e'
  obtain ⟨z, e4, e'⟩ := bind_some e'
  by_cases cc : 0 ≤ z ∧ z.toNat < ds.length
  case neg => rw [if_neg cc] at e'; cases e'
  rw [if_pos cc] at e'
  obtain ⟨c1, c2⟩ := cc
  obtain ⟨old, e5, e'⟩ := bind_some e'
  obtain ⟨xx, e6, e'⟩ := bind_some e'
  obtain ⟨v, e7, e'⟩ := bind_some e'
  obtain ⟨y, e8, e9⟩ := map_some e'
  cases e9
  obtain ⟨p, vs, q, ev, hp, ra, zz⟩ := lstAt_at s e2
  refine ⟨_, ev, hb.sm F H σ env O bb _ s e3 fun w rw' => ?_⟩
  have hz := rw'.toI e4
  subst hz
  have hlen := ra.len
  have hlt : z.toNat < vs.length := by omega
  have hg : vs[z.toNat]? = some vs[z.toNat] := List.getElem?_eq_getElem hlt
  have rold := ra.at2 hg e5
  have hold := rold.toI e6
  refine ⟨p, vs, z, vs[z.toNat], rfl, rfl, hp, c1, hg, ?_⟩
  refine he.sm F H σ env O v _ s e7 fun w2 rw2 => ?_
  have hy := rw2.toI e8
  subst hy
  refine ⟨xx, y, hold, rfl, ?_⟩
  obtain ⟨s2, g2⟩ := s.wlst (vs' := vs.set z.toNat (.int (xx + y))) (ds' := ds.set z.toNat (.int (xx + y))) q ev zz (ra.set (.int _) _)
  refine ⟨p, vs, z, z.toNat, rfl, rfl, hp, ?_, k _ _ σ O g2 s2 .refl⟩
  unfold ixN
  rw [if_pos c1, if_pos (by omega)]⟩
end
end DL

/-! The plain layer: meanings are evaluated step by step. -/
namespace DL
open PySem PySem.Spec PyProof.Rows L2

abbrev vv (d : D) : Option Od := some (.fd (.val d))
abbrev vl (ds : List D) : Option Od := some (.fd (.lst ds))
/-! ### continuations -/
section
variable {α β : Type}
def mbk (o : Option (α × Env)) (g : α → M β) : Option (β × Env) := match o with
  | some (a, e) => g a e
  | none => none
theorem mbk_some {a : α} {e : Env} {g : α → M β} : mbk (some (a, e)) g = g a e := rfl
theorem mb_k {f : M α} {g : α → M β} {env : Env} : mb f g env = mbk (f env) g := by
  unfold mb mbk
  cases f env <;> rfl
theorem mo_s {a : α} {env : Env} : mo (some a) env = some (a, env) := rfl
theorem mr_s {a : α} {env : Env} : mr a env = some (a, env) := rfl
theorem pu_s {f : P D} {env : Env} : pu f env = mo (f env) env := rfl
theorem put_s {f : P Bool} {env : Env} : put f env = mo (f env) env := rfl
theorem ite_e {c : Prop} [Decidable c] {f g : M α} {env : Env} : (if c then f else g) env = if c then f env else g env := by split <;> rfl
theorem iteG_e {c : Prop} [Decidable c] {f g : G} {env : Env} : (if c then f else g) env = if c then f env else g env := by split <;> rfl
theorem mif_k {c : M Bool} {f g : M α} {env : Env} : mif c f g env = mbk (c env) fun k => if k = true then f else g := mb_k
end
section
variable {env : Env} {f g fa fb fc : M D} {t u : M Bool} {l : M (List D)} {h : M Od}
theorem tst_k : tst f env = mbk (f env) fun d => mo (toB d) := mb_k
theorem m1_k {p : D → Option D} : m1 p fa env = mbk (fa env) fun x => mo (p x) := mb_k
theorem m2_k {p : D → D → Option D} : m2 p fa fb env = mbk (fa env) fun x => mb fb fun y => mo (p x y) := mb_k
theorem mch_k {p q : D → D → Option D} : mch p q fa fb fc env = mbk (fa env) fun x => mb fb fun y => mb (mo ((p x y).bind toB)) fun k => if k = true then mb fc fun z => mo (q y z) else mr (.bl false) := mb_k
def fzk (o : Option (Od × Env)) : Option (D × Env) := o.map fun q => (q.1.frz, q.2)
theorem fz_k : fz h env = fzk (h env) := rfl
theorem fzk_s {o : Od} {e : Env} : fzk (some (o, e)) = some (o.frz, e) := rfl
def ovk (o : Option (D × Env)) : Option (Od × Env) := o.map fun q => (.fd (.val q.1), q.2)
theorem ov_k : ov f env = ovk (f env) := rfl
theorem ovk_s {o : D} {e : Env} : ovk (some (o, e)) = some (.fd (.val o), e) := rfl
theorem frz_v {d : D} : (Od.fd (.val d)).frz = d := rfl
theorem frz_l {d : List D} : (Od.fd (.lst d)).frz = .lst d := rfl
theorem frz_k {d : List (L2.Key × D)} : (Od.fd (.dik d)).frz = .dik d := rfl
theorem frz_t {d : List (List L2.Key × D)} : (Od.fd (.dit d)).frz = .dit d := rfl
theorem frz_o {c : Nat} {fs : List (Str × Fd)} : (Od.obj c fs).frz = .obj c (fs.map fun q => (q.1, q.2.frz)) := rfl
theorem frzF_v {d : D} : (Fd.val d).frz = d := rfl
theorem frzF_l {d : List D} : (Fd.lst d).frz = .lst d := rfl
theorem frzF_k {d : List (L2.Key × D)} : (Fd.dik d).frz = .dik d := rfl
theorem frzF_t {d : List (List L2.Key × D)} : (Fd.dit d).frz = .dit d := rfl
theorem vand_k : vand f g env = mbk (tst f env) fun k => if k = true then g else mr (.bl false) := mb_k
theorem vor_k : vor f g env = mbk (tst f env) fun k => if k = true then mr (.bl true) else g := mb_k
theorem vnot_k : vnot f env = mbk (tst f env) fun k => mr (.bl (!k)) := mb_k
theorem mand_k : mand t u env = mbk (t env) fun k => if k = true then u else mr false := mb_k
theorem mor_k : mor t u env = mbk (t env) fun k => if k = true then mr true else u := mb_k
theorem mnot_k : mnot t env = mbk (t env) fun k => mr (!k) := mb_k
theorem anil_s : anil env = some ([], env) := rfl
theorem acons_k : acons f l env = mbk (f env) fun d => mb l fun ds => mr (d :: ds) := mb_k
theorem mtup_k : mtup l env = mbk (l env) fun ds => mo (szc ds.length (.tup ds)) := mb_k
theorem mlst_k : mlst l env = mbk (l env) fun ds => mo (szc ds.length (.fd (.lst ds))) := mb_k
theorem mcb_k {p : List D → Option Od} : mcb p l env = mbk (l env) fun ds => mo (p ds) := mb_k
theorem mss_k : mss f env = mbk (f env) fun d => mo (ssetB [d]) := mb_k
theorem mix_k : mix fa fb env = mbk (fa env) fun x => mb fb fun i => mo (ixF (.val x) i) := mb_k
theorem minx_k {neg : Bool} {fx : P Fd} : minx neg fa fx env = mbk (fa env) fun a => pu fun env => (fx env).bind fun x => inD neg a x := mb_k
def mslk (fl fh : P (Option Int)) (x : D) : M D := fun env => (fl env).bind fun l => (fh env).bind fun h => mo (slD x l h) env
theorem msl_k {fl fh : P (Option Int)} : msl fa fl fh env = mbk (fa env) fun x => mslk fl fh x := mb_k
theorem mslk_s {fl fh : P (Option Int)} {x : D} : mslk fl fh x env = (fl env).bind fun l => (fh env).bind fun h => mo (slD x l h) env := rfl
theorem rg1_k : rg1 fa env = mbk (fa env) fun x => mo ((toI x).map fun n => (0, n)) := mb_k
theorem rg2_k : rg2 fa fb env = mbk (fa env) fun x => mb fb fun y => mo ((toI x).bind fun i => (toI y).map fun j => (i, j)) := mb_k
theorem mlrg_k {r : M (Int × Int)} : mlrg r env = mbk (r env) fun d => mo (if rgC d = true then some (.fd (.lst ((rgL d.1 d.2).map .int))) else none) := mb_k
theorem mtrg_k {r : M (Int × Int)} : mtrg r env = mbk (r env) fun d => mo (if rgC d = true then some (.tup ((rgL d.1 d.2).map .int)) else none) := mb_k
def rngA (j : Int) : Option (List D) := if -(2 ^ 62) ≤ j ∧ j < 2 ^ 62 then some (rgN 0 j.toNat) else none
def rngB (i j : Int) : Option (List D) := if -(2 ^ 62) ≤ i ∧ i < 2 ^ 62 ∧ -(2 ^ 62) ≤ j ∧ j < 2 ^ 62 then some (rgN i (j - i).toNat) else none
theorem two62 : (2 : Int) ^ 62 = 4611686018427387904 := by decide
theorem rngA_s {j : Int} (h1 : -16777216 ≤ j) (h2 : j ≤ 16777216) : rngA j = some (rgN 0 j.toNat) := if_pos (by rw [two62]; omega)
theorem rngB_s {i j : Int} (h1 : -16777216 ≤ i) (h2 : i ≤ 16777216) (h3 : -16777216 ≤ j) (h4 : j ≤ 16777216) : rngB i j = some (rgN i (j - i).toNat) := if_pos (by rw [two62]; omega)
theorem itR1_k : itR1 f env = mbk (f env) fun d => mo ((toI d).bind rngA) := mb_k
theorem itR2_k : itR2 f g env = mbk (f env) fun d => mb g fun d2 => mo ((toI d).bind fun i => (toI d2).bind fun j => rngB i j) := mb_k
theorem itA_k : itA f env = mbk (f env) fun d => mo (itemsF (.val d)) := mb_k
theorem itEA_k : itEA f env = mbk (f env) fun d => mo ((itemsF (.val d)).map (enD 0)) := mb_k
theorem itZ_k : itZ l env = mbk (l env) fun ds => mo (match ds with | [.tup xs, .tup ys] => some (zpD xs ys) | [.lst xs, .lst ys] => some (zpD xs ys) | _ => none) := mb_k
/-! names -/
theorem set_id {i : Nat} {o : Option Od} (e : env[i]? = some o) : env.set i o = env := by
  refine List.ext_getElem? fun j => ?_
  by_cases h : i = j
  · subst h
    obtain ⟨h1, h2⟩ := List.getElem?_eq_some_iff.mp e
    rw [List.getElem?_set_self h1, e]
  · rw [List.getElem?_set_ne h]
def rdx (i : Nat) (env : Env) : Option (Option Od) → Option (D × Env)
  | some (some (.fd (.val d))) => some (d, env)
  | some (some o) => some (o.frz, env.set i (vv o.frz))
  | _ => none
theorem rd_k {i : Nat} : rd i env = rdx i env env[i]? := by
  unfold rd
  split
  · rename_i o q
    rw [q]
    cases o with
    | obj => rfl
    | ll => rfl
    | pl => rfl
    | fd x =>
      cases x with
      | val d =>
        show some (d, env.set i (some (.fd (.val d)))) = some (d, env)
        rw [set_id q]
      | lst => rfl
      | dik => rfl
      | dit => rfl
  · rename_i q
    cases h : env[i]? with
    | none => rfl
    | some o =>
      cases o with
      | none => rfl
      | some o => exact absurd h (q o)
theorem rdx_v {i : Nat} {d : D} : rdx i env (some (some (.fd (.val d)))) = some (d, env) := rfl
theorem rdx_l {i : Nat} {d : List D} : rdx i env (some (some (.fd (.lst d)))) = some (.lst d, env.set i (vv (.lst d))) := rfl
theorem rdx_k {i : Nat} {d : List (L2.Key × D)} : rdx i env (some (some (.fd (.dik d)))) = some (.dik d, env.set i (vv (.dik d))) := rfl
theorem rdx_t {i : Nat} {d : List (List L2.Key × D)} : rdx i env (some (some (.fd (.dit d)))) = some (.dit d, env.set i (vv (.dit d))) := rfl
theorem rdx_o {i : Nat} {c : Nat} {fs : List (Str × Fd)} : rdx i env (some (some (.obj c fs))) = some (.obj c (fs.map fun q => (q.1, q.2.frz)), env.set i (vv (.obj c (fs.map fun q => (q.1, q.2.frz))))) := rfl
def mvx (i : Nat) (env : Env) : Option (Option Od) → Option (Od × Env)
  | some (some o) => some (o, env.set i none)
  | _ => none
theorem mv_k {i : Nat} : mv i env = mvx i env env[i]? := by
  unfold mv mvx
  split <;> first | rfl | (split <;> simp_all) | simp_all
theorem mvx_s {i : Nat} {o : Od} : mvx i env (some (some o)) = some (o, env.set i none) := rfl
def pdx : Option (Option Od) → Option D
  | some (some (.fd (.val d))) => some d
  | _ => none
theorem pd_k {i : Nat} : pd i env = pdx env[i]? := by
  unfold pd pdx
  split <;> first | rfl | (split <;> simp_all) | simp_all
theorem pdx_s {d : D} : pdx (some (some (.fd (.val d)))) = some d := rfl
def pxx : Option (Option Od) → Option Fd
  | some (some (.fd d)) => some d
  | _ => none
theorem px_k {i : Nat} : px i env = pxx env[i]? := by
  unfold px pxx
  split <;> first | rfl | (split <;> simp_all) | simp_all
theorem pxx_s {d : Fd} : pxx (some (some (.fd d))) = some d := rfl
def lsx : Option (Option Od) → Option (List D)
  | some (some (.fd (.lst d))) => some d
  | _ => none
theorem ls_k {i : Nat} : lstAt i env = lsx env[i]? := by
  unfold lstAt lsx
  split <;> first | rfl | (split <;> simp_all) | simp_all
theorem lsx_s {d : List D} : lsx (some (some (.fd (.lst d)))) = some d := rfl
def pfx (n : Str) : Option (Option Od) → Option Fd
  | some (some (.obj _ gs)) => gs.lookup n
  | some (some (.fd (.val (.obj _ gs)))) => (gs.lookup n).map .val
  | _ => none
theorem pxf_k {i : Nat} {n : Str} : pxf i n env = pfx n env[i]? := by
  unfold pxf pfx
  split <;> first | rfl | (split <;> simp_all) | simp_all
theorem pfx_o {n : Str} {c : Nat} {gs : List (Str × Fd)} : pfx n (some (some (.obj c gs))) = gs.lookup n := rfl
theorem pfx_v {n : Str} {c : Nat} {gs : List (Str × D)} : pfx n (some (some (.fd (.val (.obj c gs))))) = (gs.lookup n).map .val := rfl
def fdv : Option Fd → Option D
  | some (.val d) => some d
  | _ => none
theorem fdv_v {d : D} : fdv (some (.val d)) = some d := rfl
theorem pdf_k {i : Nat} {n : Str} : pdf i n env = fdv (pfx n env[i]?) := by
  unfold pdf; rw [pxf_k]
  generalize pfx n env[i]? = x
  cases x with
  | none => rfl
  | some y => cases y <;> rfl
/-! pure ones -/
theorem pc_s {d : D} : pc d env = some d := rfl
section
variable {pf pg ph : P D} {fx : P Fd}
theorem pval_s : pval pf env = (pf env).map .val := rfl
theorem p1_s {g : D → Option D} : p1 g pf env = (pf env).bind g := rfl
theorem p2_s {g : D → D → Option D} : p2 g pf pg env = (pf env).bind fun x => (pg env).bind fun y => g x y := rfl
theorem pch_s {g g' : D → D → Option D} : pch g g' pf pg ph env = (pf env).bind fun x => (pg env).bind fun y => ((g x y).bind toB).bind fun k => if k = true then (ph env).bind fun z => g' y z else some (.bl false) := rfl
theorem tq_s : tq pf env = (pf env).bind toB := rfl
theorem pin_s {neg : Bool} : pin neg pf fx env = (pf env).bind fun a => (fx env).bind fun x => inD neg a x := rfl
theorem pix_s : pix fx pf env = (fx env).bind fun x => (pf env).bind fun i => ixF x i := rfl
theorem plen_s : plen fx env = (fx env).bind lenF := rfl
theorem ptI_s : ptI pf env = (pf env).bind fun d => match d with | .int i => some (some i) | _ => none := rfl
end
theorem toB_s {b : Bool} : toB (.bl b) = some b := rfl
theorem toI_s {i : Int} : toI (.int i) = some i := rfl
theorem liI_s {q : Int → Int → D} {i j : Int} : liI q (.int i) (.int j) = some (q i j) := rfl
theorem subD_s {i j : Int} : subD (.int i) (.int j) = some (.int (i - j)) := rfl
theorem addI_s {i j : Int} : addI (.int i) (.int j) = some (.int (i + j)) := rfl
theorem addD_i {i j : Int} : addD (.int i) (.int j) = some (.int (i + j)) := rfl
theorem addD_t {x y : List D} (h : x.length + y.length ≤ 16777216) : addD (.tup x) (.tup y) = some (.tup (x ++ y)) := if_pos h
theorem addD_l {x y : List D} (h : x.length + y.length ≤ 16777216) : addD (.lst x) (.lst y) = some (.lst (x ++ y)) := if_pos h
theorem ltD_s {i j : Int} : ltD (.int i) (.int j) = some (.bl (decide (i < j))) := rfl
theorem leD_s {i j : Int} : leD (.int i) (.int j) = some (.bl (decide (i ≤ j))) := rfl
theorem gtD_s {i j : Int} : gtD (.int i) (.int j) = some (.bl (decide (j < i))) := rfl
theorem geD_s {i j : Int} : geD (.int i) (.int j) = some (.bl (decide (j ≤ i))) := rfl
theorem mulD_l {i j : Int} (h1 : -(2 ^ 64) < i) (h2 : i < 2 ^ 64) : mulD (.int i) (.int j) = some (.int (i * j)) := if_pos (by unfold mulC; exact decide_eq_true (.inl ⟨h1, h2⟩))
theorem mulD_r {i j : Int} (h1 : -(2 ^ 64) < j) (h2 : j < 2 ^ 64) : mulD (.int i) (.int j) = some (.int (i * j)) := if_pos (by unfold mulC; exact decide_eq_true (.inr ⟨h1, h2⟩))
theorem mulD_fm {x j : Int} : mulD (.int (x.fmod 2147483647)) (.int j) = some (.int (x.fmod 2147483647 * j)) := mulD_l (by have := Int.fmod_nonneg_of_pos x (show (0 : Int) < 2147483647 by decide); omega) (by have := Int.fmod_lt_of_pos x (show (0 : Int) < 2147483647 by decide); omega)
theorem divD_s {i j : Int} (h1 : 0 < j) (h2 : j < 1000000000000000000000000000000000) : divD (.int i) (.int j) = some (.int (i.fdiv j)) := if_pos (by unfold divC; exact decide_eq_true ⟨by omega, by omega⟩)
theorem modD_s {i j : Int} (h1 : 0 < j) : modD (.int i) (.int j) = some (.int (i.fmod j)) := if_pos (by unfold modC; exact decide_eq_true (by omega))
theorem powD_s {i j : Int} (h : powC i j = true) : powD (.int i) (.int j) = some (.int (i ^ j.toNat)) := if_pos h
theorem shlD_s {i j : Int} (h : powC i j = true) : shlD (.int i) (.int j) = some (.int (i * 2 ^ j.toNat)) := if_pos h
theorem shrD_s {i j : Int} (h : 0 ≤ j) : shrD (.int i) (.int j) = some (.int (i / 2 ^ j.toNat)) := if_pos (by unfold shrC; exact decide_eq_true h)
theorem andD_s {i j : Int} : andD (.int i) (.int j) = some (.int (Builtin.bitAnd i j)) := rfl
theorem negD_s {i : Int} : negD (.int i) = some (.int (-i)) := rfl
theorem int1D_s {i : Int} : int1D (.int i) = some (.int i) := rfl
theorem int1D_b {b : Bool} : int1D (.bl b) = some (.int (if b then 1 else 0)) := rfl
theorem szc_s {α : Type} {n : Nat} {a : α} (h : n ≤ 16777216) : szc n a = some a := if_pos h
theorem isnD_n : isnD .non .non = some (.bl true) := rfl
theorem isnD_i {i : Int} : isnD (.int i) .non = some (.bl false) := rfl
theorem isnD_t {i : List D} : isnD (.tup i) .non = some (.bl false) := rfl
theorem nonD_n : nonD .non .non = some (.bl false) := rfl
theorem nonD_i {i : Int} : nonD (.int i) .non = some (.bl true) := rfl
theorem nonD_t {i : List D} : nonD (.tup i) .non = some (.bl true) := rfl
theorem tupB_l {xs : List D} : tupB (.lst xs) = some (.tup xs) := rfl
theorem tupB_t {xs : List D} : tupB (.tup xs) = some (.tup xs) := rfl
theorem listB_l {xs : List D} : listB [.lst xs] = some (.fd (.lst xs)) := rfl
theorem listB_t {xs : List D} : listB [.tup xs] = some (.fd (.lst xs)) := rfl
theorem listB_s {xs : List Int} : listB [.scr xs] = some (.fd (.lst (xs.map .int))) := rfl
theorem itF_vt {xs : List D} : itemsF (.val (.tup xs)) = some xs := rfl
theorem itF_vl {xs : List D} : itemsF (.val (.lst xs)) = some xs := rfl
theorem itF_l {xs : List D} : itemsF (.lst xs) = some xs := rfl
theorem lenF_vt {xs : List D} : lenF (.val (.tup xs)) = some (.int xs.length) := rfl
theorem lenF_vl {xs : List D} : lenF (.val (.lst xs)) = some (.int xs.length) := rfl
theorem lenF_l {xs : List D} : lenF (.lst xs) = some (.int xs.length) := rfl
theorem slD_t {xs : List D} {lo hi : Option Int} : slD (.tup xs) lo hi = some (.tup (cutD xs lo hi)) := rfl
theorem slD_l {xs : List D} {lo hi : Option Int} : slD (.lst xs) lo hi = some (.lst (cutD xs lo hi)) := rfl
theorem fldD_s {n : Str} {c : Nat} {gs : List (Str × D)} : fldD n (.obj c gs) = gs.lookup n := rfl
theorem minB_s {i j : Int} : minB [.int i, .int j] = some (.int (if j < i then j else i)) := rfl
theorem maxB_s {i j : Int} : maxB [.int i, .int j] = some (.int (if j > i then j else i)) := rfl
theorem absB_s {i : Int} : absB [.int i] = some (.int (if i < 0 then -i else i)) := rfl
/-! statements -/
def gk (o : Option (Out × Env)) (h : G) : Option (Out × Env) := o.bind fun q => match q.1 with
  | .nx => h q.2
  | o => some (o, q.2)
variable {h' g' : G} {e : Env} {o : Od}
theorem gseq_k : gseq g' h' env = gk (g' env) h' := rfl
theorem gk_nx : gk (some (.nx, e)) h' = h' e := rfl
theorem gk_rt : gk (some (.rt o, e)) h' = some (.rt o, e) := rfl
theorem gk_bk : gk (some (.bk, e)) h' = some (.bk, e) := rfl
theorem gk_ct : gk (some (.ct, e)) h' = some (.ct, e) := rfl
theorem gnx_s : gnx env = some (.nx, env) := rfl
def grk (o : Option (Od × Env)) : Option (Out × Env) := o.map fun q => (.rt q.1, q.2)
theorem gret_k {f : M Od} : gret f env = grk (f env) := rfl
theorem grk_s : grk (some (o, e)) = some (.rt o, e) := rfl
def gik (o : Option (Bool × Env)) (g h : G) : Option (Out × Env) := o.bind fun q => if q.1 = true then g q.2 else h q.2
theorem gif_k : gif t g' h' env = gik (t env) g' h' := by
  unfold gif gm gik
  cases t env with
  | none => rfl
  | some q =>
    show (if q.1 = true then g' else h') q.2 = if q.1 = true then g' q.2 else h' q.2
    split <;> rfl
theorem gik_t : gik (some (true, e)) g' h' = g' e := rfl
theorem gik_f : gik (some (false, e)) g' h' = h' e := rfl
theorem gik_s {b : Bool} : gik (some (b, e)) g' h' = if b = true then g' e else h' e := rfl
def gxk (o : Option (D × Env)) : Option (Out × Env) := o.map fun q => (.nx, q.2)
theorem gex_k : gex f env = gxk (f env) := rfl
theorem gxk_s {d : D} : gxk (some (d, e)) = some (.nx, e) := rfl
def gsk (o : Option (Od × Env)) (i : Nat) : Option (Out × Env) := o.bind fun q => if i < q.2.length then some (.nx, q.2.set i (some q.1)) else none
theorem gst_k {i : Nat} {f : M Od} : gst i f env = gsk (f env) i := rfl
theorem gsk_s {i : Nat} : gsk (some (o, e)) i = if i < e.length then some (.nx, e.set i (some o)) else none := rfl
def gtk (o : Option (D × Env)) (tg : Tg) : Option (Out × Env) := o.bind fun q => (tg q.1 q.2).map fun env' => (.nx, env')
theorem gtg_k {tg : Tg} : gtg f tg env = gtk (f env) tg := rfl
theorem gtk_s {tg : Tg} {d : D} : gtk (some (d, e)) tg = (tg d e).map fun env' => (.nx, env') := rfl
theorem tgn_s {i : Nat} {d : D} : tgn i d env = if i < env.length then some (env.set i (vv d)) else none := rfl
theorem tgt_s {u : List D → Env → Option Env} {ds : List D} : tgt u (.tup ds) env = u ds env := rfl
theorem tgc_s {t : Tg} {u : List D → Env → Option Env} {d : D} {ds : List D} : tgc t u (d :: ds) env = (t d env).bind fun env1 => u ds env1 := rfl
theorem tgz_s : tgz [] env = some env := rfl
def gpk (o : Option (List D × Env)) (i j : Nat) : Option (Out × Env) := o.bind fun q => match q.1 with
  | [d1, d2] => if i < q.2.length ∧ j < q.2.length then some (.nx, (q.2.set i (some (.fd (.val d1)))).set j (some (.fd (.val d2)))) else none
  | _ => none
theorem gpar_k {i j : Nat} : gpar i j l env = gpk (l env) i j := rfl
theorem gpk_s {i j : Nat} {d1 d2 : D} : gpk (some ([d1, d2], e)) i j = if i < e.length ∧ j < e.length then some (.nx, (e.set i (vv d1)).set j (vv d2)) else none := rfl
def gak (i : Nat) (op : D → D → Option D) (x : D) (o : Option (D × Env)) : Option (Out × Env) := o.bind fun q => (op x q.1).bind fun z => if i < q.2.length then some (.nx, q.2.set i (some (.fd (.val z)))) else none
theorem gaug_k {i : Nat} {op : D → D → Option D} : gaug i op f env = (pd i env).bind fun x => gak i op x (f env) := rfl
theorem gak_s {i : Nat} {op : D → D → Option D} {x y : D} : gak i op x (some (y, e)) = (op x y).bind fun z => if i < e.length then some (.nx, e.set i (vv z)) else none := rfl
def mek (i : Nat) (g : List D → List D → Option (D × List D)) (o : Option (List D × Env)) : Option (D × Env) := o.bind fun q => (lstAt i q.2).bind fun ds => (g ds q.1).map fun r => (r.1, q.2.set i (some (.fd (.lst r.2))))
theorem mme_k {i : Nat} {g : List D → List D → Option (D × List D)} : mme i g l env = (lstAt i env).bind fun _ => mek i g (l env) := rfl
theorem mek_s {i : Nat} {g : List D → List D → Option (D × List D)} {ds : List D} : mek i g (some (ds, e)) = (lstAt i e).bind fun xs => (g xs ds).map fun r => (r.1, e.set i (vl r.2)) := rfl
theorem appL_s {xs : List D} {d : D} (h : xs.length < 16777216) : appL xs [d] = some (.non, xs ++ [d]) := if_pos h
theorem extL_s {xs es : List D} (h : xs.length + es.length ≤ 16777216) : extL xs [.lst es] = some (.non, xs ++ es) := if_pos h
theorem extT_l {xs es : List D} (h : xs.length + es.length ≤ 16777216) : extT xs [.lst es] = some (.non, xs ++ es) := if_pos h
theorem extT_t {xs es : List D} (h : xs.length + es.length ≤ 16777216) : extT xs [.tup es] = some (.non, xs ++ es) := if_pos h
def sik (j : Nat) (fb : P D) (o : Option (D × Env)) : Option (Out × Env) := o.bind fun q => (lstAt j q.2).bind fun ds => (fb q.2).bind fun b => (toI b).bind fun z => (ixN ds.length z).map fun n => (.nx, q.2.set j (some (.fd (.lst (ds.set n q.1)))))
theorem gsi_k {j : Nat} {fb : P D} : gsi j fb f env = sik j fb (f env) := rfl
theorem sik_s {j : Nat} {fb : P D} {d : D} : sik j fb (some (d, e)) = (lstAt j e).bind fun ds => (fb e).bind fun b => (toI b).bind fun z => (ixN ds.length z).map fun n => (.nx, e.set j (vl (ds.set n d))) := rfl
def gfk (o : Option (List D × Env)) (tg : Tg) (body : G) : Option (Out × Env) := o.bind fun q => forD tg body q.1 q.2
theorem gfor_k {tg : Tg} {body : G} : gfor l tg body env = gfk (l env) tg body := rfl
theorem gfk_s {tg : Tg} {body : G} {ds : List D} : gfk (some (ds, e)) tg body = forD tg body ds e := rfl
def lck (n : Nat) (vs : List Nat) (o : Option (List D × Env)) (tg : Tg) (ft : M Bool) (fe : M D) : Option (Od × Env) := o.bind fun q => if q.2.length = n then (lcD vs tg ft fe q.1 [] (wipeE q.2 vs)).map fun r => (.fd (.lst r.1), restE q.2 vs r.2) else none
theorem mlc_k {n : Nat} {vs : List Nat} {tg : Tg} {ft : M Bool} {fe : M D} : mlc n vs l tg ft fe env = lck n vs (l env) tg ft fe := rfl
/-! calls -/
def clk (p : Fn) (n : Nat) (o : Option (List D × Env)) : Option (Od × Env) := o.bind fun q => if q.1.length = n then (p (vals q.1)).map fun r => (r.1, q.2) else none
theorem mcl_k {p : Fn} {n : Nat} : mcl p n l env = clk p n (l env) := rfl
def cbk (i : Nat) (p : Fn) (n : Nat) (o : Option (List D × Env)) : Option (Od × Env) := o.bind fun q => ((q.2[i]?).join).bind fun o => if q.1.length + 1 = n then (p (some o :: vals q.1)).bind fun r => (r.2[0]?).map fun o1 => (r.1, q.2.set i o1) else none
def c1k (x : Option (Option Od)) (o : Option (Od × Env)) : Option (Od × Env) := x.join.bind fun _ => o
theorem mcb1_k {i : Nat} {p : Fn} {n : Nat} : mcb1 i p n l env = c1k env[i]? (cbk i p n (l env)) := rfl
theorem c1k_s {o : Od} {x : Option (Od × Env)} : c1k (some (some o)) x = x := rfl
def mtk (m : Str) (c : Nat) (x : Option (Option Od)) (o : Option (Od × Env)) : Option (Od × Env) := x.join.bind fun o0 => if noM m c o0 = true then o else none
theorem mmt_k {m : Str} {c i : Nat} {p : Fn} {n : Nat} : mmt m c i p n l env = mtk m c env[i]? (cbk i p n (l env)) := rfl
theorem mtk_s {m : Str} {c : Nat} {o : Od} {x : Option (Od × Env)} : mtk m c (some (some o)) x = if noM m c o = true then x else none := rfl
def cbx (i : Nat) (e : Env) : Option (Od × Env) → Option (Od × Env)
  | some (o1, y :: _) => some (o1, e.set i y)
  | _ => none
def cb2 (i : Nat) (p : Fn) (n : Nat) (ds : List D) (e : Env) : Option (Option Od) → Option (Od × Env)
  | some (some o0) => if ds.length + 1 = n then cbx i e (p (some o0 :: vals ds)) else none
  | _ => none
theorem cbk_k {i : Nat} {p : Fn} {n : Nat} {ds : List D} : cbk i p n (some (ds, e)) = cb2 i p n ds e e[i]? := by
  unfold cbk cb2
  simp only [Option.bind_some]
  cases h : e[i]? with
  | none => rfl
  | some o =>
    cases o with
    | none => rfl
    | some o =>
      show (if ds.length + 1 = n then (p (some o :: vals ds)).bind _ else none) = if ds.length + 1 = n then cbx i e (p (some o :: vals ds)) else none
      split
      · cases p (some o :: vals ds) with
        | none => rfl
        | some r =>
          obtain ⟨o1, r⟩ := r
          cases r <;> rfl
      · rfl
theorem cb2_s {i : Nat} {p : Fn} {n : Nat} {ds : List D} {o0 : Od} : cb2 i p n ds e (some (some o0)) = if ds.length + 1 = n then cbx i e (p (some o0 :: vals ds)) else none := rfl
theorem cbx_s {i : Nat} {o1 : Od} {y : Option Od} {r : Env} : cbx i e (some (o1, y :: r)) = some (o1, e.set i y) := rfl
def clx (e : Env) : Option (Od × Env) → Option (Od × Env)
  | some (o, _) => some (o, e)
  | none => none
theorem clk_k {p : Fn} {n : Nat} {ds : List D} : clk p n (some (ds, e)) = if ds.length = n then clx e (p (vals ds)) else none := by
  unfold clk
  show (if ds.length = n then (p (vals ds)).map _ else none) = _
  split
  · cases p (vals ds) <;> rfl
  · rfl
theorem clx_s {o : Od} {r : Env} : clx e (some (o, r)) = some (o, e) := rfl
def mkx (e : Env) : Option (Od × Env) → Option (Od × Env)
  | some (.fd (.val .non), some o :: _) => some (o, e)
  | _ => none
def mkk (c : Nat) (p : Fn) (n : Nat) (o : Option (List D × Env)) : Option (Od × Env) := o.bind fun q => if q.1.length + 1 = n then (p (some (.obj c []) :: vals q.1)).bind fun r => match r.1, r.2 with
    | .fd (.val .non), some o :: _ => some (o, q.2)
    | _, _ => none
  else none
theorem mmk_k {c : Nat} {p : Fn} {n : Nat} : mmk c p n l env = mkk c p n (l env) := rfl
theorem mkk_k {c : Nat} {p : Fn} {n : Nat} {ds : List D} : mkk c p n (some (ds, e)) = if ds.length + 1 = n then mkx e (p (some (.obj c []) :: vals ds)) else none := by
  unfold mkk
  show (if ds.length + 1 = n then (p (some (.obj c []) :: vals ds)).bind _ else none) = _
  split
  · cases p (some (.obj c []) :: vals ds) with
    | none => rfl
    | some r =>
      obtain ⟨o1, r⟩ := r
      show (match o1, r with
        | .fd (.val .non), some o :: _ => some (o, e)
        | _, _ => none) = _
      unfold mkx
      split <;> first | rfl | (split <;> simp_all) | simp_all
  · rfl
theorem mkx_s {o : Od} {r : Env} : mkx e (some (.fd (.val .non), some o :: r)) = some (o, e) := rfl
def fsx (i : Nat) (n : Str) (cs : List Nat) (e : Env) (x : Od) : Option (Option Od) → Option (Out × Env)
  | some (some (.obj c gs)) => match x with
    | .fd x => if cs.contains c = true ∧ gs.length < 1000 then some (.nx, e.set i (some (.obj c (putG n x gs)))) else none
    | _ => none
  | _ => none
def fsk (i : Nat) (n : Str) (cs : List Nat) (o : Option (Od × Env)) : Option (Out × Env) := o.bind fun q => fsx i n cs q.2 q.1 q.2[i]?
theorem gfs_k {i : Nat} {n : Str} {cs : List Nat} {f : M Od} : gfs i n cs f env = fsk i n cs (f env) := by
  unfold gfs fsk
  cases f env with
  | none => rfl
  | some q =>
    obtain ⟨o, e⟩ := q
    simp only [Option.bind_some]
    unfold fsx
    split
    · rename_i q1 q2; rw [q2]
    · rename_i q
      split
      · rename_i c gs q2
        split
        · rename_i x; exact absurd rfl (q x c gs · q2)
        · rfl
      · rfl
theorem fsk_s {i : Nat} {n : Str} {cs : List Nat} : fsk i n cs (some (o, e)) = fsx i n cs e o e[i]? := rfl
theorem fsx_s {i : Nat} {n : Str} {cs : List Nat} {x : Fd} {c : Nat} {gs : List (Str × Fd)} (h : gs.length < 1000) : fsx i n cs e (.fd x) (some (some (.obj c gs))) = if cs.contains c = true then some (.nx, e.set i (some (.obj c (putG n x gs)))) else none := by
  unfold fsx
  simp only [h, and_true]
theorem putG_nil {n : Str} {x : Fd} : putG n x [] = [(n, x)] := rfl
theorem putG_ne {n m : Str} {x y : Fd} {r : List (Str × Fd)} (h : (m == n) = false) : putG n x ((m, y) :: r) = (m, y) :: putG n x r := by
  conv => lhs; unfold putG
  rw [if_neg (by simpa using h)]
theorem putG_eq {n : Str} {x y : Fd} {r : List (Str × Fd)} : putG n x ((n, y) :: r) = (n, x) :: r := by
  conv => lhs; unfold putG
  rw [if_pos rfl]
theorem noM_o {m : Str} {c c' : Nat} {gs : List (Str × Fd)} : noM m c (.obj c' gs) = (c' == c && (gs.lookup m).isNone) := rfl
theorem noM_v {m : Str} {c c' : Nat} {gs : List (Str × D)} : noM m c (.fd (.val (.obj c' gs))) = (c' == c && (gs.lookup m).isNone) := rfl
theorem lk_nil {β : Type} {n : Str} : List.lookup n ([] : List (Str × β)) = none := rfl
theorem lk_eq {β : Type} {n : Str} {x : β} {r : List (Str × β)} : List.lookup n ((n, x) :: r) = some x := by
  rw [List.lookup_cons, beq_self_eq_true]
theorem lk_ne {β : Type} {n m : Str} {x : β} {r : List (Str × β)} (h : (n == m) = false) : List.lookup n ((m, x) :: r) = List.lookup n r := by
  rw [List.lookup_cons, h]
def rdk (np : Nat) (B : List Nat) (args : Env) (o : Option (Out × Env)) : Option (Od × Env) := o.bind fun q => match q.1 with
    | .nx => some (.fd (.val .non), outA B args q.2)
    | .rt o => some (o, outA B args q.2)
    | _ => none
theorem runD_k {np n : Nat} {B : List Nat} {g : G} {args : Env} : runD np n B g args = if args.length = np then rdk np B args (g (args ++ List.replicate (n - np) none)) else none := rfl
theorem rdk_nx {np : Nat} {B : List Nat} {args : Env} : rdk np B args (some (.nx, e)) = some (.fd (.val .non), outA B args e) := rfl
theorem rdk_rt {np : Nat} {B : List Nat} {args : Env} : rdk np B args (some (.rt o, e)) = some (o, outA B args e) := rfl
/-! places -/
theorem ixF_l {ds : List D} {i : Int} : ixF (.lst ds) (.int i) = atI ds i := rfl
theorem ixF_vl {ds : List D} {i : Int} : ixF (.val (.lst ds)) (.int i) = atI ds i := rfl
theorem ixF_vt {ds : List D} {i : Int} : ixF (.val (.tup ds)) (.int i) = atI ds i := rfl
theorem ixF_vs {ns : List Int} {i : Int} : ixF (.val (.scr ns)) (.int i) = atI (ns.map .int) i := rfl
theorem atI_n {α : Type} {xs : List α} {n : Nat} : atI xs (n : Int) = xs[n]? := by
  unfold atI ixN
  rw [if_pos (by omega)]
  by_cases c : n < xs.length
  · rw [if_pos (by omega)]; rfl
  · rw [if_neg (by omega), List.getElem?_eq_none (by omega)]; rfl
theorem atI_s {α : Type} {xs : List α} {i : Int} (h : 0 ≤ i) : atI xs i = xs[i.toNat]? := by
  have := @atI_n α xs i.toNat
  rwa [Int.toNat_of_nonneg h] at this
theorem ixN_n {m n : Nat} : ixN m (n : Int) = if n < m then some n else none := by
  unfold ixN
  rw [if_pos (by omega)]
  by_cases c : n < m
  · rw [if_pos (by omega), if_pos c]; rfl
  · rw [if_neg (by omega), if_neg c]
theorem ixN_s {m : Nat} {i : Int} (h : 0 ≤ i) (h2 : i < m) : ixN m i = some i.toNat := by
  unfold ixN
  rw [if_pos h, if_pos h2]
/-! what the arguments are behind a call -/
def vox : Option Od → Option Od
  | some (.fd (.val d)) => some (.fd (.val d))
  | _ => none
def outB (B : List Nat) : Nat → Env → Env → Env
  | _, [], _ => []
  | k, a :: r, env => (if B.contains k = true then (env[k]?).join else vox a) :: outB B (k + 1) r env
theorem outB_at {B : List Nat} {env : Env} : ∀ (k : Nat) (args : Env) (i : Nat), (outB B k args env)[i]? = if i < args.length then some (if B.contains (k + i) = true then (env[k + i]?).join else valOnly args i) else none
  | k, [], i => by
    have : ¬ i < ([] : Env).length := Nat.not_lt_zero _
    unfold outB; rw [if_neg this]; rfl
  | k, a :: r, 0 => by
    have : 0 < (a :: r).length := Nat.zero_lt_succ _
    unfold outB
    rw [if_pos this, List.getElem?_cons_zero, Nat.add_zero]
    unfold valOnly vox
    rw [List.getElem?_cons_zero]
    congr 2
    split <;> first | rfl | (split <;> simp_all) | simp_all
  | k, a :: r, i + 1 => by
    unfold outB
    rw [List.getElem?_cons_succ, outB_at (k + 1) r i, show k + 1 + i = k + (i + 1) by omega]
    unfold valOnly
    simp only [List.length_cons, Nat.add_lt_add_iff_right, List.getElem?_cons_succ]
theorem outA_k {B : List Nat} {args env : Env} : outA B args env = outB B 0 args env := by
  refine List.ext_getElem? fun i => ?_
  rw [outB_at]
  unfold outA
  rw [List.getElem?_map]
  by_cases h : i < args.length
  · rw [List.getElem?_range h, if_pos h, Nat.zero_add]; rfl
  · rw [List.getElem?_eq_none (by rw [List.length_range]; omega), if_neg h]; rfl
theorem outB_nil {B : List Nat} {k : Nat} {env : Env} : outB B k [] env = [] := rfl
theorem outB_cons {B : List Nat} {k : Nat} {a : Option Od} {r env : Env} : outB B k (a :: r) env = (if B.contains k = true then (env[k]?).join else vox a) :: outB B (k + 1) r env := rfl
theorem vox_v {d : D} : vox (some (.fd (.val d))) = some (.fd (.val d)) := rfl
theorem vox_l {d : List D} : vox (some (.fd (.lst d))) = none := rfl
theorem vox_o {c : Nat} {gs : List (Str × Fd)} : vox (some (.obj c gs)) = none := rfl
theorem vox_n : vox none = none := rfl
theorem join_s {α : Type} {a : Option α} : (some a).join = a := rfl
theorem vals_nil : vals [] = [] := rfl
theorem vals_cons {d : D} {ds : List D} : vals (d :: ds) = vv d :: vals ds := rfl
end
/-! a law's tape -/
/-! ### comprehensions -/
def lcC (vs : List Nat) (o : Option (D × Env)) : Option (Option D × Env) := o.map fun r => (some r.1, wipeE r.2 vs)
def lcB (vs : List Nat) (fe : M D) : Option (Bool × Env) → Option (Option D × Env)
  | some (b, e) => if b = true then lcC vs (fe e) else some (none, wipeE e vs)
  | none => none
def lcA (vs : List Nat) (ft : M Bool) (fe : M D) : Option Env → Option (Option D × Env)
  | some e => lcB vs fe (ft e)
  | none => none
def lc1 (vs : List Nat) (tg : Tg) (ft : M Bool) (fe : M D) (d : D) (e : Env) : Option (Option D × Env) := lcA vs ft fe (tg d e)
section
variable {vs : List Nat} {tg : Tg} {ft : M Bool} {fe : M D} {d : D} {e env env0 : Env}
theorem lc1_k : lc1 vs tg ft fe d e = lcA vs ft fe (tg d e) := rfl
theorem lcA_s : lcA vs ft fe (some e) = lcB vs fe (ft e) := rfl
theorem lcB_s {b : Bool} : lcB vs fe (some (b, e)) = if b = true then lcC vs (fe e) else some (none, wipeE e vs) := rfl
theorem lcC_s : lcC vs (some (d, e)) = some (some d, wipeE e vs) := rfl
theorem wipeE_nil : wipeE e [] = e := rfl
theorem wipeE_cons {v : Nat} : wipeE e (v :: vs) = (wipeE e vs).set v none := rfl
theorem restE_nil : restE env0 [] e = e := rfl
theorem restE_cons {v : Nat} : restE env0 (v :: vs) e = (restE env0 vs e).set v (valOnly env0 v) := rfl
theorem valOnly_k {i : Nat} : valOnly env i = vox (env[i]?).join := by
  unfold valOnly vox
  cases h : env[i]? with
  | none => rfl
  | some o =>
    cases o with
    | none => rfl
    | some o => cases o with
      | obj => rfl
      | ll => rfl
      | pl => rfl
      | fd x => cases x <;> rfl
theorem lck_s {n : Nat} {ds : List D} : lck n vs (some (ds, e)) tg ft fe = if e.length = n then (lcD vs tg ft fe ds [] (wipeE e vs)).map fun r => (.fd (.lst r.1), restE e vs r.2) else none := rfl
theorem lcD_cons {ds acc : List D} : lcD vs tg ft fe (d :: ds) acc e = (lc1 vs tg ft fe d e).bind fun r => match r.1 with
    | some y => if acc.length < 16777216 then lcD vs tg ft fe ds (acc ++ [y]) r.2 else none
    | none => lcD vs tg ft fe ds acc r.2 := by
  conv => lhs; unfold lcD
  unfold lc1
  cases tg d e with
  | none => rfl
  | some e1 =>
    show ((ft e1).bind _) = (lcB vs fe (ft e1)).bind _
    cases ft e1 with
    | none => rfl
    | some q =>
      obtain ⟨b, e2⟩ := q
      cases b with
      | false => rfl
      | true =>
        show ((fe e2).bind _) = (lcC vs (fe e2)).bind _
        cases fe e2 with
        | none => rfl
        | some r => rfl
theorem lcD_inv' (I : Nat → List D → Env → Prop) : ∀ (ds : List D) (k : Nat) (acc : List D) (e : Env), I k acc e → acc.length + ds.length ≤ 16777216 →
    (∀ i d acc e, ds[i]? = some d → I (k + i) acc e → ∃ r e', lc1 vs tg ft fe d e = some (r, e') ∧ I (k + i + 1) (acc ++ r.toList) e') →
    ∃ out e', lcD vs tg ft fe ds acc e = some (out, e') ∧ I (k + ds.length) out e'
  | [], k, acc, e, h0, _, _ => ⟨acc, e, rfl, h0⟩
  | d :: ds, k, acc, e, h0, hl, step => by
    obtain ⟨r, e1, h1, h2⟩ := step 0 d acc e rfl h0
    have hl : acc.length + (ds.length + 1) ≤ 16777216 := hl
    have st : ∀ i d acc e, ds[i]? = some d → I (k + 1 + i) acc e → ∃ r e', lc1 vs tg ft fe d e = some (r, e') ∧ I (k + 1 + i + 1) (acc ++ r.toList) e' := fun i d acc e hd h => by
      have := step (i + 1) d acc e (by simpa using hd) (by rw [show k + (i + 1) = k + 1 + i by omega]; exact h)
      rwa [show k + (i + 1) = k + 1 + i by omega] at this
    rw [lcD_cons, h1]
    show ∃ out e', (match r with
      | some y => if acc.length < 16777216 then lcD vs tg ft fe ds (acc ++ [y]) e1 else none
      | none => lcD vs tg ft fe ds acc e1) = some (out, e') ∧ _
    have hk : k + (d :: ds).length = k + 1 + ds.length := by rw [List.length_cons]; omega
    rw [hk]
    cases r with
    | some y =>
      dsimp only
      rw [if_pos (by omega)]
      exact lcD_inv' I ds (k + 1) (acc ++ [y]) e1 h2 (by rw [List.length_append, List.length_singleton]; omega) st
    | none =>
      exact lcD_inv' I ds (k + 1) acc e1 (by simpa using h2) (by omega) st
theorem lcD_inv (I : Nat → List D → Env → Prop) {ds : List D} {e : Env} (h0 : I 0 [] e) (hl : ds.length ≤ 16777216)
    (step : ∀ i d acc e, ds[i]? = some d → I i acc e → ∃ r e', lc1 vs tg ft fe d e = some (r, e') ∧ I (i + 1) (acc ++ r.toList) e') :
    ∃ out e', lcD vs tg ft fe ds [] e = some (out, e') ∧ I ds.length out e' := by
  have := lcD_inv' (vs := vs) (tg := tg) (ft := ft) (fe := fe) I ds 0 [] e h0 (by simpa using hl) (fun i d acc e hd h => by rw [Nat.zero_add] at h ⊢; exact step i d acc e hd h)
  rwa [Nat.zero_add] at this
/-- the same over encoded items -/
theorem lcD_map {α : Type} {enc : α → D} {f : α → Option D} {xs : List α} {e : Env} (hl : xs.length ≤ 16777216) (step : ∀ x ∈ xs, lc1 vs tg ft fe (enc x) e = some (f x, e)) :
    lcD vs tg ft fe (xs.map enc) [] e = some (xs.filterMap f, e) := by
  obtain ⟨out, e', h1, h2, h3⟩ := lcD_inv (vs := vs) (tg := tg) (ft := ft) (fe := fe) (fun i acc e' => e' = e ∧ acc = (xs.take i).filterMap f) (ds := xs.map enc) (e := e) ⟨rfl, rfl⟩ (by rw [List.length_map]; exact hl) (fun i d acc e' hd h => by
    obtain ⟨rfl, rfl⟩ := h
    rw [List.getElem?_map] at hd
    obtain ⟨x, hx, rfl⟩ := map_some hd
    refine ⟨_, _, step x (List.mem_of_getElem? hx), rfl, ?_⟩
    rw [List.take_succ, hx, List.filterMap_append]
    cases h : f x <;> simp [h])
  rw [h1, h2, h3, List.length_map, List.take_length]
end
/-! ### for -/
def forA (body : G) : Option Env → Option (Out × Env)
  | some e => body e
  | none => none
def for1 (tg : Tg) (body : G) (d : D) (e : Env) : Option (Out × Env) := forA body (tg d e)
section
variable {tg : Tg} {body : G} {d : D} {e : Env}
theorem for1_k : for1 tg body d e = forA body (tg d e) := rfl
theorem forA_s : forA body (some e) = body e := rfl
theorem forD_cons {ds : List D} : forD tg body (d :: ds) e = (for1 tg body d e).bind fun q => match q.1 with
    | .nx => forD tg body ds q.2
    | .ct => forD tg body ds q.2
    | .bk => some (.nx, q.2)
    | .rt o => some (.rt o, q.2) := by
  conv => lhs; unfold forD
  unfold for1 forA
  cases tg d e <;> rfl
def FS (I : Nat → Env → Prop) (Q : Out → Env → Prop) (i : Nat) (e : Env) : Out → Prop
  | .nx => I i e
  | .ct => I i e
  | .bk => Q .nx e
  | .rt o => Q (.rt o) e
theorem forD_inv' (I : Nat → Env → Prop) (Q : Out → Env → Prop) : ∀ (ds : List D) (k : Nat) (e : Env), I k e →
    (∀ i d e, ds[i]? = some d → I (k + i) e → ∃ o e', for1 tg body d e = some (o, e') ∧ FS I Q (k + i + 1) e' o) → (∀ e, I (k + ds.length) e → Q .nx e) →
    ∃ o e', forD tg body ds e = some (o, e') ∧ Q o e'
  | [], k, e, h0, _, fin => ⟨_, _, rfl, fin e h0⟩
  | d :: ds, k, e, h0, step, fin => by
    obtain ⟨o, e1, h1, h2⟩ := step 0 d e rfl h0
    rw [forD_cons, h1]
    have st : ∀ i d e, ds[i]? = some d → I (k + 1 + i) e → ∃ o e', for1 tg body d e = some (o, e') ∧ FS I Q (k + 1 + i + 1) e' o := fun i d e hd h => by
      have := step (i + 1) d e (by simpa using hd) (by rw [show k + (i + 1) = k + 1 + i by omega]; exact h)
      rwa [show k + (i + 1) = k + 1 + i by omega] at this
    have fn : ∀ e, I (k + 1 + ds.length) e → Q .nx e := fun e h => fin e (by rw [List.length_cons, show k + (ds.length + 1) = k + 1 + ds.length by omega]; exact h)
    cases o with
    | nx => exact forD_inv' I Q ds (k + 1) e1 h2 st fn
    | ct => exact forD_inv' I Q ds (k + 1) e1 h2 st fn
    | bk => exact ⟨_, _, rfl, h2⟩
    | rt o => exact ⟨_, _, rfl, h2⟩
theorem forD_inv (I : Nat → Env → Prop) (Q : Out → Env → Prop) {ds : List D} {e : Env} (h0 : I 0 e)
    (step : ∀ i d e, ds[i]? = some d → I i e → ∃ o e', for1 tg body d e = some (o, e') ∧ FS I Q (i + 1) e' o) (fin : ∀ e, I ds.length e → Q .nx e) :
    ∃ o e', forD tg body ds e = some (o, e') ∧ Q o e' :=
  forD_inv' I Q ds 0 e h0 (fun i d e hd h => by rw [Nat.zero_add] at h ⊢; exact step i d e hd h) fun e h => fin e (by rwa [Nat.zero_add] at h)
/-- no turn leaves the loop -/
theorem forD_go (I : Nat → Env → Prop) {ds : List D} {e : Env} (h0 : I 0 e) (step : ∀ i d e, ds[i]? = some d → I i e → ∃ e', for1 tg body d e = some (.nx, e') ∧ I (i + 1) e') :
    ∃ e', forD tg body ds e = some (.nx, e') ∧ I ds.length e' := by
  obtain ⟨o, e', h1, h2⟩ := forD_inv I (fun o e => o = .nx ∧ I ds.length e) h0 (fun i d e hd h => by
    obtain ⟨e', h1, h2⟩ := step i d e hd h
    exact ⟨_, _, h1, h2⟩) fun e h => ⟨rfl, h⟩
  exact ⟨e', by rw [h1, h2.1], h2.2⟩
end
/-! ### while -/
def whB (body : G) : Option (Bool × Env) → Option (Out × Env)
  | some (b, e) => if b = true then body e else some (.bk, e)
  | none => none
def wh1 (c : M Bool) (body : G) (e : Env) : Option (Out × Env) := whB body (c e)
section
variable {c : M Bool} {body : G} {e : Env}
theorem wh1_k : wh1 c body e = whB body (c e) := rfl
theorem whB_s {b : Bool} : whB body (some (b, e)) = if b = true then body e else some (.bk, e) := rfl
end
theorem seqIx_s {n : Nat} {i : Int} (h : 0 ≤ i) (h1 : i < n) : seqIndex? i n = some i.toNat := by
  unfold seqIndex?
  have h2 : ¬ i < 0 := by omega
  simp only [h2, if_false]
  have : (decide (0 ≤ i) && decide (i < (n : Int))) = true := by simp [h, h1]
  rw [if_pos this]
theorem popL_s {xs : List D} {i : Int} (h : 0 ≤ i) (h1 : i < xs.length) (h2 : xs.length ≤ 16777216) : popL xs [.int i] = (xs[i.toNat]?).map fun d => (d, xs.eraseIdx i.toNat) := by
  unfold popL
  dsimp only
  rw [if_pos (by omega), seqIx_s h h1]
  rfl
theorem rgC_s {a b : Int} (h1 : 0 ≤ a) (h2 : a ≤ 16777216) (h3 : 0 ≤ b) (h4 : b ≤ 16777216) : rgC (a, b) = true := by
  unfold rgC
  exact decide_eq_true ⟨by dsimp only; omega, by dsimp only; omega, by dsimp only; omega, by dsimp only; omega, by dsimp only; omega⟩
theorem rgL_len {a b : Int} : (rgL a b).length = (b - a).toNat := by
  unfold rgL; rw [List.length_map, List.length_range]
theorem rgN_len {a : Int} {n : Nat} : (rgN a n).length = n := by
  unfold rgN; rw [List.length_map, List.length_range]
theorem rgN_at {a : Int} {n i : Nat} {d : D} (h : (rgN a n)[i]? = some d) : i < n ∧ d = .int (a + (i : Nat)) := by
  unfold rgN at h
  rw [List.getElem?_map] at h
  obtain ⟨j, h1, rfl⟩ := map_some h
  have hi : i < n := by
    have := (List.getElem?_eq_some_iff.mp h1).1
    rwa [List.length_range] at this
  rw [List.getElem?_range hi] at h1
  cases h1
  exact ⟨hi, rfl⟩
theorem perm_erase {α : Type} {xs : List α} {i : Nat} (h : i < xs.length) : ([xs[i]] ++ xs.eraseIdx i).Perm xs := by
  rw [List.eraseIdx_eq_take_drop_succ]
  conv => rhs; rw [← List.take_append_drop i xs, List.drop_eq_getElem_cons h]
  rw [← List.append_assoc]
  refine List.Perm.trans (List.perm_append_comm.append_right _) ?_
  rw [List.append_assoc]
  exact List.Perm.refl _
theorem map_eraseIdx {α β : Type} (f : α → β) : ∀ (xs : List α) (i : Nat), (xs.map f).eraseIdx i = (xs.eraseIdx i).map f
  | [], _ => rfl
  | _ :: _, 0 => rfl
  | x :: xs, i + 1 => by
    show f x :: (xs.map f).eraseIdx i = f x :: (xs.eraseIdx i).map f
    rw [map_eraseIdx f xs i]
/-! ### sorted ints, rows -/
theorem sortB_s {ns : List Int} : sortB [.lst (ns.map .int)] = some (.fd (.lst ((isort ns).map .int))) := by
  show (toInts (ns.map .int)).map _ = _
  have : toInts (ns.map D.int) = some ns := by
    induction ns with
    | nil => rfl
    | cons n ns ih => show (toInts (ns.map D.int)).map (n :: ·) = _; rw [ih]; rfl
  rw [this]; rfl
theorem isort_perm (ns : List Int) : (isort ns).Perm ns := List.mergeSort_perm ns _
theorem isort_le (ns : List Int) : (isort ns).Pairwise (· ≤ ·) := by
  have q := List.pairwise_mergeSort (le := fun a b : Int => decide (a ≤ b)) (fun x y z h1 h2 => by
    have h1 := of_decide_eq_true h1
    have h2 := of_decide_eq_true h2
    exact decide_eq_true (by omega)) (fun x y => by
    by_cases c : x ≤ y
    · simp [c]
    · have : y ≤ x := by omega
      simp [this]) ns
  exact q.imp fun h => of_decide_eq_true h
/-- ascending ints from 0 below n -/
structure Row (n : Nat) (r : List Int) : Prop where
  lt : r.Pairwise (· < ·)
  bd : ∀ x ∈ r, 0 ≤ x ∧ x < n
structure Rows (rs : List (List Int)) : Prop where
  row : ∀ r ∈ rs, Row rs.length r
abbrev rowsD (rs : List (List Int)) : D := .tup (rs.map tupI)
theorem Row.nodup {n : Nat} {r : List Int} (h : Row n r) : r.Nodup := h.lt.imp fun h => by omega
theorem asc_len {n : Int} : ∀ {r : List Int} {a : Int}, r.Pairwise (· < ·) → (∀ x ∈ r, a ≤ x ∧ x < n) → (r.length : Int) ≤ max 0 (n - a)
  | [], _, _, _ => by simp only [List.length_nil]; omega
  | x :: r, a, h, hb => by
    obtain ⟨h1, h2⟩ := List.pairwise_cons.mp h
    have := asc_len (a := x + 1) h2 fun y hy => ⟨by have := h1 y hy; omega, (hb y (List.mem_cons_of_mem _ hy)).2⟩
    have := hb x List.mem_cons_self
    rw [List.length_cons]; omega
theorem Row.len {n : Nat} {r : List Int} (h : Row n r) : r.length ≤ n := by
  have := asc_len h.lt h.bd
  omega
theorem inV_int {x : Int} {ns : List Int} : inV (.int x) (ns.map V.int) = decide (x ∈ ns) := by
  unfold inV
  rw [List.any_map]
  rw [Bool.eq_iff_iff, List.any_eq_true, decide_eq_true_iff]
  constructor
  · rintro ⟨y, hy, e⟩
    have e : (y == x) = true := e
    rw [beq_iff_eq] at e
    exact e ▸ hy
  · intro h
    exact ⟨x, h, show (x == x) = true from beq_self_eq_true x⟩
theorem toVs_int {ns : List Int} : toVs (ns.map .int) = some (ns.map V.int) := by
  induction ns with
  | nil => rfl
  | cons n ns ih => show (toV (.int n)).bind _ = _; rw [ih]; rfl
theorem inD_vl {x : Int} {ns : List Int} {neg : Bool} : inD neg (.int x) (.val (.lst (ns.map .int))) = some (.bl (if neg = true then !decide (x ∈ ns) else decide (x ∈ ns))) := by
  show (toVs (ns.map .int)).map _ = _
  rw [toVs_int, ← inV_int]; rfl
theorem inD_l {x : Int} {ns : List Int} {neg : Bool} : inD neg (.int x) (.lst (ns.map .int)) = some (.bl (if neg = true then !decide (x ∈ ns) else decide (x ∈ ns))) := by
  show (toVs (ns.map .int)).map _ = _
  rw [toVs_int, ← inV_int]; rfl
theorem inD_vt {x : Int} {ns : List Int} {neg : Bool} : inD neg (.int x) (.val (.tup (ns.map .int))) = some (.bl (if neg = true then !decide (x ∈ ns) else decide (x ∈ ns))) := by
  show (toVs (ns.map .int)).map _ = _
  rw [toVs_int, ← inV_int]; rfl
theorem inD_ti {x : Int} {ns : List Int} {neg : Bool} : inD neg (.int x) (.val (tupI ns)) = some (.bl (if neg = true then !decide (x ∈ ns) else decide (x ∈ ns))) := inD_vt
theorem eqD_int {i j : Int} : eqD (.int i) (.int j) = some (.bl (decide (i = j))) := by
  show (if (SeqAt.shaped (.int i) && SeqAt.shaped (.int j)) = true then some (D.bl (i == j)) else none) = _
  rw [if_pos (by rfl)]
  congr 2
theorem neD_int {i j : Int} : neD (.int i) (.int j) = some (.bl (!decide (i = j))) := by
  show (if (SeqAt.shaped (.int i) && SeqAt.shaped (.int j)) = true then some (D.bl (!(i == j))) else none) = _
  rw [if_pos (by rfl)]
  congr 2
theorem rgN_at0 {n i : Nat} {d : D} (h : (rgN 0 n)[i]? = some d) : i < n ∧ d = .int (i : Nat) := by
  obtain ⟨h1, rfl⟩ := rgN_at h
  exact ⟨h1, by rw [Int.zero_add]⟩
theorem mapI_snoc {ys : List Int} {q : Int} : ys.map D.int ++ [.int q] = (ys ++ [q]).map .int := by rw [List.map_append]; rfl
theorem mapI_app {xs ys : List Int} : xs.map D.int ++ ys.map .int = (xs ++ ys).map .int := by rw [List.map_append]
theorem mapT_snoc {rs : List (List Int)} {r : List Int} : rs.map tupI ++ [.tup (r.map .int)] = (rs ++ [r]).map tupI := by rw [List.map_append]; rfl
theorem mapT_app {rs qs : List (List Int)} : rs.map tupI ++ qs.map tupI = (rs ++ qs).map tupI := by rw [List.map_append]
/-! parts of a block -/
section
variable {α : Type} {enc : α → D} {vs : List Nat} {tg : Tg} {ft : M Bool} {fe : M D} {e : Env}
theorem lcD_mapS {f : α → D} {xs : List α} (hl : xs.length ≤ 16777216) (step : ∀ x ∈ xs, lc1 vs tg ft fe (enc x) e = some (some (f x), e)) :
    lcD vs tg ft fe (xs.map enc) [] e = some (xs.map f, e) := by
  rw [lcD_map (f := fun x => some (f x)) hl step]
  rw [List.filterMap_eq_map']
theorem lcD_filt {p : α → Bool} {f : α → D} {xs : List α} (hl : xs.length ≤ 16777216) (step : ∀ x ∈ xs, lc1 vs tg ft fe (enc x) e = some (if p x = true then some (f x) else none, e)) :
    lcD vs tg ft fe (xs.map enc) [] e = some ((xs.filter p).map f, e) := by
  rw [lcD_map (f := fun x => if p x = true then some (f x) else none) hl step]
  congr 2
  clear step hl
  induction xs with
  | nil => rfl
  | cons x xs ih =>
    rw [List.filterMap_cons, List.filter_cons]
    by_cases c : p x = true
    · rw [if_pos c, if_pos c, ih]; rfl
    · rw [if_neg c, if_neg c]; exact ih
end
theorem Rows.get {rs : List (List Int)} (h : Rows rs) {i : Nat} (hi : i < rs.length) : Row rs.length (rs.getD i []) :=
  h.row _ (by rw [List.getD_eq_getElem?_getD, List.getElem?_eq_getElem hi]; exact List.getElem_mem _)
theorem getD_inj {p : List Int} {i j : Nat} (hn : p.Nodup) (hi : i < p.length) (hj : j < p.length) (h : p.getD i 0 = p.getD j 0) : i = j := by
  rw [List.getD_eq_getElem?_getD, List.getElem?_eq_getElem hi, List.getD_eq_getElem?_getD, List.getElem?_eq_getElem hj] at h
  exact (List.getElem_inj hn).mp h
theorem isiB_ii {tab : Nat → Option Bool} {i : Int} : isiB "int" tab (.int i) = some (.bl true) := by
  show (kitB "int" "int").map D.bl = _
  rw [show kitB "int" "int" = some true by decide +kernel]; rfl
theorem isiB_ib {tab : Nat → Option Bool} {i : Int} : isiB "bool" tab (.int i) = some (.bl false) := by
  show (kitB "int" "bool").map D.bl = _
  rw [show kitB "int" "bool" = some false by decide +kernel]; rfl
theorem isiB_tt {tab : Nat → Option Bool} {i : List D} : isiB "tuple" tab (.tup i) = some (.bl true) := by
  show (kitB "tuple" "tuple").map D.bl = _
  rw [show kitB "tuple" "tuple" = some true by decide +kernel]; rfl
theorem isiB_ll {tab : Nat → Option Bool} {i : List D} : isiB "list" tab (.lst i) = some (.bl true) := by
  show (kitB "list" "list").map D.bl = _
  rw [show kitB "list" "list" = some true by decide +kernel]; rfl
theorem isiB_bb {tab : Nat → Option Bool} {b : Bool} : isiB "bool" tab (.bl b) = some (.bl true) := by
  show (kitB "bool" "bool").map D.bl = _
  rw [show kitB "bool" "bool" = some true by decide +kernel]; rfl
theorem isiC_o {tab : Nat → Option Bool} {c : Nat} {gs : List (Str × D)} : isiC tab (.obj c gs) = (tab c).map .bl := rfl
def prI (p : Int × Int) : D := .tup [.int p.1, .int p.2]
theorem zpD_int : ∀ {xs ys : List Int}, zpD (xs.map .int) (ys.map .int) = (xs.zip ys).map prI
  | [], _ => by simp [zpD]
  | _ :: _, [] => by simp [zpD]
  | x :: xs, y :: ys => by
    show D.tup [.int x, .int y] :: zpD (xs.map .int) (ys.map .int) = _
    rw [zpD_int]; rfl
theorem toBls_b {bs : List Bool} : toBls (bs.map .bl) = some bs := by
  induction bs with
  | nil => rfl
  | cons n ns ih => show (toBls (ns.map D.bl)).map (n :: ·) = _; rw [ih]; rfl
theorem allB_b {bs : List Bool} : allB [.lst (bs.map .bl)] = some (.bl (bs.all id)) := by
  show (toBls (bs.map .bl)).map _ = _
  rw [toBls_b]; rfl
theorem anyB_b {bs : List Bool} : anyB [.lst (bs.map .bl)] = some (.bl (bs.any id)) := by
  show (toBls (bs.map .bl)).map _ = _
  rw [toBls_b]; rfl
/-- all of some flags -/
theorem allB_m {α : Type} {xs : List α} {f : α → Bool} : allB [.lst (xs.map fun x => .bl (f x))] = some (.bl (xs.all f)) := by
  have := @allB_b (xs.map f)
  rw [List.map_map] at this
  rw [show (xs.map fun x => D.bl (f x)) = xs.map (D.bl ∘ f) from rfl, this, List.all_map]; rfl
theorem anyB_m {α : Type} {xs : List α} {f : α → Bool} : anyB [.lst (xs.map fun x => .bl (f x))] = some (.bl (xs.any f)) := by
  have := @anyB_b (xs.map f)
  rw [List.map_map] at this
  rw [show (xs.map fun x => D.bl (f x)) = xs.map (D.bl ∘ f) from rfl, this, List.any_map]; rfl
theorem cutD_1 {xs : List D} : cutD xs (some 1) none = xs.drop 1 := by
  unfold cutD
  rw [show HT.sIx xs.length 0 (some 1) = min 1 xs.length from HT.sIx_nat _ _ 1, HT.sIx_none]
  cases xs with
  | nil => rfl
  | cons x xs =>
    rw [show min 1 (x :: xs).length = 1 by rw [List.length_cons]; omega, List.take_of_length_le (by rw [List.length_drop]; exact Nat.le_refl _)]
theorem cutD_to {xs : List D} {k : Nat} : cutD xs none (some (k : Int)) = xs.take k := by
  unfold cutD
  rw [HT.sIx_nat, HT.sIx_none, List.drop_zero, Nat.sub_zero]
  by_cases h : k ≤ xs.length
  · rw [show min k xs.length = k by omega]
  · rw [show min k xs.length = xs.length by omega, List.take_length, List.take_of_length_le (by omega)]
theorem cutD_from {xs : List D} {k : Nat} : cutD xs (some (k : Int)) none = xs.drop k := by
  unfold cutD
  rw [HT.sIx_nat, HT.sIx_none]
  by_cases h : k ≤ xs.length
  · rw [show min k xs.length = k by omega, List.take_of_length_le (by rw [List.length_drop]; exact Nat.le_refl _)]
  · rw [show min k xs.length = xs.length by omega, List.drop_eq_nil_of_le (Nat.le_refl _), List.drop_eq_nil_of_le (by omega), List.take_nil]
theorem cutD_from1 {xs : List D} {k : Nat} : cutD xs (some ((k : Int) + 1)) none = xs.drop (k + 1) := @cutD_from xs (k + 1)
theorem enD_eq {α : Type} {enc : α → D} : ∀ {xs : List α} {k : Nat}, enD k (xs.map enc) = (xs.zipIdx k).map fun p => .tup [.int (p.2 : Nat), enc p.1]
  | [], _ => rfl
  | x :: xs, k => by
    show D.tup [.int (k : Nat), enc x] :: enD (k + 1) (xs.map enc) = _
    rw [enD_eq]; rfl
theorem asc_zip : ∀ {xs : List Int}, (xs.zip (xs.drop 1)).all (fun p => decide (p.1 < p.2)) = true ↔ xs.Pairwise (· < ·)
  | [] => by simp
  | [x] => by simp
  | x :: y :: xs => by
    have ih := @asc_zip (y :: xs)
    have e : ((x :: y :: xs).zip ((x :: y :: xs).drop 1)).all (fun p => decide (p.1 < p.2)) = (decide (x < y) && ((y :: xs).zip ((y :: xs).drop 1)).all (fun p => decide (p.1 < p.2))) := rfl
    rw [e, Bool.and_eq_true, ih, decide_eq_true_iff, List.pairwise_cons (a := x)]
    constructor
    · rintro ⟨h1, h2⟩
      refine ⟨fun z hz => ?_, h2⟩
      rcases List.mem_cons.mp hz with rfl | hz
      · exact h1
      · have := (List.pairwise_cons.mp h2).1 z hz; omega
    · rintro ⟨h1, h2⟩
      exact ⟨h1 y List.mem_cons_self, h2⟩
theorem flat_len {α β : Type} {f : α → List β} {m : Nat} : ∀ {xs : List α}, (∀ x ∈ xs, (f x).length ≤ m) → (xs.flatMap f).length ≤ xs.length * m
  | [], _ => by simp
  | x :: xs, h => by
    rw [List.flatMap_cons, List.length_append, List.length_cons, Nat.add_mul, Nat.one_mul]
    have := flat_len (xs := xs) fun y hy => h y (List.mem_cons_of_mem _ hy)
    have := h x List.mem_cons_self
    omega
/-! ### equality of plain data -/
def plainD : Nat → D → Bool
  | _, .int _ => true
  | _, .non => true
  | k + 1, .tup xs => xs.all (plainD k)
  | k + 1, .lst xs => xs.all (plainD k)
  | _, _ => false
theorem toPs_all {k : Nat} (ih : ∀ a, plainD k a = true → ∃ p, toP a = some p ∧ p.canLay0 = true ∧ p.depth ≤ k) : ∀ {xs : List D}, xs.all (plainD k) = true → ∃ ps, toPs xs = some ps ∧ PyData.canLayAll0 ps = true ∧ PyData.depthAll ps ≤ k
  | [], _ => ⟨[], rfl, rfl, Nat.zero_le _⟩
  | x :: xs, h => by
    rw [List.all_cons, Bool.and_eq_true] at h
    obtain ⟨p, h1, h2, h3⟩ := ih x h.1
    obtain ⟨ps, h4, h5, h6⟩ := toPs_all ih h.2
    refine ⟨p :: ps, ?_, ?_, ?_⟩
    · unfold toPs; rw [h1, h4]
    · unfold PyData.canLayAll0; rw [h2, h5]; rfl
    · unfold PyData.depthAll; omega
theorem toP_all : ∀ (k : Nat) (a : D), plainD k a = true → ∃ p, toP a = some p ∧ p.canLay0 = true ∧ p.depth ≤ k
  | k, .int i, _ => ⟨.int i, by unfold toP; rfl, by unfold PyData.canLay0; rfl, by unfold PyData.depth; omega⟩
  | k, .non, _ => ⟨.none, by unfold toP; rfl, by unfold PyData.canLay0; rfl, by unfold PyData.depth; omega⟩
  | k + 1, .tup xs, h => by
    obtain ⟨ps, h4, h5, h6⟩ := toPs_all (toP_all k) (xs := xs) (by unfold plainD at h; exact h)
    exact ⟨.tuple ps, by unfold toP; rw [h4]; rfl, by unfold PyData.canLay0; exact h5, by unfold PyData.depth; omega⟩
  | k + 1, .lst xs, h => by
    obtain ⟨ps, h4, h5, h6⟩ := toPs_all (toP_all k) (xs := xs) (by unfold plainD at h; exact h)
    exact ⟨.list ps, by unfold toP; rw [h4]; rfl, by unfold PyData.canLay0; exact h5, by unfold PyData.depth; omega⟩
  | 0, .tup xs, h => by unfold plainD at h; cases h
  | 0, .lst xs, h => by unfold plainD at h; cases h
  | k, .bl _, h => by unfold plainD at h; cases h
  | k, .str _, h => by unfold plainD at h; cases h
  | k, .cn _, h => by unfold plainD at h; cases h
  | k, .obj _ _, h => by unfold plainD at h; cases h
  | k, .scr _, h => by unfold plainD at h; cases h
  | k, .dik _, h => by unfold plainD at h; cases h
  | k, .dit _, h => by unfold plainD at h; cases h
  | k, .memo _ _, h => by unfold plainD at h; cases h
  | k, .lik _, h => by unfold plainD at h; cases h
  | k, .lit _, h => by unfold plainD at h; cases h
theorem eqvs_all {k : Nat} (ih : ∀ a b p q, plainD k a = true → plainD k b = true → toP a = some p → toP b = some q → (PyData.eqv p q = true ↔ a = b)) : ∀ {xs ys : List D} {ps qs : List PyData}, xs.all (plainD k) = true → ys.all (plainD k) = true → toPs xs = some ps → toPs ys = some qs → (PyData.eqvAll ps qs = true ↔ xs = ys)
  | [], [], _, _, _, _, e1, e2 => by unfold toPs at e1 e2; cases e1; cases e2; simp [PyData.eqvAll]
  | [], y :: ys, _, _, _, h2, e1, e2 => by
    unfold toPs at e1 e2; cases e1
    split at e2
    · cases e2; simp [PyData.eqvAll]
    · cases e2
  | x :: xs, [], _, _, _, h2, e1, e2 => by
    unfold toPs at e1 e2; cases e2
    split at e1
    · cases e1; simp [PyData.eqvAll]
    · cases e1
  | x :: xs, y :: ys, _, _, h1, h2, e1, e2 => by
    rw [List.all_cons, Bool.and_eq_true] at h1 h2
    unfold toPs at e1 e2
    split at e1
    · rename_i p ps h3 h4
      split at e2
      · rename_i q qs h5 h6
        cases e1; cases e2
        unfold PyData.eqvAll
        rw [Bool.and_eq_true, ih x y p q h1.1 h2.1 h3 h5, eqvs_all ih h1.2 h2.2 h4 h6, List.cons.injEq]
      · cases e2
    · cases e1
theorem eqv_all : ∀ (k : Nat) (a b : D) (p q : PyData), plainD k a = true → plainD k b = true → toP a = some p → toP b = some q → (PyData.eqv p q = true ↔ a = b) := by
  intro k
  induction k with
  | zero =>
    intro a b p q h1 h2 e1 e2
    cases a <;> (try (unfold plainD at h1; cases h1; done)) <;> cases b <;> (try (unfold plainD at h2; cases h2; done)) <;> unfold toP at e1 e2 <;> cases e1 <;> cases e2 <;> simp [PyData.eqv]
  | succ k ih =>
    intro a b p q h1 h2 e1 e2
    cases a <;> (try (unfold plainD at h1; cases h1; done)) <;> cases b <;> (try (unfold plainD at h2; cases h2; done)) <;> unfold toP at e1 e2
    all_goals first
      | (cases e1; cases e2; simp [PyData.eqv]; done)
      | (obtain ⟨ps, h3, rfl⟩ := map_some e1
         obtain ⟨qs, h4, rfl⟩ := map_some e2
         unfold plainD at h1 h2
         first
           | (have := eqvs_all ih h1 h2 h3 h4; simp only [PyData.eqv, this, D.tup.injEq, D.lst.injEq]; done)
           | (simp [PyData.eqv]; done))
      | (cases e1
         obtain ⟨qs, h4, rfl⟩ := map_some e2
         simp [PyData.eqv]; done)
      | (cases e2
         obtain ⟨qs, h4, rfl⟩ := map_some e1
         simp [PyData.eqv]; done)
theorem eqD_pl {k : Nat} (hk : k ≤ 64) {a b : D} (h1 : plainD k a = true) (h2 : plainD k b = true) : ∃ r, eqD a b = some (.bl r) ∧ neD a b = some (.bl (!r)) ∧ (r = true ↔ a = b) := by
  obtain ⟨p, e1, c1, d1⟩ := toP_all k a h1
  obtain ⟨q, e2, c2, d2⟩ := toP_all k b h2
  have hs : (SeqAt.shaped p && SeqAt.shaped q) = true := by
    unfold SeqAt.shaped
    rw [c1, c2, decide_eq_true (show p.depth ≤ 64 by omega), decide_eq_true (show q.depth ≤ 64 by omega)]; rfl
  refine ⟨PyData.eqv p q, ?_, ?_, eqv_all k a b p q h1 h2 e1 e2⟩
  · unfold eqD; rw [e1, e2]; dsimp only; rw [if_pos hs]
  · unfold neD; rw [e1, e2]; dsimp only; rw [if_pos hs]
theorem eqD_enc {α : Type} [DecidableEq α] {enc : α → D} (k : Nat) (hk : k ≤ 64) (hp : ∀ x, plainD k (enc x) = true) (inj : ∀ x y, enc x = enc y → x = y) (x y : α) : eqD (enc x) (enc y) = some (.bl (decide (x = y))) := by
  obtain ⟨r, h1, _, h3⟩ := eqD_pl hk (hp x) (hp y)
  rw [h1]
  congr 2
  rw [Bool.eq_iff_iff, h3, decide_eq_true_iff]
  exact ⟨inj x y, fun h => by rw [h]⟩
theorem neD_enc {α : Type} [DecidableEq α] {enc : α → D} (k : Nat) (hk : k ≤ 64) (hp : ∀ x, plainD k (enc x) = true) (inj : ∀ x y, enc x = enc y → x = y) (x y : α) : neD (enc x) (enc y) = some (.bl (!decide (x = y))) := by
  obtain ⟨r, _, h2, h3⟩ := eqD_pl hk (hp x) (hp y)
  rw [h2]
  congr 3
  rw [Bool.eq_iff_iff, h3, decide_eq_true_iff]
  exact ⟨inj x y, fun h => by rw [h]⟩
theorem int_inj : ∀ x y : Int, D.int x = D.int y → x = y := fun x y h => by cases h; rfl
theorem tupI_inj : ∀ x y : List Int, tupI x = tupI y → x = y := fun x y h => by
  injection h with h
  exact (List.map_inj_right int_inj).mp h
theorem tupI_pl {k : Nat} (x : List Int) : plainD (k + 1) (tupI x) = true := by
  unfold plainD
  rw [List.all_map, List.all_eq_true]
  intro y _
  show plainD k (.int y) = true
  unfold plainD; rfl
def lstI (x : List Int) : D := .lst (x.map .int)
theorem lstI_inj : ∀ x y : List Int, lstI x = lstI y → x = y := fun x y h => by
  injection h with h
  exact (List.map_inj_right int_inj).mp h
theorem lstI_pl {k : Nat} (x : List Int) : plainD (k + 1) (lstI x) = true := by
  unfold lstI plainD
  rw [List.all_map, List.all_eq_true]
  intro y _
  show plainD k (.int y) = true
  unfold plainD; rfl
theorem rowsD_inj : ∀ x y : List (List Int), rowsD x = rowsD y → x = y := fun x y h => by
  injection h with h
  exact (List.map_inj_right tupI_inj).mp h
theorem rowsD_pl {k : Nat} (x : List (List Int)) : plainD (k + 2) (rowsD x) = true := by
  unfold plainD
  rw [List.all_map, List.all_eq_true]
  intro y _
  exact tupI_pl y
def lstT (x : List (List Int)) : D := .lst (x.map tupI)
theorem lstT_inj : ∀ x y : List (List Int), lstT x = lstT y → x = y := fun x y h => by
  injection h with h
  exact (List.map_inj_right tupI_inj).mp h
theorem lstT_pl {k : Nat} (x : List (List Int)) : plainD (k + 2) (lstT x) = true := by
  unfold lstT plainD
  rw [List.all_map, List.all_eq_true]
  intro y _
  exact tupI_pl y
theorem eqD_ti {x y : List Int} : eqD (.tup (x.map .int)) (.tup (y.map .int)) = some (.bl (decide (x = y))) := eqD_enc (enc := tupI) 1 (by decide) tupI_pl tupI_inj x y
theorem neD_ti {x y : List Int} : neD (.tup (x.map .int)) (.tup (y.map .int)) = some (.bl (!decide (x = y))) := neD_enc (enc := tupI) 1 (by decide) tupI_pl tupI_inj x y
theorem eqD_li {x y : List Int} : eqD (.lst (x.map .int)) (.lst (y.map .int)) = some (.bl (decide (x = y))) := eqD_enc (enc := lstI) 1 (by decide) lstI_pl lstI_inj x y
theorem neD_li {x y : List Int} : neD (.lst (x.map .int)) (.lst (y.map .int)) = some (.bl (!decide (x = y))) := neD_enc (enc := lstI) 1 (by decide) lstI_pl lstI_inj x y
theorem eqD_tt {x y : List (List Int)} : eqD (.tup (x.map tupI)) (.tup (y.map tupI)) = some (.bl (decide (x = y))) := eqD_enc (enc := rowsD) 2 (by decide) rowsD_pl rowsD_inj x y
theorem neD_tt {x y : List (List Int)} : neD (.tup (x.map tupI)) (.tup (y.map tupI)) = some (.bl (!decide (x = y))) := neD_enc (enc := rowsD) 2 (by decide) rowsD_pl rowsD_inj x y
theorem eqD_lt {x y : List (List Int)} : eqD (.lst (x.map tupI)) (.lst (y.map tupI)) = some (.bl (decide (x = y))) := eqD_enc (enc := lstT) 2 (by decide) lstT_pl lstT_inj x y
theorem neD_lt {x y : List (List Int)} : neD (.lst (x.map tupI)) (.lst (y.map tupI)) = some (.bl (!decide (x = y))) := neD_enc (enc := lstT) 2 (by decide) lstT_pl lstT_inj x y
section
variable {cl : List Nat} {nf : Nat → Nat → Bool} {p : Fn} {y : D}
theorem eqA_i {i : Int} : eqA cl nf p (.int i) y = eqD (.int i) y := rfl
theorem eqA_t {i : List D} : eqA cl nf p (.tup i) y = eqD (.tup i) y := rfl
theorem eqA_l {i : List D} : eqA cl nf p (.lst i) y = eqD (.lst i) y := rfl
theorem eqA_n : eqA cl nf p .non y = eqD .non y := rfl
theorem eqA_s {i : Str} : eqA cl nf p (.str i) y = eqD (.str i) y := rfl
theorem eqA_b {i : Bool} : eqA cl nf p (.bl i) y = eqD (.bl i) y := rfl
theorem neA_i {i : Int} : neA cl nf p (.int i) y = neD (.int i) y := rfl
theorem neA_t {i : List D} : neA cl nf p (.tup i) y = neD (.tup i) y := rfl
theorem neA_l {i : List D} : neA cl nf p (.lst i) y = neD (.lst i) y := rfl
theorem neA_n : neA cl nf p .non y = neD .non y := rfl
theorem neA_s {i : Str} : neA cl nf p (.str i) y = neD (.str i) y := rfl
theorem neA_b {i : Bool} : neA cl nf p (.bl i) y = neD (.bl i) y := rfl
end
theorem mapT_snoc2 {rs : List (List Int)} {a b : Int} : rs.map tupI ++ [.tup [.int a, .int b]] = (rs ++ [[a, b]]).map tupI := by rw [List.map_append]; rfl
theorem eqD_tp {x : List Int} {a b : Int} : eqD (.tup (x.map .int)) (.tup [.int a, .int b]) = some (.bl (decide (x = [a, b]))) := eqD_ti (y := [a, b])
theorem neD_tp {x : List Int} {a b : Int} : neD (.tup (x.map .int)) (.tup [.int a, .int b]) = some (.bl (!decide (x = [a, b]))) := neD_ti (y := [a, b])
/-! ### dicts -/
section
variable {env e : Env} {fa fb fv : M D} {fx : P Fd} {pb : P D} {d k : D} {o : Od}
theorem pdg_s : pdg fx pb env = (fx env).bind fun x => (pb env).bind fun k => (dgetF x k).join := rfl
theorem pdi_s {neg : Bool} : pdi neg fx pb env = (pb env).bind fun k => (fx env).bind fun x => (dgetF x k).map fun r => .bl (if neg = true then !r.isSome else r.isSome) := rfl
theorem mdi_k {neg : Bool} : mdi neg fx fb env = mbk (fb env) fun k => pu fun env => (fx env).bind fun x => (dgetF x k).map fun r => .bl (if neg = true then !r.isSome else r.isSome) := mb_k
def mdgx (i : Nat) (o : Option (D × Env)) (x : Option (Option Od)) : Option (D × Env) := x.join.bind fun _ => mbk o (fun k => pu fun env => (px i env).bind fun x => (dgetF x k).join)
theorem mdg_k {i : Nat} : mdg i fb env = mdgx i (fb env) env[i]? := by
  unfold mdg mdgx
  cases (env[i]?).join with
  | none => rfl
  | some _ =>
    simp only [Option.bind_some]
    exact mb_k
theorem mdgx_s {i : Nat} {x : Option (D × Env)} : mdgx i x (some (some o)) = mbk x (fun k => pu fun env => (px i env).bind fun x => (dgetF x k).join) := rfl
def gdpy (j : Nat) (d : D) (o : Option (D × Env)) : Option (Out × Env) := o.bind fun r => (dputO j r.1 d r.2).map fun e => (.nx, e)
def gdpx (j : Nat) (fk : M D) (d : D) (e : Env) (x : Option (Option Od)) : Option (Out × Env) := x.join.bind fun _ => gdpy j d (fk e)
def gdpk (j : Nat) (fk : M D) (o : Option (D × Env)) : Option (Out × Env) := o.bind fun q => gdpx j fk q.1 q.2 q.2[j]?
theorem gdp_k {j : Nat} : gdp j fb fv env = gdpk j fb (fv env) := rfl
theorem gdpk_s {j : Nat} : gdpk j fb (some (d, e)) = gdpx j fb d e e[j]? := rfl
theorem gdpx_s {j : Nat} : gdpx j fb d e (some (some o)) = gdpy j d (fb e) := rfl
theorem gdpy_s {j : Nat} : gdpy j d (some (k, e)) = (dputO j k d e).map fun e => (.nx, e) := rfl
def dpx (j : Nat) (k d : D) (env : Env) : Option (Option Od) → Option Env
  | some (some (.fd (.dik ks))) => (toK k).bind fun q => if ks.length < 16777216 then some (env.set j (some (.fd (.dik (dput ks q d))))) else none
  | some (some (.fd (.dit ks))) => (toTK k).bind fun q => if ks.length < 16777216 then some (env.set j (some (.fd (.dit (dput ks q d))))) else none
  | _ => none
theorem dputO_k {j : Nat} : dputO j k d e = dpx j k d e e[j]? := rfl
theorem dpx_k {j : Nat} {ks : List (L2.Key × D)} (h : ks.length < 16777216) : dpx j k d e (some (some (.fd (.dik ks)))) = (toK k).bind fun q => some (e.set j (some (.fd (.dik (dput ks q d))))) := by
  unfold dpx; simp only [h, if_true]
theorem dpx_t {j : Nat} {ks : List (List L2.Key × D)} (h : ks.length < 16777216) : dpx j k d e (some (some (.fd (.dit ks)))) = (toTK k).bind fun q => some (e.set j (some (.fd (.dit (dput ks q d))))) := by
  unfold dpx; simp only [h, if_true]
def gfpk (i : Nat) (n : Str) (fk : P D) (o : Option (D × Env)) : Option (Out × Env) := o.bind fun q => (fk q.2).bind fun r => (dputF i n r q.1 q.2).map fun e => (.nx, e)
theorem gdpF_k {i : Nat} {n : Str} : gdpF i n pb fv env = gfpk i n pb (fv env) := rfl
theorem gfpk_s {i : Nat} {n : Str} : gfpk i n pb (some (d, e)) = (pb e).bind fun r => (dputF i n r d e).map fun e => (.nx, e) := rfl
def dfx (i : Nat) (n : Str) (k d : D) (env : Env) : Option (Option Od) → Option Env
  | some (some (.obj c gs)) => (dputG n k d gs).map fun gs' => env.set i (some (.obj c gs'))
  | _ => none
theorem dputF_k {i : Nat} {n : Str} : dputF i n k d e = dfx i n k d e e[i]? := rfl
theorem dfx_s {i : Nat} {n : Str} {c : Nat} {gs : List (Str × Fd)} : dfx i n k d e (some (some (.obj c gs))) = (dputG n k d gs).map fun gs' => e.set i (some (.obj c gs')) := rfl
def dgx (n : Str) (k d : D) (gs : List (Str × Fd)) : Option Fd → Option (List (Str × Fd))
  | some (.dik ks) => (toK k).bind fun q => if ks.length < 16777216 then some (putG n (.dik (dput ks q d)) gs) else none
  | some (.dit ks) => (toTK k).bind fun q => if ks.length < 16777216 then some (putG n (.dit (dput ks q d)) gs) else none
  | _ => none
theorem dputG_k {n : Str} {gs : List (Str × Fd)} : dputG n k d gs = dgx n k d gs (gs.lookup n) := rfl
theorem dgx_k {n : Str} {gs : List (Str × Fd)} {ks : List (L2.Key × D)} (h : ks.length < 16777216) : dgx n k d gs (some (.dik ks)) = (toK k).bind fun q => some (putG n (.dik (dput ks q d)) gs) := by
  unfold dgx; simp only [h, if_true]
theorem dgx_t {n : Str} {gs : List (Str × Fd)} {ks : List (List L2.Key × D)} (h : ks.length < 16777216) : dgx n k d gs (some (.dit ks)) = (toTK k).bind fun q => some (putG n (.dit (dput ks q d)) gs) := by
  unfold dgx; simp only [h, if_true]
theorem toK_i {i : Int} : toK (.int i) = some (.inl i) := rfl
theorem toTK_2 {a b : Int} : toTK (.tup [.int a, .int b]) = some [.inl a, .inl b] := rfl
theorem dgF_k {ks : List (L2.Key × D)} {i : Int} : dgetF (.dik ks) (.int i) = some (dget ks (.inl i)) := rfl
theorem dgF_vk {ks : List (L2.Key × D)} {i : Int} : dgetF (.val (.dik ks)) (.int i) = some (dget ks (.inl i)) := rfl
theorem dgF_t {ks : List (List L2.Key × D)} {a b : Int} : dgetF (.dit ks) (.tup [.int a, .int b]) = some (dget ks [.inl a, .inl b]) := rfl
theorem dgF_vt {ks : List (List L2.Key × D)} {a b : Int} : dgetF (.val (.dit ks)) (.tup [.int a, .int b]) = some (dget ks [.inl a, .inl b]) := rfl
theorem mdd_k : mdd fa fb env = mbk (fa env) fun k => mb fb fun v => mo ((toTK k).map fun q => .fd (.dit [(q, v)])) := mb_k
theorem mrev_k : mrev fa env = mbk (fa env) fun x => mo (revL x) := mb_k
theorem revL_s {xs : List D} : revL (.lst xs) = some (.fd (.lst xs.reverse)) := rfl
theorem mrevA_k : mrevA fa env = mbk (fa env) fun x => mo (revA x) := mb_k
theorem revA_l {xs : List D} : revA (.lst xs) = some (.fd (.lst xs.reverse)) := rfl
theorem revA_t {xs : List D} : revA (.tup xs) = some (.fd (.val (.tup xs.reverse))) := rfl
theorem bitsD_s {i : Int} : bitsD (.int i) = some (.int (Builtin.Int.intBits i : Nat)) := rfl
theorem lenSetD_s {ns : List Int} (h : ns.length ≤ 4000) : lenSetD (.lst (ns.map .int)) = some (.int ((metI ns).length : Nat)) := by
  have : toInts (ns.map D.int) = some ns := by
    clear h
    induction ns with
    | nil => rfl
    | cons n ns ih => show (toInts (ns.map D.int)).map (n :: ·) = _; rw [ih]; rfl
  show (toInts (ns.map D.int)).bind _ = _
  rw [this]
  exact if_pos h
def gt2k (o : Option (D × Env)) (t1 t2 : Tg) : Option (Out × Env) := o.bind fun q => (t1 q.1 q.2).bind fun e1 => (t2 q.1 e1).map fun e => (.nx, e)
theorem gtg2_k {t1 t2 : Tg} : gtg2 fa t1 t2 env = gt2k (fa env) t1 t2 := rfl
theorem gt2k_s {t1 t2 : Tg} : gt2k (some (d, e)) t1 t2 = (t1 d e).bind fun e1 => (t2 d e1).map fun e => (.nx, e) := rfl
theorem mmtx_k {m : Str} {c n : Nat} {fo : M Od} {p : Fn} {l : M (List D)} : mmtx m c fo p n l env = mbk (fo env) fun o => if noM m c o = true then mb l fun ds => (if ds.length + 1 = n then mo ((p (some o :: vals ds)).map (·.1)) else mo none) else mo none := mb_k
theorem isiB_lt {tab : Nat → Option Bool} {i : List D} : isiB "tuple" tab (.lst i) = some (.bl false) := by
  show (kitB "list" "tuple").map D.bl = _
  rw [show kitB "list" "tuple" = some false by decide +kernel]; rfl
theorem isiB_tl {tab : Nat → Option Bool} {i : List D} : isiB "list" tab (.tup i) = some (.bl false) := by
  show (kitB "tuple" "list").map D.bl = _
  rw [show kitB "tuple" "list" = some false by decide +kernel]; rfl
theorem isB2_l {tab : Nat → Option Bool} {xs : List D} : isiB2 "list" "tuple" tab (.lst xs) = some (.bl true) := by
  unfold isiB2
  rw [isiB_ll, isiB_lt]; rfl
theorem isB2_t {tab : Nat → Option Bool} {xs : List D} : isiB2 "list" "tuple" tab (.tup xs) = some (.bl true) := by
  unfold isiB2
  rw [isiB_tt, isiB_tl]; rfl
end
theorem sumB_t {ns : List Int} : sumB [.tup (ns.map .int)] = some (.int ns.sum) := by
  have : toInts (ns.map D.int) = some ns := by
    induction ns with
    | nil => rfl
    | cons n ns ih => show (toInts (ns.map D.int)).map (n :: ·) = _; rw [ih]; rfl
  show (toInts (ns.map D.int)).map _ = _
  rw [this]; rfl
theorem sumB_s {ns : List Int} : sumB [.lst (ns.map .int)] = some (.int ns.sum) := by
  have : toInts (ns.map D.int) = some ns := by
    induction ns with
    | nil => rfl
    | cons n ns ih => show (toInts (ns.map D.int)).map (n :: ·) = _; rw [ih]; rfl
  show (toInts (ns.map D.int)).map _ = _
  rw [this]; rfl
/-! ### sets of ints, two fors, calls that look at what lives on -/
section
variable {env : Env} {f : M D} {i : Nat} {p : Fn}
theorem mssI_k : mssI f env = mbk (f env) fun d => mo (ssetI d) := mb_k
theorem toInts_map (ms : List Int) : toInts (ms.map D.int) = some ms := by
  induction ms with
  | nil => rfl
  | cons n ns ih => show (toInts (ns.map D.int)).map (n :: ·) = _; rw [ih]; rfl
def mclTy (env : Env) : Option (Od × List (Option Od)) → Option (D × Env)
  | some (o, _) => (scal o).map fun d => (d, env)
  | none => none
def mclTx (p : Fn) (env : Env) : Option (Option Od) → Option (D × Env)
  | some (some o) => mclTy env (p [vv o.frz])
  | _ => none
theorem mclT_k : mclT i p env = mclTx p env env[i]? := by
  unfold mclT mclTx
  cases env[i]? with
  | none => rfl
  | some o =>
    cases o with
    | none => rfl
    | some o =>
      show (p [vv o.frz]).bind _ = mclTy env (p [vv o.frz])
      cases p [vv o.frz] <;> rfl
theorem mclTx_s {o : Od} : mclTx p env (some (some o)) = mclTy env (p [vv o.frz]) := rfl
theorem mclTy_b {b : Bool} {a : List (Option Od)} : mclTy env (some (.fd (.val (.bl b)), a)) = some (.bl b, env) := rfl
end
section
variable {vs vs1 : List Nat} {tg tg1 : Tg} {ft ft1 : M Bool} {f1 : M (List D)} {fe : M D} {d : D} {e env : Env} {acc : List D}
def lc2C (vs vs1 : List Nat) (tg1 : Tg) (ft1 : M Bool) (fe : M D) (acc : List D) : Option (List D × Env) → Option (List D × Env)
  | some (ds, e) => (lcD vs1 tg1 ft1 fe ds acc (wipeE e vs1)).map fun a => (a.1, wipeE a.2 vs)
  | none => none
def lc2B (vs vs1 : List Nat) (f1 : M (List D)) (tg1 : Tg) (ft1 : M Bool) (fe : M D) (acc : List D) : Option (Bool × Env) → Option (List D × Env)
  | some (b, e) => if b = true then lc2C vs vs1 tg1 ft1 fe acc (f1 e) else some (acc, wipeE e vs)
  | none => none
def lc2A (vs vs1 : List Nat) (ft : M Bool) (f1 : M (List D)) (tg1 : Tg) (ft1 : M Bool) (fe : M D) (acc : List D) : Option Env → Option (List D × Env)
  | some e => lc2B vs vs1 f1 tg1 ft1 fe acc (ft e)
  | none => none
def lc2T (vs vs1 : List Nat) (tg : Tg) (ft : M Bool) (f1 : M (List D)) (tg1 : Tg) (ft1 : M Bool) (fe : M D) (d : D) (acc : List D) (e : Env) : Option (List D × Env) := lc2A vs vs1 ft f1 tg1 ft1 fe acc (tg d e)
theorem lc2T_k : lc2T vs vs1 tg ft f1 tg1 ft1 fe d acc e = lc2A vs vs1 ft f1 tg1 ft1 fe acc (tg d e) := rfl
theorem lc2A_s : lc2A vs vs1 ft f1 tg1 ft1 fe acc (some e) = lc2B vs vs1 f1 tg1 ft1 fe acc (ft e) := rfl
theorem lc2B_s {b : Bool} : lc2B vs vs1 f1 tg1 ft1 fe acc (some (b, e)) = if b = true then lc2C vs vs1 tg1 ft1 fe acc (f1 e) else some (acc, wipeE e vs) := rfl
theorem lc2C_s {ds : List D} : lc2C vs vs1 tg1 ft1 fe acc (some (ds, e)) = (lcD vs1 tg1 ft1 fe ds acc (wipeE e vs1)).map fun a => (a.1, wipeE a.2 vs) := rfl
def lck2 (n : Nat) (vs vs1 : List Nat) (o : Option (List D × Env)) (tg : Tg) (ft : M Bool) (f1 : M (List D)) (tg1 : Tg) (ft1 : M Bool) (fe : M D) : Option (Od × Env) := o.bind fun q => if q.2.length = n then (lcD2 vs vs1 tg ft f1 tg1 ft1 fe q.1 [] (wipeE q.2 vs)).map fun r => (.fd (.lst r.1), restE q.2 vs r.2) else none
theorem mlc2_k {n : Nat} {l : M (List D)} : mlc2 n vs vs1 l tg ft f1 tg1 ft1 fe env = lck2 n vs vs1 (l env) tg ft f1 tg1 ft1 fe := rfl
theorem lck2_s {n : Nat} {ds : List D} : lck2 n vs vs1 (some (ds, e)) tg ft f1 tg1 ft1 fe = if e.length = n then (lcD2 vs vs1 tg ft f1 tg1 ft1 fe ds [] (wipeE e vs)).map fun r => (.fd (.lst r.1), restE e vs r.2) else none := rfl
end
end DL

namespace DL
open PySem PySem.Spec PyProof.Rows L2
/-! ### ties as lists of pairs -/
theorem asc_ext {α : Type} {r : α → α → Prop} (irr : ∀ x, ¬ r x x) (asy : ∀ x y, r x y → r y x → False) : ∀ {a b : List α}, a.Pairwise r → b.Pairwise r → (∀ x, x ∈ a ↔ x ∈ b) → a = b
  | [], [], _, _, _ => rfl
  | [], y :: b, _, _, h => absurd ((h y).mpr List.mem_cons_self) (by simp)
  | x :: a, [], _, _, h => absurd ((h x).mp List.mem_cons_self) (by simp)
  | x :: a, y :: b, h1, h2, h => by
    obtain ⟨p1, p2⟩ := List.pairwise_cons.mp h1
    obtain ⟨q1, q2⟩ := List.pairwise_cons.mp h2
    have hxy : x = y := by
      rcases List.mem_cons.mp ((h x).mp List.mem_cons_self) with e | e
      · exact e
      · rcases List.mem_cons.mp ((h y).mpr List.mem_cons_self) with e2 | e2
        · exact e2.symm
        · exact (asy _ _ (q1 x e) (p1 y e2)).elim
    subst hxy
    congr 1
    refine asc_ext irr asy p2 q2 fun z => ⟨fun hz => ?_, fun hz => ?_⟩
    · rcases List.mem_cons.mp ((h z).mp (List.mem_cons_of_mem _ hz)) with e | e
      · subst e; exact (irr _ (p1 _ hz)).elim
      · exact e
    · rcases List.mem_cons.mp ((h z).mpr (List.mem_cons_of_mem _ hz)) with e | e
      · subst e; exact (irr _ (q1 _ hz)).elim
      · exact e
theorem asc_ext_int {a b : List Int} (h1 : a.Pairwise (· < ·)) (h2 : b.Pairwise (· < ·)) (h : ∀ x, x ∈ a ↔ x ∈ b) : a = b :=
  asc_ext (fun x => by omega) (fun x y => by omega) h1 h2 h
theorem Row.ext {n m : Nat} {a b : List Int} (h1 : Row n a) (h2 : Row m b) (h : ∀ x, x ∈ a ↔ x ∈ b) : a = b := asc_ext_int h1.lt h2.lt h
theorem toTups_s {ts : List (List Int)} : toTups (ts.map tupI) = some ts := by
  induction ts with
  | nil => rfl
  | cons t ts ih =>
    show (toInts (t.map .int)).bind _ = _
    have : toInts (t.map D.int) = some t := by
      induction t with
      | nil => rfl
      | cons n ns ih => show (toInts (ns.map D.int)).map (n :: ·) = _; rw [ih]; rfl
    rw [this]
    show (toTups (ts.map tupI)).map (t :: ·) = _
    rw [ih]; rfl
theorem Rows.set {rs : List (List Int)} {p : Nat} {r : List Int} (h : Rows rs) (hr : Row rs.length r) : Rows (rs.set p r) := ⟨fun q hq => by
  rw [List.length_set]
  rcases List.mem_or_eq_of_mem_set hq with h1 | rfl
  · exact h.row q h1
  · exact hr⟩
/-! a tie put in, a tie struck -/
end DL

namespace DL
open PySem PySem.Spec PyProof.Rows L2
/-! ### sets of small numbers as bits -/
def msk (s : List Nat) : Nat := (s.map (2 ^ ·)).sum
abbrev Asc (s : List Nat) : Prop := s.Pairwise (· < ·)
theorem msk_nil : msk [] = 0 := rfl
theorem msk_cons {p : Nat} {s : List Nat} : msk (p :: s) = 2 ^ p + msk s := by unfold msk; simp
theorem msk_perm {s t : List Nat} (h : s.Perm t) : msk s = msk t := by
  unfold msk; exact (h.map _).sum_nat
theorem msk_dvd {b : Nat} : ∀ {s : List Nat}, (∀ i ∈ s, b ≤ i) → ∃ q, msk s = 2 ^ b * q
  | [], _ => ⟨0, rfl⟩
  | p :: s, h => by
    obtain ⟨q, hq⟩ := msk_dvd (s := s) fun i hi => h i (List.mem_cons_of_mem _ hi)
    have hp := h p List.mem_cons_self
    refine ⟨2 ^ (p - b) + q, ?_⟩
    rw [msk_cons, hq, Nat.mul_add, ← Nat.pow_add, show b + (p - b) = p by omega]
theorem msk_odd {p : Nat} {s : List Nat} (h : Asc (p :: s)) : ∃ q, msk s = 2 ^ (p + 1) * q ∧ msk (p :: s) = 2 ^ p * (2 * q + 1) := by
  obtain ⟨q, hq⟩ := msk_dvd (b := p + 1) (s := s) fun i hi => (List.pairwise_cons.mp h).1 i hi
  refine ⟨q, hq, ?_⟩
  rw [msk_cons, hq, Nat.pow_succ, Nat.mul_add, Nat.mul_one, Nat.mul_assoc, Nat.add_comm]
theorem msk_has {n : Nat} : ∀ {s : List Nat}, Asc s → (msk s / 2 ^ n) % 2 = if n ∈ s then 1 else 0
  | [], _ => by simp [msk_nil]
  | p :: s, h => by
    obtain ⟨q, h1, h2⟩ := msk_odd h
    obtain ⟨a1, a2⟩ := List.pairwise_cons.mp h
    rcases Nat.lt_trichotomy n p with c | c | c
    · have hn : ¬ n ∈ p :: s := by
        intro hm
        rcases List.mem_cons.mp hm with e | e
        · omega
        · have := a1 n e; omega
      rw [if_neg hn, h2, show p = n + (p - n - 1 + 1) by omega, Nat.pow_add, Nat.mul_assoc, Nat.mul_div_cancel_left _ (Nat.two_pow_pos n), Nat.pow_succ, Nat.mul_comm (2 ^ (p - n - 1)) 2, Nat.mul_assoc]
      exact Nat.mul_mod_right 2 _
    · subst c
      rw [if_pos List.mem_cons_self, h2, Nat.mul_div_cancel_left _ (Nat.two_pow_pos n)]
      omega
    · have ih := msk_has (n := n) a2
      have e : msk (p :: s) / 2 ^ n = msk s / 2 ^ n := by
        have hn : n = p + 1 + (n - p - 1) := by omega
        have hp : (2 : Nat) ^ n = 2 ^ (p + 1) * 2 ^ (n - p - 1) := by
          conv => lhs; rw [hn, Nat.pow_add]
        rw [hp, ← Nat.div_div_eq_div_mul, ← Nat.div_div_eq_div_mul]
        congr 1
        rw [msk_cons, h1, Nat.add_comm, Nat.mul_add_div (Nat.two_pow_pos _), Nat.mul_div_cancel_left _ (Nat.two_pow_pos _), Nat.div_eq_of_lt (Nat.pow_lt_pow_right (by decide) (Nat.lt_succ_self p))]
        rfl
      rw [e, ih]
      have : n ∈ p :: s ↔ n ∈ s := ⟨fun h => (List.mem_cons.mp h).resolve_left (by omega), List.mem_cons_of_mem _⟩
      by_cases c2 : n ∈ s
      · rw [if_pos c2, if_pos (this.mpr c2)]
      · rw [if_neg c2, if_neg fun z => c2 (this.mp z)]
theorem asc_ext_nat {a b : List Nat} (h1 : Asc a) (h2 : Asc b) (h : ∀ x, x ∈ a ↔ x ∈ b) : a = b :=
  asc_ext (fun x => by omega) (fun x y => by omega) h1 h2 h
theorem msk_inj {s t : List Nat} (h1 : Asc s) (h2 : Asc t) (h : msk s = msk t) : s = t := by
  refine asc_ext_nat h1 h2 fun n => ?_
  have e1 := msk_has (n := n) h1
  have e2 := msk_has (n := n) h2
  rw [h, e2] at e1
  by_cases c : n ∈ s <;> by_cases c2 : n ∈ t <;> simp [c, c2] at e1 ⊢
theorem msk_lt {n : Nat} : ∀ {s : List Nat}, Asc s → (∀ i ∈ s, i < n) → msk s < 2 ^ n := by
  intro s h hb
  -- all of them below n: the sum of the powers of an ascending list
  have key : ∀ (s : List Nat) (n : Nat), Asc s → (∀ i ∈ s, i < n) → msk s < 2 ^ n := by
    intro s
    have rev : ∀ (r : List Nat) (n : Nat), r.Pairwise (fun a b => b < a) → (∀ i ∈ r, i < n) → msk r < 2 ^ n := by
      intro r
      induction r with
      | nil => intro n _ _; rw [msk_nil]; exact Nat.two_pow_pos n
      | cons p r ih =>
        intro n hp hb
        obtain ⟨q1, q2⟩ := List.pairwise_cons.mp hp
        have h1 := ih p q2 fun i hi => q1 i hi
        have h2 := hb p List.mem_cons_self
        have h3 : 2 ^ (p + 1) ≤ 2 ^ n := Nat.pow_le_pow_right (by decide) h2
        rw [msk_cons]
        rw [Nat.pow_succ] at h3
        omega
    intro n h hb
    have := rev s.reverse n (List.pairwise_reverse.mpr h) fun i hi => hb i (List.mem_reverse.mp hi)
    rwa [msk_perm (List.reverse_perm s)] at this
  exact key s n h hb
theorem asc_erase {s : List Nat} {i : Nat} (h : Asc s) : Asc (s.erase i) := h.sublist List.erase_sublist
theorem asc_nodup {s : List Nat} (h : Asc s) : s.Nodup := h.imp fun h => by omega
/-! ### the number of ways -/
def ways (rs : List (List Int)) : List Nat → List Nat → Nat
  | [], _ => 1
  | p :: ps, ts => (((rs.getD p []).filter fun x => decide (x.toNat ∈ ts)).map fun x => ways rs ps (ts.erase x.toNat)).sum
/-- what a counter has kept -/
structure Memo (rs : List (List Int)) (ks : List (List L2.Key × D)) : Prop where
  nd : (ks.map (·.1)).Nodup
  bd : ∀ k ∈ ks.map (·.1), ∃ a b : Nat, k = [.inl (a : Int), .inl (b : Int)] ∧ a < 2 ^ 12 ∧ b < 2 ^ 12 ∧ (a = 0 → b = 0)
  z : dget ks [.inl 0, .inl 0] = some (.int 1)
  ok : ∀ ps ts d, Asc ps → Asc ts → dget ks [.inl (msk ps : Nat), .inl (msk ts : Nat)] = some d → d = .int (ways rs ps ts : Nat)
theorem dget_mem {κ : Type} [DecidableEq κ] {ks : List (κ × D)} {k : κ} {d : D} (h : dget ks k = some d) : k ∈ ks.map (·.1) := by
  unfold dget at h
  obtain ⟨q, h1, h2⟩ := map_some h
  have h3 := List.find?_some h1
  exact List.mem_map.mpr ⟨q, List.mem_of_find?_eq_some h1, of_decide_eq_true h3⟩
theorem dget_none {κ : Type} [DecidableEq κ] {ks : List (κ × D)} {k : κ} (h : dget ks k = none) : ¬ k ∈ ks.map (·.1) := by
  unfold dget at h
  rw [Option.map_eq_none_iff] at h
  intro hm
  obtain ⟨q, h1, h2⟩ := List.mem_map.mp hm
  have := List.find?_eq_none.mp h q h1
  simp [h2] at this
theorem dput_new {κ : Type} [DecidableEq κ] {ks : List (κ × D)} {k : κ} {d : D} (h : dget ks k = none) : dput ks k d = ks ++ [(k, d)] := by
  unfold dput
  rw [if_neg]
  intro hc
  obtain ⟨q, h1, h2⟩ := List.any_eq_true.mp hc
  exact dget_none h (List.mem_map.mpr ⟨q, h1, of_decide_eq_true h2⟩)
theorem dget_app {κ : Type} [DecidableEq κ] {ks : List (κ × D)} {k k' : κ} {d : D} : dget (ks ++ [(k, d)]) k' = (dget ks k').or (if k = k' then some d else none) := by
  unfold dget
  rw [List.find?_append]
  cases h : ks.find? (fun kv => decide (kv.1 = k')) with
  | some q => rfl
  | none =>
    by_cases c : k = k'
    · simp [c]
    · simp [c]
/-- unlike numbers below N are N at most -/
theorem nd_len {ns : List Nat} {N : Nat} (h : ns.Nodup) (hb : ∀ n ∈ ns, n < N) : ns.length ≤ N := by
  have h1 := asc_len (n := (N : Int)) (a := 0) (r := isort (ns.map Int.ofNat)) ((List.pairwise_and_iff.mpr ⟨isort_le _, (isort_perm _).nodup_iff.mpr (List.pairwise_map.mpr (h.imp fun h e => h (Int.ofNat.inj e)))⟩).imp fun ⟨a, b⟩ => by omega) fun x hx => by
    obtain ⟨n, hn, rfl⟩ := List.mem_map.mp ((isort_perm _).mem_iff.mp hx)
    have := hb n hn
    show 0 ≤ (n : Int) ∧ (n : Int) < N
    omega
  rw [(isort_perm _).length_eq, List.length_map] at h1
  omega
theorem dget_put {κ : Type} [DecidableEq κ] {k k' : κ} {d : D} : ∀ {ks : List (κ × D)}, dget (dput ks k d) k' = if k = k' then some d else dget ks k' := by
  intro ks
  cases h : dget ks k with
  | none =>
    rw [dput_new h, dget_app]
    by_cases c : k = k'
    · subst c; rw [h, if_pos rfl]; rfl
    · rw [if_neg c, if_neg c]; cases dget ks k' <;> rfl
  | some d0 =>
    have hany : (ks.any fun kv => decide (kv.1 = k)) = true := by
      obtain ⟨q, h1, h2⟩ := List.mem_map.mp (dget_mem h)
      exact List.any_eq_true.mpr ⟨q, h1, decide_eq_true h2⟩
    have hm := dget_mem h
    unfold dput
    rw [if_pos hany]
    clear h hany
    induction ks with
    | nil => simp at hm
    | cons q ks ih =>
      unfold dget at ih ⊢
      rw [List.map_cons, List.find?_cons]
      by_cases c : q.1 = k
      · rw [if_pos c]
        by_cases c2 : k = k'
        · simp [c, c2]
        · have c3 : ¬ q.1 = k' := fun e => c2 (c.symm.trans e)
          simp only [c3, decide_false, if_neg c2]
          rw [List.find?_cons]
          simp only [c3, decide_false]
          by_cases hm2 : k ∈ ks.map (·.1)
          · have := ih hm2
            rw [if_neg c2] at this
            exact this
          · have : (ks.map fun kv => if kv.1 = k then (kv.1, d) else kv) = ks := by
              conv => rhs; rw [← List.map_id ks]
              refine List.map_congr_left fun x hx => ?_
              rw [if_neg fun e => hm2 (List.mem_map.mpr ⟨x, hx, e⟩)]; rfl
            rw [this]
      · rw [if_neg c]
        have hm2 : k ∈ ks.map (·.1) := by
          rw [List.map_cons] at hm
          exact (List.mem_cons.mp hm).resolve_left fun e => c e.symm
        have := ih hm2
        by_cases c3 : q.1 = k'
        · have c2 : ¬ k = k' := fun e => c (c3.trans e.symm)
          simp [c3, c2]
        · rw [List.find?_cons]
          simp only [c3, decide_false]
          exact this
theorem dput_keys {κ : Type} [DecidableEq κ] {ks : List (κ × D)} {k : κ} {d d0 : D} (h : dget ks k = some d0) : (dput ks k d).map (·.1) = ks.map (·.1) := by
  have hany : (ks.any fun kv => decide (kv.1 = k)) = true := by
    obtain ⟨q, h1, h2⟩ := List.mem_map.mp (dget_mem h)
    exact List.any_eq_true.mpr ⟨q, h1, decide_eq_true h2⟩
  unfold dput
  rw [if_pos hany, List.map_map]
  refine List.map_congr_left fun x hx => ?_
  show (if x.1 = k then (x.1, d) else x).1 = x.1
  split <;> rfl
theorem Memo.lt {rs : List (List Int)} {ks : List (List L2.Key × D)} (m : Memo rs ks) : ks.length < 16777216 := by
  let f : List L2.Key → Nat := fun k => match k with
    | [.inl x, .inl y] => x.toNat * 4096 + y.toNat
    | _ => 0
  have h1 : ((ks.map (·.1)).map f).Nodup := by
    refine List.pairwise_map.mpr (m.nd.imp_of_mem fun {x y} hx hy hne e => hne ?_)
    obtain ⟨a, b, rfl, h1, h2, _⟩ := m.bd x hx
    obtain ⟨c, d, rfl, h3, h4, _⟩ := m.bd y hy
    have e : (a : Int).toNat * 4096 + (b : Int).toNat = (c : Int).toNat * 4096 + (d : Int).toNat := e
    simp only [Int.toNat_natCast] at e
    have e1 : a = c := by omega
    have e2 : b = d := by omega
    rw [e1, e2]
  have h2 : (1 :: (ks.map (·.1)).map f).Nodup := by
    refine List.nodup_cons.mpr ⟨fun h => ?_, h1⟩
    obtain ⟨k, hk, e⟩ := List.mem_map.mp h
    obtain ⟨a, b, rfl, h1, h2, h3⟩ := m.bd k hk
    have e : (a : Int).toNat * 4096 + (b : Int).toNat = 1 := e
    simp only [Int.toNat_natCast] at e
    have : a = 0 := by omega
    have := h3 this
    omega
  have := nd_len (N := 16777216) h2 fun n hn => by
    rcases List.mem_cons.mp hn with rfl | hn
    · decide
    · obtain ⟨k, hk, rfl⟩ := List.mem_map.mp hn
      obtain ⟨a, b, rfl, h1, h2, _⟩ := m.bd k hk
      show (a : Int).toNat * 4096 + (b : Int).toNat < 16777216
      simp only [Int.toNat_natCast]
      omega
  rw [List.length_cons, List.length_map, List.length_map] at this
  omega
theorem Memo.put {rs : List (List Int)} {ks : List (List L2.Key × D)} (m : Memo rs ks) {ps ts : List Nat} (hp : Asc ps) (ht : Asc ts) (hpb : ∀ i ∈ ps, i < 12) (htb : ∀ i ∈ ts, i < 12) (hl : ps.length = ts.length) :
    Memo rs (dput ks [.inl (msk ps : Nat), .inl (msk ts : Nat)] (.int (ways rs ps ts : Nat))) := by
  have hz : msk ps = 0 → msk ts = 0 := fun h => by
    have : ps = [] := msk_inj hp List.Pairwise.nil (by rw [h]; rfl)
    subst this
    rw [List.length_eq_zero_iff.mp hl.symm]; rfl
  have key : ∀ k, k ∈ (dput ks [.inl (msk ps : Nat), .inl (msk ts : Nat)] (.int (ways rs ps ts : Nat))).map (·.1) → k ∈ ks.map (·.1) ∨ k = [.inl (msk ps : Nat), .inl (msk ts : Nat)] := fun k hk => by
    cases h : dget ks [.inl (msk ps : Nat), .inl (msk ts : Nat)] with
    | some d => rw [dput_keys h] at hk; exact .inl hk
    | none =>
      rw [dput_new h, List.map_append] at hk
      exact (List.mem_append.mp hk).imp id fun h => List.mem_singleton.mp h
  refine ⟨?_, ?_, ?_, ?_⟩
  · cases h : dget ks [.inl (msk ps : Nat), .inl (msk ts : Nat)] with
    | some d => rw [dput_keys h]; exact m.nd
    | none =>
      rw [dput_new h, List.map_append]
      exact List.nodup_append.mpr ⟨m.nd, by simp, fun x hx y hy e => by
        rw [List.map_singleton, List.mem_singleton] at hy
        subst e
        rw [hy] at hx
        exact dget_none h hx⟩
  · intro k hk
    rcases key k hk with hk | rfl
    · exact m.bd k hk
    · exact ⟨msk ps, msk ts, rfl, msk_lt hp hpb, msk_lt ht htb, hz⟩
  · rw [dget_put]
    by_cases c : ([.inl ((msk ps : Nat) : Int), .inl ((msk ts : Nat) : Int)] : List L2.Key) = [.inl 0, .inl 0]
    · rw [if_pos c]
      simp only [List.cons.injEq, Sum.inl.injEq, and_true] at c
      have : ps = [] := msk_inj hp List.Pairwise.nil (by rw [msk_nil]; omega)
      subst this
      rfl
    · rw [if_neg c]; exact m.z
  · intro ps' ts' d h1 h2 h3
    rw [dget_put] at h3
    by_cases c : ([.inl ((msk ps : Nat) : Int), .inl ((msk ts : Nat) : Int)] : List L2.Key) = [.inl ((msk ps' : Nat) : Int), .inl ((msk ts' : Nat) : Int)]
    · rw [if_pos c] at h3
      cases h3
      simp only [List.cons.injEq, Sum.inl.injEq, and_true] at c
      rw [msk_inj hp h1 (by omega), msk_inj ht h2 (by omega)]
    · rw [if_neg c] at h3; exact m.ok ps' ts' d h1 h2 h3
end DL

namespace DL
open PySem PySem.Spec PyProof.Rows L2
/-! ### all dealings, listed -/
def asgL : List (List Int) → List Int → List (List Int)
  | [], told => [told]
  | row :: rows, told => (row.filter fun x => decide (x ∉ told)).flatMap fun x => asgL rows (told ++ [x])
def dstep (found : List (List Int)) (row : List Int) : List (List Int) := found.flatMap fun told => (row.filter fun x => decide (x ∉ told)).map fun x => told ++ [x]
def dls (rs : List (List Int)) : List (List Int) := rs.foldl dstep [[]]
theorem dls_fold : ∀ (rows : List (List Int)) (found : List (List Int)), rows.foldl dstep found = found.flatMap (asgL rows)
  | [], found => by
    show found = found.flatMap fun told => [told]
    induction found with
    | nil => rfl
    | cons a r ih => rw [List.flatMap_cons, ← ih]; rfl
  | row :: rows, found => by
    rw [List.foldl_cons, dls_fold rows]
    unfold dstep
    rw [List.flatMap_assoc]
    congr 1
    funext told
    rw [List.flatMap_map]
    rfl
theorem dls_eq (rs : List (List Int)) : dls rs = asgL rs [] := by
  unfold dls
  rw [dls_fold, List.flatMap_cons, List.flatMap_nil, List.append_nil]
/-- what a listed one is -/
theorem asgL_mem : ∀ {rows : List (List Int)} {told d : List Int}, d ∈ asgL rows told ↔ ∃ e, d = told ++ e ∧ e.length = rows.length ∧ e.Nodup ∧ (∀ x ∈ e, x ∉ told) ∧ ∀ (i : Nat) (x : Int) (r : List Int), e[i]? = some x → rows[i]? = some r → x ∈ r
  | [], told, d => by
    unfold asgL
    rw [List.mem_singleton]
    constructor
    · rintro rfl
      exact ⟨[], by simp, rfl, List.nodup_nil, fun x h => absurd h (by simp), fun i x r h => absurd h (by simp)⟩
    · rintro ⟨e, rfl, h, _⟩
      rw [List.length_eq_zero_iff.mp h, List.append_nil]
  | row :: rows, told, d => by
    unfold asgL
    rw [List.mem_flatMap]
    constructor
    · rintro ⟨x, hx, hd⟩
      obtain ⟨h1, h2⟩ := List.mem_filter.mp hx
      have h2 := of_decide_eq_true h2
      obtain ⟨e, rfl, g1, g2, g3, g4⟩ := asgL_mem.mp hd
      refine ⟨x :: e, by simp, by simp [g1], List.nodup_cons.mpr ⟨fun h => ?_, g2⟩, fun y hy => ?_, fun i y r hi hr => ?_⟩
      · exact g3 x h (by simp)
      · rcases List.mem_cons.mp hy with rfl | hy
        · exact h2
        · exact fun h => g3 y hy (List.mem_append_left _ h)
      · cases i with
        | zero => simp at hi hr; subst hi; subst hr; exact h1
        | succ i => exact g4 i y r (by simpa using hi) (by simpa using hr)
    · rintro ⟨e, rfl, g1, g2, g3, g4⟩
      cases e with
      | nil => simp at g1
      | cons x e =>
        obtain ⟨n1, n2⟩ := List.nodup_cons.mp g2
        refine ⟨x, List.mem_filter.mpr ⟨g4 0 x row rfl rfl, decide_eq_true (g3 x List.mem_cons_self)⟩, asgL_mem.mpr ⟨e, by simp, by simpa using g1, n2, fun y hy h => ?_, fun i y r hi hr => g4 (i + 1) y r (by simpa using hi) (by simpa using hr)⟩⟩
        rcases List.mem_append.mp h with h | h
        · exact g3 y (List.mem_cons_of_mem _ hy) h
        · rw [List.mem_singleton] at h; subst h; exact n1 hy
theorem dls_mem {rs : List (List Int)} {d : List Int} : d ∈ dls rs ↔ d.length = rs.length ∧ d.Nodup ∧ ∀ (i : Nat) (x : Int) (r : List Int), d[i]? = some x → rs[i]? = some r → x ∈ r := by
  rw [dls_eq, asgL_mem]
  constructor
  · rintro ⟨e, rfl, h1, h2, _, h3⟩
    exact ⟨h1, h2, h3⟩
  · rintro ⟨h1, h2, h3⟩
    exact ⟨d, rfl, h1, h2, fun x _ h => absurd h (by simp), h3⟩
/-! ### dealings with some things told -/
/-- the number of ways to go on, with what G allows -/
def cntG (G : Nat → Int → Bool) : List (List Int) → Nat → List Int → Nat
  | [], _, _ => 1
  | row :: rows, i, told => ((row.filter fun x => decide (x ∉ told) && G i x).map fun x => cntG G rows (i + 1) (told ++ [x])).sum
def fitG (G : Nat → Int → Bool) (lo k : Nat) (d : List Int) : Bool := (List.range' lo k).all fun p => G p (d.getD p 0)
theorem sum_flat {α : Type} {f : α → List (List Int)} {P : List Int → Bool} : ∀ {xs : List α}, ((xs.flatMap f).filter P).length = (xs.map fun x => ((f x).filter P).length).sum
  | [] => rfl
  | x :: xs => by
    rw [List.flatMap_cons, List.filter_append, List.length_append, sum_flat, List.map_cons, List.sum_cons]
theorem sum_filt {α : Type} {f : α → Nat} {P Q : α → Bool} (h : ∀ x, P x = true → Q x = false → f x = 0) : ∀ {xs : List α}, ((xs.filter P).map f).sum = ((xs.filter fun x => P x && Q x).map f).sum
  | [] => rfl
  | x :: xs => by
    have ih := sum_filt h (xs := xs)
    rw [List.filter_cons, List.filter_cons]
    by_cases c : P x = true
    · by_cases c2 : Q x = true
      · rw [if_pos c, if_pos (by rw [c, c2]; rfl), List.map_cons, List.map_cons, List.sum_cons, List.sum_cons, ih]
      · have c2 : Q x = false := by simpa using c2
        rw [if_pos c, if_neg (by rw [c, c2]; decide), List.map_cons, List.sum_cons, h x c c2, ih, Nat.zero_add]
    · rw [if_neg c, if_neg (fun z => c (Bool.and_eq_true_iff.mp z).1), ih]
theorem sum_zero {α : Type} {f : α → Nat} : ∀ {xs : List α}, (∀ x ∈ xs, f x = 0) → (xs.map f).sum = 0
  | [], _ => rfl
  | x :: xs, h => by
    rw [List.map_cons, List.sum_cons, h x List.mem_cons_self, sum_zero fun y hy => h y (List.mem_cons_of_mem _ hy)]
theorem asgL_fit {G : Nat → Int → Bool} : ∀ (rows : List (List Int)) (told : List Int), ((asgL rows told).filter (fitG G told.length rows.length)).length = cntG G rows told.length told
  | [], told => by
    unfold asgL cntG
    have : fitG G told.length 0 told = true := rfl
    show (List.filter (fitG G told.length 0) [told]).length = 1
    rw [List.filter_cons, if_pos this]; rfl
  | row :: rows, told => by
    unfold asgL cntG
    rw [sum_flat]
    have step : ∀ x, ((asgL rows (told ++ [x])).filter (fitG G told.length (row :: rows).length)).length = if G told.length x = true then cntG G rows (told.length + 1) (told ++ [x]) else 0 := fun x => by
      have ih := asgL_fit (G := G) rows (told ++ [x])
      rw [List.length_append, List.length_singleton] at ih
      have conv : ∀ d ∈ asgL rows (told ++ [x]), fitG G told.length (row :: rows).length d = (G told.length x && fitG G (told.length + 1) rows.length d) := fun d hd => by
        obtain ⟨z, rfl, _⟩ := asgL_mem.mp hd
        unfold fitG
        rw [List.length_cons, List.range'_succ, List.all_cons]
        have : (told ++ [x] ++ z).getD told.length 0 = x := by
          rw [List.getD_eq_getElem?_getD, List.append_assoc, List.getElem?_append_right (Nat.le_refl _), Nat.sub_self]; rfl
        rw [this]
      rw [List.filter_congr conv]
      by_cases c : G told.length x = true
      · rw [if_pos c, ← ih]
        congr 2
        funext d
        rw [c, Bool.true_and]
      · rw [if_neg c]
        have c : G told.length x = false := Bool.eq_false_iff.mpr c
        have : (fun d => G told.length x && fitG G (told.length + 1) rows.length d) = fun _ => false := by
          funext d; rw [c, Bool.false_and]
        rw [this]
        simp
    rw [sum_filt (Q := fun x => G told.length x) (fun x _ h => by rw [step, if_neg (by rw [h]; decide)])]
    congr 1
    refine List.map_congr_left fun x hx => ?_
    have := (Bool.and_eq_true_iff.mp (List.mem_filter.mp hx).2).2
    rw [step, if_pos this]
/-! ### lots -/
abbrev pr (q : Nat × Nat) : List Int := [(q.1 : Int), (q.2 : Int)]
def grid (n : Nat) : List (Nat × Nat) := (List.range n).flatMap fun p => (List.range n).map fun t => (p, t)
def lset (n : Nat) (lot : List (Nat × Nat)) : List (Nat × Nat) := (grid n).filter fun q => decide (q ∈ lot)
def lexn (a b : Nat × Nat) : Prop := a.1 < b.1 ∨ a.1 = b.1 ∧ a.2 < b.2
theorem grid_lex (n : Nat) : (grid n).Pairwise lexn := by
  unfold grid
  rw [List.pairwise_flatMap]
  refine ⟨fun p _ => List.pairwise_map.mpr (List.pairwise_lt_range.imp fun h => .inr ⟨rfl, h⟩), List.pairwise_lt_range.imp fun h x hx y hy => ?_⟩
  obtain ⟨t, _, rfl⟩ := List.mem_map.mp hx
  obtain ⟨u, _, rfl⟩ := List.mem_map.mp hy
  exact .inl h
theorem grid_mem {n : Nat} {q : Nat × Nat} : q ∈ grid n ↔ q.1 < n ∧ q.2 < n := by
  unfold grid
  rw [List.mem_flatMap]
  constructor
  · rintro ⟨p, hp, h⟩
    obtain ⟨t, ht, rfl⟩ := List.mem_map.mp h
    exact ⟨List.mem_range.mp hp, List.mem_range.mp ht⟩
  · rintro ⟨h1, h2⟩
    exact ⟨q.1, List.mem_range.mpr h1, List.mem_map.mpr ⟨q.2, List.mem_range.mpr h2, rfl⟩⟩
abbrev Lot (n : Nat) (lot : List (Nat × Nat)) : Prop := ∀ q ∈ lot, q.1 < n ∧ q.2 < n
theorem lset_mem {n : Nat} {lot : List (Nat × Nat)} (hb : Lot n lot) {q : Nat × Nat} : q ∈ lset n lot ↔ q ∈ lot := by
  unfold lset
  rw [List.mem_filter, grid_mem, decide_eq_true_iff]
  exact ⟨fun h => h.2, fun h => ⟨hb q h, h⟩⟩
theorem lset_lex {n : Nat} {lot : List (Nat × Nat)} : (lset n lot).Pairwise lexn := (grid_lex n).filter _
theorem map_inj {α β : Type} {f : α → β} : ∀ {l : List α}, (l.map f).Nodup → ∀ {a b : α}, a ∈ l → b ∈ l → f a = f b → a = b
  | [], _, _, _, h, _, _ => absurd h (by simp)
  | x :: l, h, a, b, ha, hb, e => by
    rw [List.map_cons, List.nodup_cons] at h
    rcases List.mem_cons.mp ha with ha | ha <;> rcases List.mem_cons.mp hb with hb | hb
    · rw [ha, hb]
    · exact absurd (List.mem_map.mpr ⟨b, hb, by rw [← e, ha]⟩) h.1
    · exact absurd (List.mem_map.mpr ⟨a, ha, by rw [e, hb]⟩) h.1
    · exact map_inj h.2 ha hb e
/-- what a lot allows -/
def lotG (us : List (Nat × Nat)) (p : Nat) (x : Int) : Bool := us.all fun q => decide (q.1 ≠ p) || decide ((q.2 : Int) = x)
theorem lotG_t {us : List (Nat × Nat)} {p : Nat} {x : Int} : lotG us p x = true ↔ ∀ q ∈ us, q.1 = p → (q.2 : Int) = x := by
  unfold lotG
  rw [List.all_eq_true]
  refine forall_congr' fun q => forall_congr' fun _ => ?_
  rw [Bool.or_eq_true, decide_eq_true_iff, decide_eq_true_iff]
  constructor
  · intro h e; exact h.resolve_left (fun z => z e)
  · intro h
    by_cases c : q.1 = p
    · exact .inr (h c)
    · exact .inl c
theorem cntG_zero {us : List (Nat × Nat)} : ∀ {rows : List (List Int)} {i : Nat} {told : List Int}, (∃ q ∈ us, i ≤ q.1 ∧ q.1 < i + rows.length ∧ (q.2 : Int) ∈ told) → cntG (lotG us) rows i told = 0
  | [], i, told, ⟨q, _, h1, h2, _⟩ => by rw [List.length_nil] at h2; omega
  | row :: rows, i, told, ⟨q, hq, h1, h2, h3⟩ => by
    unfold cntG
    refine sum_zero fun x hx => ?_
    obtain ⟨hx1, hx2⟩ := List.mem_filter.mp hx
    obtain ⟨hx2, hx3⟩ := Bool.and_eq_true_iff.mp hx2
    by_cases c : q.1 = i
    · have := lotG_t.mp hx3 q hq c
      subst this
      exact absurd h3 (of_decide_eq_true hx2)
    · refine cntG_zero ⟨q, hq, by omega, by rw [List.length_cons] at h2; omega, List.mem_append_left _ h3⟩
theorem filter_one {α : Type} {P : α → Bool} {a : α} : ∀ {l : List α}, l.Nodup → a ∈ l → P a = true → (∀ x ∈ l, P x = true → x = a) → l.filter P = [a]
  | [], _, h, _, _ => absurd h (by simp)
  | x :: l, hn, h, hp, hu => by
    obtain ⟨n1, n2⟩ := List.nodup_cons.mp hn
    rw [List.filter_cons]
    rcases List.mem_cons.mp h with rfl | h
    · rw [if_pos hp]
      have : l.filter P = [] := List.filter_eq_nil_iff.mpr fun y hy hpy => n1 (hu y (List.mem_cons_of_mem _ hy) hpy ▸ hy)
      rw [this]
    · rw [if_neg fun z => n1 (hu x List.mem_cons_self z ▸ h)]
      exact filter_one n2 h hp fun y hy => hu y (List.mem_cons_of_mem _ hy)
theorem cntG_ways {rs : List (List Int)} {us : List (Nat × Nat)} (hr : Rows rs) (h1 : (us.map (·.1)).Nodup) (h2 : (us.map (·.2)).Nodup) (h3 : ∀ q ∈ us, (q.2 : Int) ∈ rs.getD q.1 [] ∧ q.1 < rs.length) :
    ∀ (k i : Nat) (told : List Int) (ts : List Nat), i + k = rs.length → Asc ts → (∀ t : Nat, t ∈ ts ↔ t < rs.length ∧ (t : Int) ∉ told ∧ ∀ q ∈ us, i ≤ q.1 → q.2 ≠ t) → (∀ q ∈ us, i ≤ q.1 → (q.2 : Int) ∉ told) →
    cntG (lotG us) (rs.drop i) i told = ways rs ((List.range' i k).filter fun p => decide (∀ q ∈ us, q.1 ≠ p)) ts
  | 0, i, told, ts, hk, _, _, _ => by
    rw [List.drop_eq_nil_of_le (by omega)]; rfl
  | k + 1, i, told, ts, hk, ha, hm, ht => by
    have hi : i < rs.length := by omega
    have hrow := hr.get hi
    have hd : rs.drop i = rs.getD i [] :: rs.drop (i + 1) := by
      rw [List.drop_eq_getElem_cons hi, List.getD_eq_getElem?_getD, List.getElem?_eq_getElem hi]; rfl
    rw [hd, List.range'_succ, List.filter_cons]
    unfold cntG
    by_cases c : ∀ q ∈ us, q.1 ≠ i
    · rw [if_pos (decide_eq_true c)]
      unfold ways
      have hfree : ∀ x, lotG us i x = true := fun x => lotG_t.mpr fun q hq e => absurd e (c q hq)
      rw [sum_filt (Q := fun x => decide (x.toNat ∈ ts) || decide (x ∉ rs.getD i [])) (fun x hx hq => by
        obtain ⟨hx, _⟩ := Bool.and_eq_true_iff.mp hx
        have hx := of_decide_eq_true hx
        rw [Bool.or_eq_false_iff] at hq
        have q1 := of_decide_eq_false hq.1
        have q2 : x ∈ rs.getD i [] := Decidable.of_not_not (of_decide_eq_false hq.2)
        have hb := hrow.bd x q2
        refine cntG_zero ?_
        rw [hm] at q1
        have hxx : ((x.toNat : Nat) : Int) = x := by omega
        rw [hxx] at q1
        apply Classical.byContradiction
        intro hc
        refine q1 ⟨by omega, hx, fun q hq hi2 e => hc ⟨q, hq, ?_, ?_, ?_⟩⟩
        · have := c q hq; omega
        · have := (h3 q hq).2; rw [List.length_drop]; omega
        · rw [e, hxx]; exact List.mem_append_right _ (List.mem_singleton.mpr rfl))]
      have ef : ((rs.getD i []).filter fun x => (decide (x ∉ told) && lotG us i x) && (decide (x.toNat ∈ ts) || decide (x ∉ rs.getD i []))) = (rs.getD i []).filter fun x => decide (x.toNat ∈ ts) := by
        refine List.filter_congr fun x hx => ?_
        have hb := hrow.bd x hx
        have hxx : ((x.toNat : Nat) : Int) = x := by omega
        rw [hfree, Bool.and_true, decide_eq_false (p := x ∉ rs.getD i []) (fun z => z hx), Bool.or_false]
        by_cases c2 : x.toNat ∈ ts
        · have := ((hm _).mp c2).2.1
          rw [hxx] at this
          rw [decide_eq_true this, Bool.true_and]
        · rw [decide_eq_false c2, Bool.and_false]
      rw [ef]
      congr 1
      refine List.map_congr_left fun x hx => ?_
      obtain ⟨hx1, hx2⟩ := List.mem_filter.mp hx
      have hx2 := of_decide_eq_true hx2
      have hb := hrow.bd x hx1
      have hxx : ((x.toNat : Nat) : Int) = x := by omega
      refine cntG_ways hr h1 h2 h3 k (i + 1) (told ++ [x]) (ts.erase x.toNat) (by omega) (asc_erase ha) (fun t => ?_) fun q hq hi2 hmem => ?_
      · rw [(asc_nodup ha).mem_erase_iff, hm, List.mem_append, List.mem_singleton]
        constructor
        · rintro ⟨a, b, d, e⟩
          exact ⟨b, fun z => z.elim d (fun z => a (by omega)), fun q hq hi2 => e q hq (by omega)⟩
        · rintro ⟨b, d, e⟩
          refine ⟨fun z => d (.inr (by omega)), b, fun z => d (.inl z), fun q hq hi2 => e q hq ?_⟩
          have := c q hq; omega
      · rcases List.mem_append.mp hmem with z | z
        · exact ht q hq (by omega) z
        · have z := List.mem_singleton.mp z
          have := ((hm _).mp hx2).2.2 q hq (by omega)
          omega
    · rw [if_neg fun z => c (of_decide_eq_true z)]
      have c : ∃ q ∈ us, q.1 = i := by
        apply Classical.byContradiction
        intro hc
        exact c fun q hq e => hc ⟨q, hq, e⟩
      obtain ⟨q, hq, hqi⟩ := c
      have uq : ∀ q' ∈ us, q'.1 = i → q' = q := fun q' hq' e => map_inj h1 hq' hq (by rw [e, hqi])
      have ef : ((rs.getD i []).filter fun x => decide (x ∉ told) && lotG us i x) = [(q.2 : Int)] := by
        refine filter_one hrow.nodup (hqi ▸ (h3 q hq).1) ?_ fun x hx hp => ?_
        · rw [Bool.and_eq_true, decide_eq_true_iff]
          exact ⟨ht q hq (by omega), lotG_t.mpr fun q' hq' e => by rw [uq q' hq' e]⟩
        · exact (lotG_t.mp (Bool.and_eq_true_iff.mp hp).2 q hq hqi).symm
      rw [ef]
      show cntG (lotG us) (rs.drop (i + 1)) (i + 1) (told ++ [(q.2 : Int)]) + 0 = _
      rw [Nat.add_zero]
      refine cntG_ways hr h1 h2 h3 k (i + 1) (told ++ [(q.2 : Int)]) ts (by omega) ha (fun t => ?_) fun q' hq' hi2 hmem => ?_
      · rw [hm, List.mem_append, List.mem_singleton]
        constructor
        · rintro ⟨b, d, e⟩
          exact ⟨b, fun z => z.elim d (fun z => e q hq (by omega) (by omega)), fun q' hq' hi2 => e q' hq' (by omega)⟩
        · rintro ⟨b, d, e⟩
          refine ⟨b, fun z => d (.inl z), fun q' hq' hi2 e2 => ?_⟩
          by_cases c3 : q'.1 = i
          · rw [uq q' hq' c3] at e2; exact d (.inr (by omega))
          · exact e q' hq' (by omega) e2
      · rcases List.mem_append.mp hmem with z | z
        · exact ht q' hq' (by omega) z
        · have z := List.mem_singleton.mp z
          have := map_inj h2 hq' hq (by omega : q'.2 = q.2)
          rw [this] at hi2; omega
def Good (rs : List (List Int)) (us : List (Nat × Nat)) : Prop := (us.map (·.1)).Nodup ∧ (us.map (·.2)).Nodup ∧ ∀ q ∈ us, (q.2 : Int) ∈ rs.getD q.1 []
/-- the dealings that have all of a lot -/
def lotN (rs : List (List Int)) (lot : List (Nat × Nat)) : Nat := ((dls rs).filter fun d => lot.all fun q => d.getD q.1 0 == (q.2 : Int)).length
theorem comp_perm {n : Nat} {s : List Nat} (h : s.Nodup) (hb : ∀ i ∈ s, i < n) : (List.range n).Perm (s ++ (List.range n).filter fun i => decide (i ∉ s)) := by
  refine (List.perm_ext_iff_of_nodup List.nodup_range (List.nodup_append.mpr ⟨h, List.nodup_range.sublist List.filter_sublist, fun a ha b hb e => ?_⟩)).mpr fun i => ?_
  · subst e
    exact of_decide_eq_true (List.mem_filter.mp hb).2 ha
  · rw [List.mem_append, List.mem_filter, List.mem_range, decide_eq_true_iff]
    by_cases c : i ∈ s
    · exact ⟨fun _ => .inl c, fun _ => hb i c⟩
    · exact ⟨fun z => .inr ⟨z, c⟩, fun z => z.elim (fun z => absurd z c) (·.1)⟩
theorem comp_len {n : Nat} {s : List Nat} (h : s.Nodup) (hb : ∀ i ∈ s, i < n) : s.length + ((List.range n).filter fun i => decide (i ∉ s)).length = n := by
  have := (comp_perm h hb).length_eq
  rw [List.length_range, List.length_append] at this
  exact this.symm
theorem lot_good {rs : List (List Int)} {lot : List (Nat × Nat)} (hr : Rows rs) (hb : Lot rs.length lot) (h : Good rs (lset rs.length lot)) :
    lotN rs lot = ways rs ((List.range rs.length).filter fun i => decide (i ∉ (lset rs.length lot).map (·.1))) ((List.range rs.length).filter fun i => decide (i ∉ (lset rs.length lot).map (·.2))) := by
  obtain ⟨h1, h2, h3⟩ := h
  have e := asgL_fit (G := lotG (lset rs.length lot)) rs []
  rw [← dls_eq] at e
  have e1 : lotN rs lot = ((dls rs).filter (fitG (lotG (lset rs.length lot)) 0 rs.length)).length := by
    unfold lotN
    congr 1
    refine List.filter_congr fun d hd => ?_
    rw [Bool.eq_iff_iff, List.all_eq_true]
    unfold fitG
    rw [List.all_eq_true]
    constructor
    · intro hh p hp
      exact lotG_t.mpr fun q hq e => by
        have := beq_iff_eq.mp (hh q ((lset_mem hb).mp hq))
        rw [← e, this]
    · intro hh q hq
      have := hh q.1 (List.mem_range'_1.mpr (by have := hb q hq; omega))
      exact beq_iff_eq.mpr (lotG_t.mp this q ((lset_mem hb).mpr hq) rfl).symm
  have hlt : ∀ q ∈ lset rs.length lot, q.1 < rs.length := fun q hq => (hb q ((lset_mem hb).mp hq)).1
  rw [e1]
  rw [List.length_nil] at e
  rw [e]
  have := cntG_ways hr h1 h2 (fun q hq => ⟨h3 q hq, hlt q hq⟩) rs.length 0 [] ((List.range rs.length).filter fun i => decide (i ∉ (lset rs.length lot).map (·.2))) (by omega) (List.pairwise_lt_range.filter _) (fun t => by
    rw [List.mem_filter, List.mem_range, decide_eq_true_iff, List.mem_map]
    constructor
    · rintro ⟨a, b⟩; exact ⟨a, by simp, fun q hq _ e => b ⟨q, hq, e⟩⟩
    · rintro ⟨a, _, b⟩; exact ⟨a, fun ⟨q, hq, e⟩ => b q hq (Nat.zero_le _) e⟩) (fun q hq _ => by simp)
  rw [List.drop_zero] at this
  rw [this, ← List.range_eq_range']
  congr 1
  refine List.filter_congr fun p _ => ?_
  rw [decide_eq_decide, List.mem_map]
  exact ⟨fun h ⟨q, hq, e⟩ => h q hq e, fun h q hq e => h ⟨q, hq, e⟩⟩
end DL

namespace DL
open PySem PySem.Spec PyProof.Rows L2
section
variable {env e : Env} {fk fv fa fb : M D} {fo : M Od} {fx : P Fd} {pb : P D}
theorem mddk_k : mddk fk fv env = mbk (fk env) fun k => mb fv fun v => mo ((toK k).map fun q => .fd (.dik [(q, v)])) := mb_k
theorem mclx_k {p : Fn} {n : Nat} {fa : M (List D)} : mclx fo p n fa env = mbk (fo env) fun o => mb fa fun ds => (if ds.length + 1 = n then mo ((p (some o :: vals ds)).map (·.1)) else mo none) := mb_k
theorem isBD_s {neg a b : Bool} : isBD neg (.bl a) (.bl b) = some (.bl (if neg = true then !(a == b) else a == b)) := rfl
theorem thaw_l {ds : List D} : thaw (.lst ds) = some (.lst ds) := rfl
theorem thaw_v {d : D} : thaw (.val d) = some d := rfl
theorem onlyB_s {b : Bool} : onlyB (.bl b) = some (.bl b) := rfl
theorem pcL_s {g : D → D → Option D} : pcL g fx pb env = (fx env).bind fun x => (pb env).bind fun b => (thaw x).bind fun a => (g a b).bind onlyB := rfl
theorem pisL_s {T : String} {tab : Nat → Option Bool} : pisL T tab fx env = (fx env).bind fun x => (thaw x).bind fun a => isiB T tab a := rfl
def mixSx (i : Nat) (o : Option (D × Env)) (x : Option (Option Od)) : Option (D × Env) := x.join.bind fun _ => mbk o (fun b => pu fun env => (px i env).bind fun x => ixF x b)
theorem mixS_k {i : Nat} : mixS i fb env = mixSx i (fb env) env[i]? := by
  unfold mixS mixSx
  cases (env[i]?).join with
  | none => rfl
  | some _ =>
    rw [Option.bind_some, Option.bind_some]
    exact mb_k
theorem mixSx_s {i : Nat} {o : Option (D × Env)} {y : Od} : mixSx i o (some (some y)) = mbk o (fun b => pu fun env => (px i env).bind fun x => ixF x b) := rfl
end
/-! ### dicts from numbers to numbers -/
abbrev fup (f : Nat → Option Nat) (k v : Nat) : Nat → Option Nat := fun j => if j = k then some v else f j
structure Dm (n : Nat) (ks : List (L2.Key × D)) (f : Nat → Option Nat) : Prop where
  get : ∀ k : Nat, dget ks (.inl (k : Int)) = (f k).map fun v => D.int (v : Nat)
  nd : (ks.map (·.1)).Nodup
  bd : ∀ k ∈ ks.map (·.1), ∃ a : Nat, k = .inl (a : Int) ∧ a < n
theorem Dm.nil {n : Nat} : Dm n [] fun _ => none := ⟨fun _ => rfl, List.nodup_nil, fun k h => absurd h (by simp)⟩
theorem nodup_bound {n : Nat} {l : List Nat} (h : l.Nodup) (hb : ∀ x ∈ l, x < n) : l.length ≤ n := by
  have e : l.Perm ((List.range n).filter fun i => decide (i ∈ l)) := (List.perm_ext_iff_of_nodup h (List.nodup_range.sublist List.filter_sublist)).mpr fun i => by
    rw [List.mem_filter, List.mem_range, decide_eq_true_iff]
    exact ⟨fun z => ⟨hb i z, z⟩, fun z => z.2⟩
  rw [e.length_eq]
  have := List.length_filter_le (fun i => decide (i ∈ l)) (List.range n)
  rwa [List.length_range] at this
def keyN : L2.Key → Nat
  | .inl i => i.toNat
  | .inr _ => 0
theorem Dm.len {n : Nat} {ks : List (L2.Key × D)} {f : Nat → Option Nat} (h : Dm n ks f) : ks.length ≤ n := by
  have h1 : ((ks.map (·.1)).map keyN).Nodup := List.pairwise_map.mpr (List.Pairwise.imp_of_mem (fun {a b} ha hb hab e => hab (by
    obtain ⟨i, rfl, _⟩ := h.bd a ha
    obtain ⟨j, rfl, _⟩ := h.bd b hb
    have e : ((i : Int)).toNat = ((j : Int)).toNat := e
    rw [Int.toNat_natCast, Int.toNat_natCast] at e
    rw [e])) h.nd)
  have h2 := nodup_bound (n := n) h1 (fun x hx => by
    obtain ⟨k, hk, rfl⟩ := List.mem_map.mp hx
    obtain ⟨i, rfl, hi⟩ := h.bd k hk
    show ((i : Int)).toNat < n
    rw [Int.toNat_natCast]; exact hi)
  rwa [List.length_map, List.length_map] at h2
theorem Dm.put {n k v : Nat} {ks : List (L2.Key × D)} {f : Nat → Option Nat} (h : Dm n ks f) (hk : k < n) : Dm n (dput ks (.inl (k : Int)) (.int (v : Nat))) (fup f k v) := by
  refine ⟨fun j => ?_, ?_, ?_⟩
  · rw [dget_put]
    show _ = (if j = k then some v else f j).map _
    by_cases c : j = k
    · subst c; rw [if_pos rfl, if_pos rfl]; rfl
    · rw [if_neg c, if_neg (fun e => c (by have := Sum.inl.inj e; omega)), h.get]
  · cases q : dget ks (.inl (k : Int)) with
    | some d => rw [dput_keys q]; exact h.nd
    | none =>
      rw [dput_new q, List.map_append]
      exact List.nodup_append.mpr ⟨h.nd, by simp, fun a ha b hb e => by
        rw [List.map_cons, List.map_nil, List.mem_singleton] at hb
        subst hb; subst e
        exact dget_none q ha⟩
  · intro a ha
    cases q : dget ks (.inl (k : Int)) with
    | some d => rw [dput_keys q] at ha; exact h.bd a ha
    | none =>
      rw [dput_new q, List.map_append] at ha
      rcases List.mem_append.mp ha with ha | ha
      · exact h.bd a ha
      · rw [List.map_cons, List.map_nil, List.mem_singleton] at ha
        exact ⟨k, ha, hk⟩
/-! ### a matching under way -/
/-- of and owner are the inverse of each other, and made of ties -/
structure Mat (rs : List (List Int)) (f g : Nat → Option Nat) : Prop where
  inv : ∀ p t, f p = some t ↔ g t = some p
  tie : ∀ p t, f p = some t → p < rs.length ∧ t < rs.length ∧ (t : Int) ∈ rs.getD p []
/-- where the things came from: c maps them to people, r ranks them -/
structure Came (rs : List (List Int)) (q0 m : Nat) (c : Nat → Option Nat) (r : Nat → Nat) (g : Nat → Option Nat) : Prop where
  tie : ∀ t p, c t = some p → t < rs.length ∧ p < rs.length ∧ (t : Int) ∈ rs.getD p [] ∧ r t < m
  fro : ∀ t p, c t = some p → p = q0 ∨ ∃ t', r t' < r t ∧ (c t').isSome ∧ g t' = some p
/-- people who are closed together: all that they may get is theirs -/
def Shut (rs : List (List Int)) (S T : Nat → Prop) (g : Nat → Option Nat) : Prop :=
  (∀ s (t : Nat), S s → (t : Int) ∈ rs.getD s [] → T t) ∧ ∀ t, T t → ∃ q, g t = some q ∧ S q
/-- handing on, under way -/
structure Hand (rs : List (List Int)) (q0 : Nat) (c : Nat → Option Nat) (r : Nat → Nat) (f0 g0 f g : Nat → Option Nat) (t h : Nat) : Prop where
  came : c t = some h
  inv : ∀ p u, u ≠ t → (f p = some u ↔ g u = some p)
  off : ∀ p, f p ≠ some t
  tie : ∀ p u, f p = some u → p < rs.length ∧ u < rs.length ∧ (u : Int) ∈ rs.getD p []
  q : f q0 = none
  dom : ∀ p, (f p).isSome = (f0 p).isSome
  low : ∀ u, r u < r t → g u = g0 u
  mono : ∀ u, (g0 u).isSome = true → (g u).isSome = true
  shut : ∀ S T, Shut rs S T g0 → ¬ T t ∧ ∀ u, T u → g u = g0 u
theorem Hand.next {rs : List (List Int)} {q0 m t h : Nat} {c : Nat → Option Nat} {r : Nat → Nat} {f0 g0 f g : Nat → Option Nat} (C : Came rs q0 m c r g0) (H : Hand rs q0 c r f0 g0 f g t h) (hh : h ≠ q0) :
    ∃ t' h', f h = some t' ∧ c t' = some h' ∧ r t' < r t ∧ Hand rs q0 c r f0 g0 (fup f h t) (fup g t h) t' h' := by
  rcases C.fro t h H.came with e | ⟨t', hr, hc, hg⟩
  · exact absurd e hh
  have hne : t' ≠ t := fun e => by rw [e] at hr; omega
  have hg' : g t' = some h := by rw [H.low t' hr]; exact hg
  have hf : f h = some t' := (H.inv h t' hne).mpr hg'
  obtain ⟨h', hc'⟩ := Option.isSome_iff_exists.mp hc
  refine ⟨t', h', hf, hc', hr, ⟨hc', fun p u hu => ?_, fun p e => ?_, fun p u e => ?_, ?_, fun p => ?_, fun u hu => ?_, fun u hu => ?_, fun S T s => ?_⟩⟩
  · show (if p = h then some t else f p) = some u ↔ (if u = t then some h else g u) = some p
    by_cases c1 : u = t
    · subst c1
      rw [if_pos rfl]
      by_cases c2 : p = h
      · subst c2; rw [if_pos rfl]; exact ⟨fun _ => rfl, fun _ => rfl⟩
      · rw [if_neg c2]
        exact ⟨fun e => absurd e (H.off p), fun e => absurd (Option.some.inj e).symm c2⟩
    · rw [if_neg c1]
      by_cases c2 : p = h
      · subst c2
        rw [if_pos rfl]
        refine ⟨fun e => absurd (Option.some.inj e).symm c1, fun e => ?_⟩
        have := (H.inv p u c1).mpr e
        rw [hf] at this
        exact absurd (Option.some.inj this).symm hu
      · rw [if_neg c2]; exact H.inv p u c1
  · have e : (if p = h then some t else f p) = some t' := e
    by_cases c2 : p = h
    · rw [if_pos c2] at e
      exact hne (Option.some.inj e).symm
    · rw [if_neg c2] at e
      have := (H.inv p t' hne).mp e
      rw [hg'] at this
      exact c2 (Option.some.inj this).symm
  · have e : (if p = h then some t else f p) = some u := e
    by_cases c2 : p = h
    · subst c2
      rw [if_pos rfl] at e
      cases e
      have := C.tie t p H.came
      exact ⟨this.2.1, this.1, this.2.2.1⟩
    · rw [if_neg c2] at e; exact H.tie p u e
  · show (if q0 = h then some t else f q0) = none
    rw [if_neg fun e => hh e.symm]; exact H.q
  · show (if p = h then some t else f p).isSome = _
    by_cases c2 : p = h
    · subst c2; rw [if_pos rfl, ← H.dom p, hf]; rfl
    · rw [if_neg c2]; exact H.dom p
  · show (if u = t then some h else g u) = g0 u
    rw [if_neg fun e => by rw [e] at hu; omega]; exact H.low u (by omega)
  · show (if u = t then some h else g u).isSome = true
    by_cases c1 : u = t
    · rw [if_pos c1]; rfl
    · rw [if_neg c1]; exact H.mono u hu
  · obtain ⟨s1, s2⟩ := H.shut S T s
    refine ⟨fun z => ?_, fun u hu => ?_⟩
    · obtain ⟨q, e, hS⟩ := s.2 t' z
      rw [hg] at e
      cases e
      exact s1 (s.1 _ t hS (C.tie t _ H.came).2.2.1)
    · show (if u = t then some h else g u) = g0 u
      rw [if_neg fun (e : u = t) => s1 (e ▸ hu)]; exact s2 u hu
theorem Hand.done {rs : List (List Int)} {q0 m t : Nat} {c : Nat → Option Nat} {r : Nat → Nat} {f0 g0 f g : Nat → Option Nat} (C : Came rs q0 m c r g0) (H : Hand rs q0 c r f0 g0 f g t q0) :
    Mat rs (fup f q0 t) (fup g t q0) ∧ (∀ p, (fup f q0 t p).isSome = ((f0 p).isSome || decide (p = q0))) ∧ (∀ u, (g0 u).isSome = true → (fup g t q0 u).isSome = true) ∧ ∀ S T, Shut rs S T g0 → ∀ u, T u → fup g t q0 u = g0 u := by
  refine ⟨⟨fun p u => ?_, fun p u e => ?_⟩, fun p => ?_, fun u hu => ?_, fun S T s u hu => ?_⟩
  · show (if p = q0 then some t else f p) = some u ↔ (if u = t then some q0 else g u) = some p
    by_cases c1 : u = t
    · subst c1
      rw [if_pos rfl]
      by_cases c2 : p = q0
      · subst c2; rw [if_pos rfl]; exact ⟨fun _ => rfl, fun _ => rfl⟩
      · rw [if_neg c2]
        exact ⟨fun e => absurd e (H.off p), fun e => absurd (Option.some.inj e).symm c2⟩
    · rw [if_neg c1]
      by_cases c2 : p = q0
      · subst c2
        rw [if_pos rfl]
        refine ⟨fun e => absurd (Option.some.inj e).symm c1, fun e => ?_⟩
        have := (H.inv p u c1).mpr e
        rw [H.q] at this; cases this
      · rw [if_neg c2]; exact H.inv p u c1
  · have e : (if p = q0 then some t else f p) = some u := e
    by_cases c2 : p = q0
    · subst c2
      rw [if_pos rfl] at e
      cases e
      have := C.tie t p H.came
      exact ⟨this.2.1, this.1, this.2.2.1⟩
    · rw [if_neg c2] at e; exact H.tie p u e
  · show (if p = q0 then some t else f p).isSome = _
    by_cases c2 : p = q0
    · rw [if_pos c2, decide_eq_true c2, Bool.or_true]; rfl
    · rw [if_neg c2, decide_eq_false c2, Bool.or_false]; exact H.dom p
  · show (if u = t then some q0 else g u).isSome = true
    by_cases c1 : u = t
    · rw [if_pos c1]; rfl
    · rw [if_neg c1]; exact H.mono u hu
  · obtain ⟨s1, s2⟩ := H.shut S T s
    show (if u = t then some q0 else g u) = g0 u
    rw [if_neg fun (e : u = t) => s1 (e ▸ hu)]; exact s2 u hu
/-- who can be reached -/
abbrev Got (q0 : Nat) (c g : Nat → Option Nat) (x : Nat) : Prop := x = q0 ∨ ∃ t, (c t).isSome ∧ g t = some x
theorem Got.up {q0 t h x : Nat} {c g : Nat → Option Nat} (hn : c t = none) (z : Got q0 c g x) : Got q0 (fup c t h) g x := by
  rcases z with z | ⟨t', z, e⟩
  · exact .inl z
  · refine .inr ⟨t', ?_, e⟩
    show (if t' = t then some h else c t').isSome = true
    rw [if_neg fun e => by rw [e, hn] at z; cases z]; exact z
/-- a person who cannot be seated -/
def Stuck (rs : List (List Int)) (g : Nat → Option Nat) (q0 : Nat) : Prop := ∃ S T : Nat → Prop, Shut rs S T g ∧ S q0 ∧ (∀ s, S s → s < rs.length ∧ (s = q0 ∨ ∃ t, T t ∧ g t = some s))
theorem Stuck.keep {rs : List (List Int)} {g g' : Nat → Option Nat} {q0 : Nat} (h : Stuck rs g q0) (hk : ∀ S T, Shut rs S T g → ∀ u, T u → g' u = g u) : Stuck rs g' q0 := by
  obtain ⟨S, T, h1, h2, h3⟩ := h
  have e := hk S T h1
  refine ⟨S, T, ⟨h1.1, fun t ht => ?_⟩, h2, fun s hs => ⟨(h3 s hs).1, ?_⟩⟩
  · rw [e t ht]; exact h1.2 t ht
  · rcases (h3 s hs).2 with z | ⟨t, ht, z⟩
    · exact .inl z
    · exact .inr ⟨t, ht, by rw [e t ht]; exact z⟩
theorem nodup_sub {l m : List Nat} (h : l.Nodup) (hm : m.Nodup) (hs : ∀ x ∈ l, x ∈ m) : l.length ≤ m.length := by
  have e : l.Perm (m.filter fun i => decide (i ∈ l)) := (List.perm_ext_iff_of_nodup h (hm.sublist List.filter_sublist)).mpr fun i => by
    rw [List.mem_filter, decide_eq_true_iff]
    exact ⟨fun z => ⟨hs i z, z⟩, fun z => z.2⟩
  rw [e.length_eq]
  exact List.length_filter_le _ _
open Classical in
theorem Stuck.none {rs : List (List Int)} {f g : Nat → Option Nat} {q0 : Nat} (M : Mat rs f g) (hr : Rows rs) (hf : f q0 = none) (h : Stuck rs g q0) : dls rs = [] := by
  obtain ⟨S, T, h1, h2, h3⟩ := h
  refine List.eq_nil_iff_forall_not_mem.mpr fun d hd => ?_
  obtain ⟨d1, d2, d3⟩ := dls_mem.mp hd
  have tb : ∀ t, T t → t < rs.length := fun t ht => by
    obtain ⟨q, e, _⟩ := h1.2 t ht
    exact (M.tie q t ((M.inv q t).mpr e)).2.1
  have n1 : ((List.range rs.length).filter fun i => decide (S i)).Nodup := List.nodup_range.sublist List.filter_sublist
  have n2 : ((List.range rs.length).filter fun i => decide (T i)).Nodup := List.nodup_range.sublist List.filter_sublist
  have m1 : ∀ i, i ∈ ((List.range rs.length).filter fun i => decide (S i)) ↔ S i := fun i => by
    rw [List.mem_filter, List.mem_range, decide_eq_true_iff]
    exact ⟨fun z => z.2, fun z => ⟨(h3 i z).1, z⟩⟩
  have m2 : ∀ i, i ∈ ((List.range rs.length).filter fun i => decide (T i)) ↔ T i := fun i => by
    rw [List.mem_filter, List.mem_range, decide_eq_true_iff]
    exact ⟨fun z => z.2, fun z => ⟨tb i z, z⟩⟩
  -- more people than things
  have k1 : ((List.range rs.length).filter fun i => decide (T i)).length + 1 ≤ ((List.range rs.length).filter fun i => decide (S i)).length := by
    have nd : (q0 :: ((List.range rs.length).filter fun i => decide (T i)).map fun t => (g t).getD 0).Nodup := by
      refine List.nodup_cons.mpr ⟨fun hm => ?_, List.pairwise_map.mpr (n2.imp_of_mem fun {a b} ha hb hab e => ?_)⟩
      · obtain ⟨t, ht, e⟩ := List.mem_map.mp hm
        obtain ⟨q, eq, _⟩ := h1.2 t ((m2 t).mp ht)
        rw [eq] at e
        have e : q = q0 := e
        subst e
        rw [(M.inv q t).mpr eq] at hf; cases hf
      · obtain ⟨q, eq, _⟩ := h1.2 a ((m2 a).mp ha)
        obtain ⟨q', eq', _⟩ := h1.2 b ((m2 b).mp hb)
        rw [eq, eq'] at e
        have e : q = q' := e
        subst e
        have x1 := (M.inv q a).mpr eq
        have x2 := (M.inv q b).mpr eq'
        rw [x1] at x2
        exact hab (Option.some.inj x2)
    have := nodup_sub nd n1 (fun x hx => (m1 x).mpr (by
      rcases List.mem_cons.mp hx with rfl | hx
      · exact h2
      · obtain ⟨t, ht, rfl⟩ := List.mem_map.mp hx
        obtain ⟨q, eq, hs⟩ := h1.2 t ((m2 t).mp ht)
        rw [eq]; exact hs))
    rwa [List.length_cons, List.length_map] at this
  have get : ∀ i, S i → d[i]? = some (d.getD i 0) ∧ d.getD i 0 ∈ rs.getD i [] ∧ 0 ≤ d.getD i 0 := fun i hi => by
    have hl := (h3 i hi).1
    have e : d[i]? = some (d.getD i 0) := by rw [List.getD_eq_getElem?_getD, List.getElem?_eq_getElem (by omega)]; rfl
    have hm := d3 i _ (rs.getD i []) e (by rw [List.getD_eq_getElem?_getD, List.getElem?_eq_getElem hl]; rfl)
    exact ⟨e, hm, ((hr.get hl).bd _ hm).1⟩
  have k2 : ((List.range rs.length).filter fun i => decide (S i)).length ≤ ((List.range rs.length).filter fun i => decide (T i)).length := by
    have nd : (((List.range rs.length).filter fun i => decide (S i)).map fun i => (d.getD i 0).toNat).Nodup := by
      refine List.pairwise_map.mpr (n1.imp_of_mem fun {a b} ha hb hab e => ?_)
      obtain ⟨a1, _, a3⟩ := get a ((m1 a).mp ha)
      obtain ⟨b1, _, b3⟩ := get b ((m1 b).mp hb)
      have e2 : d.getD a 0 = d.getD b 0 := by omega
      have hl := (h3 a ((m1 a).mp ha)).1
      refine hab ((List.getElem?_inj (by omega) d2).mp ?_)
      rw [a1, b1, e2]
    have := nodup_sub nd n2 (fun x hx => (m2 x).mpr (by
      obtain ⟨i, hi, rfl⟩ := List.mem_map.mp hx
      obtain ⟨_, i2, i3⟩ := get i ((m1 i).mp hi)
      refine h1.1 i _ ((m1 i).mp hi) ?_
      rw [Int.toNat_of_nonneg i3]; exact i2))
    rwa [List.length_map] at this
  omega
end DL


namespace DL
open PySem PySem.Spec PyProof.Rows L2
theorem dfold_len {rows : List (List Int)} {t : List Int} (h : t ∈ rows.foldl dstep [[]]) : t.length = rows.length := by
  rw [dls_fold] at h
  obtain ⟨a, ha, h⟩ := List.mem_flatMap.mp h
  rw [List.mem_singleton.mp ha] at h
  obtain ⟨e, rfl, h, _⟩ := asgL_mem.mp h
  exact h
/-! ### the list of all dealings, cut down to what can be gone on with -/
/-- the things that are left when some are told -/
abbrev rest (n : Nat) (told : List Int) : List Nat := (List.range n).filter fun t => decide ((t : Int) ∉ told)
/-- the number of ways to go on from some told -/
def goOn (rs : List (List Int)) (told : List Int) : Nat := ways rs (List.range' told.length (rs.length - told.length)) (rest rs.length told)
/-- one step of the list that is cut down -/
def cstep (rs : List (List Int)) (found : List (List Int)) (row : List Int) : List (List Int) := found.flatMap fun told => ((row.filter fun x => decide (x ∉ told)).map fun x => told ++ [x]).filter fun t => decide (0 < goOn rs t)
def cut (rs : List (List Int)) (i : Nat) : List (List Int) := (rs.take i).foldl (cstep rs) [[]]
def fct : Nat → Nat
  | 0 => 1
  | n + 1 => (n + 1) * fct n
end DL


namespace DL
open PySem PySem.Spec PyProof.Rows L2
end DL

namespace DL
open PySem PySem.Spec PyProof.Rows L2
/-! ### the least dealing, thing by thing -/
theorem asgL_cons {row : List Int} {rows : List (List Int)} {told : List Int} : asgL (row :: rows) told = (row.filter fun x => decide (x ∉ told)).flatMap fun x => asgL rows (told ++ [x]) := by
  conv => lhs; unfold asgL
end DL

namespace DL
open PySem PySem.Spec PyProof.Rows L2
/-! ### the dealings in their order, and where they stand -/
end DL

namespace DL
open PySem PySem.Spec PyProof.Rows L2
/-! ### how many ways there can be: the rows' lengths multiplied -/
def capA {α : Type} (a : Nat) : List (List α) → Nat
  | [] => a
  | r :: l => capA (a * r.length) l
theorem capA_snoc {α : Type} {r : List α} : ∀ {l : List (List α)} {a : Nat}, capA a (l ++ [r]) = capA a l * r.length
  | [], a => rfl
  | x :: l, a => by
    show capA (a * x.length) (l ++ [r]) = capA (a * x.length) l * r.length
    exact capA_snoc
theorem capA_pow {α : Type} {m : Nat} : ∀ {l : List (List α)} {a : Nat}, (∀ r ∈ l, r.length ≤ m) → capA a l ≤ a * m ^ l.length
  | [], a, _ => by simp [capA]
  | x :: l, a, h => by
    have h1 := capA_pow (m := m) (l := l) (a := a * x.length) fun r hr => h r (List.mem_cons_of_mem _ hr)
    have h2 := h x List.mem_cons_self
    show capA (a * x.length) l ≤ a * m ^ (l.length + 1)
    refine Nat.le_trans h1 ?_
    rw [Nat.pow_succ, Nat.mul_comm (m ^ l.length) m, ← Nat.mul_assoc]
    exact Nat.mul_le_mul_right _ (Nat.mul_le_mul_left _ h2)
theorem cap_rows {rs : List (List Int)} (hr : Rows rs) (hl : rs.length ≤ 6) (i : Nat) : capA 1 (rs.take i) ≤ 50000 := by
  have h := capA_pow (m := 6) (l := rs.take i) (a := 1) fun r hm => Nat.le_trans (hr.row r (List.mem_of_mem_take hm)).len hl
  have h2 : 6 ^ (rs.take i).length ≤ 6 ^ 6 := Nat.pow_le_pow_right (by decide) (by rw [List.length_take]; omega)
  have : 6 ^ 6 = 46656 := by decide
  omega
end DL

namespace DL
open PySem PySem.Spec PyProof.Rows L2
/-! ### standings -/
/-- what is drawn at i -/
abbrev dr (st : List (Option Int)) (i : Nat) (x : Int) : Prop := st[i]? = some (some x)
structure Std (rs : List (List Int)) (st : List (Option Int)) : Prop where
  len : st.length = rs.length
  tie : ∀ i x, dr st i x → x ∈ rs.getD i []
  nd : ∀ i j x, dr st i x → dr st j x → i = j
theorem dr_lt {st : List (Option Int)} {i : Nat} {x : Int} (h : dr st i x) : i < st.length := (List.getElem?_eq_some_iff.mp h).1
theorem dr_mem {st : List (Option Int)} {x : Int} : some x ∈ st ↔ ∃ i, dr st i x := by
  constructor
  · intro h
    obtain ⟨i, hi, e⟩ := List.getElem_of_mem h
    exact ⟨i, by rw [dr, List.getElem?_eq_getElem hi, e]⟩
  · rintro ⟨i, h⟩
    exact List.mem_of_getElem? h
theorem Std.bd {rs : List (List Int)} {st : List (Option Int)} (h : Std rs st) (hr : Rows rs) {i : Nat} {x : Int} (hd : dr st i x) : i < rs.length ∧ 0 ≤ x ∧ x < (rs.length : Int) := by
  have := dr_lt hd
  have hi : i < rs.length := by rw [← h.len]; exact this
  exact ⟨hi, (hr.get hi).bd x (h.tie i x hd)⟩
def fitB (st : List (Option Int)) (d : List Int) : Bool := (List.range st.length).all fun k => decide (st.getD k none ∈ [none, some (d.getD k 0)])
theorem fitB_iff {st : List (Option Int)} {d : List Int} : fitB st d = true ↔ ∀ i x, dr st i x → d.getD i 0 = x := by
  unfold fitB
  rw [List.all_eq_true]
  constructor
  · intro h i x hd
    have h1 := of_decide_eq_true (h i (List.mem_range.mpr (dr_lt hd)))
    have e : st.getD i none = some x := by rw [List.getD_eq_getElem?_getD, hd]; rfl
    rw [e] at h1
    simp at h1
    rw [List.getD_eq_getElem?_getD]
    exact h1.symm
  · intro h k hk
    have hk := List.mem_range.mp hk
    refine decide_eq_true ?_
    have e : st.getD k none = st[k] := by rw [List.getD_eq_getElem?_getD, List.getElem?_eq_getElem hk]; rfl
    rw [e]
    cases q : st[k] with
    | none => simp
    | some x =>
      have := h k x (by rw [dr, List.getElem?_eq_getElem hk, q])
      rw [this]
      simp
def aft (rs : List (List Int)) (st : List (Option Int)) : List (List Int) := (dls rs).filter (fitB st)
def lotOf (st : List (Option Int)) : List (Nat × Nat) := (st.zipIdx.filter fun p => p.1.isSome).map fun p => (p.2, (p.1.getD 0).toNat)
theorem lotOf_mem {st : List (Option Int)} {q : Nat × Nat} : q ∈ lotOf st ↔ ∃ x, dr st q.1 x ∧ q.2 = x.toNat := by
  unfold lotOf
  rw [List.mem_map]
  constructor
  · rintro ⟨⟨o, i⟩, h, rfl⟩
    obtain ⟨h1, h2⟩ := List.mem_filter.mp h
    have h1 := List.mem_zipIdx_iff_getElem?.mp h1
    cases o with
    | none => cases h2
    | some x => exact ⟨x, h1, rfl⟩
  · rintro ⟨x, h1, h2⟩
    refine ⟨(some x, q.1), List.mem_filter.mpr ⟨List.mem_zipIdx_iff_getElem?.mpr h1, rfl⟩, ?_⟩
    show (q.1, x.toNat) = q
    rw [← h2]
theorem Std.lot {rs : List (List Int)} {st : List (Option Int)} (h : Std rs st) (hr : Rows rs) : Lot rs.length (lotOf st) := fun q hq => by
  obtain ⟨x, h1, h2⟩ := lotOf_mem.mp hq
  have := h.bd hr h1
  omega
theorem Std.aft_lot {rs : List (List Int)} {st : List (Option Int)} (h : Std rs st) (hr : Rows rs) : (aft rs st).length = lotN rs (lotOf st) := by
  unfold aft lotN
  congr 1
  refine List.filter_congr fun d hd => ?_
  rw [Bool.eq_iff_iff, fitB_iff, List.all_eq_true]
  constructor
  · intro hf q hq
    obtain ⟨x, h1, h2⟩ := lotOf_mem.mp hq
    have := h.bd hr h1
    rw [hf q.1 x h1, beq_iff_eq]
    omega
  · intro hf i x hd
    have hb := h.bd hr hd
    have := beq_iff_eq.mp (hf (i, x.toNat) (lotOf_mem.mpr ⟨x, hd, rfl⟩))
    rw [this]
    show ((x.toNat : Nat) : Int) = x
    omega
theorem Std.good {rs : List (List Int)} {st : List (Option Int)} (h : Std rs st) (hr : Rows rs) : Good rs (lset rs.length (lotOf st)) := by
  have hm : ∀ q ∈ lset rs.length (lotOf st), ∃ x, dr st q.1 x ∧ (q.2 : Int) = x := fun q hq => by
    obtain ⟨x, h1, h2⟩ := lotOf_mem.mp ((lset_mem (h.lot hr)).mp hq)
    have := h.bd hr h1
    exact ⟨x, h1, by omega⟩
  refine ⟨?_, ?_, fun q hq => ?_⟩
  · refine List.pairwise_map.mpr (lset_lex.imp_of_mem fun {a b} ha hb hab e => ?_)
    obtain ⟨x, h1, h2⟩ := hm a ha
    obtain ⟨y, h3, h4⟩ := hm b hb
    rw [dr, e, h3] at h1
    have := Option.some.inj (Option.some.inj h1)
    unfold lexn at hab
    omega
  · refine List.pairwise_map.mpr (lset_lex.imp_of_mem fun {a b} ha hb hab e => ?_)
    obtain ⟨x, h1, h2⟩ := hm a ha
    obtain ⟨y, h3, h4⟩ := hm b hb
    have exy : y = x := by omega
    subst exy
    have := h.nd _ _ _ h1 h3
    unfold lexn at hab
    omega
  · obtain ⟨x, h1, h2⟩ := hm q hq
    rw [h2]
    exact h.tie _ _ h1
/-- who has not drawn, what was not drawn -/
def pl (st : List (Option Int)) : List Nat := (st.zipIdx.filter fun p => p.1.isNone).map (·.2)
def tl (st : List (Option Int)) : List Nat := (List.range st.length).filter fun t => decide (some ((t : Nat) : Int) ∉ st)
theorem pl_asc {st : List (Option Int)} : Asc (pl st) := by
  unfold pl
  refine List.pairwise_map.mpr (List.Pairwise.filter _ ?_)
  have : (st.zipIdx.map (·.2)).Pairwise (· < ·) := by
    rw [List.zipIdx_map_snd]
    exact List.pairwise_lt_range' ..
  exact List.pairwise_map.mp this
theorem pl_mem {st : List (Option Int)} {i : Nat} : i ∈ pl st ↔ st[i]? = some none := by
  unfold pl
  rw [List.mem_map]
  constructor
  · rintro ⟨⟨o, j⟩, h, rfl⟩
    obtain ⟨h1, h2⟩ := List.mem_filter.mp h
    have h1 := List.mem_zipIdx_iff_getElem?.mp h1
    cases o with
    | none => exact h1
    | some x => cases h2
  · intro h
    exact ⟨(none, i), List.mem_filter.mpr ⟨List.mem_zipIdx_iff_getElem?.mpr h, rfl⟩, rfl⟩
theorem Std.parts {rs : List (List Int)} {st : List (Option Int)} (h : Std rs st) (hr : Rows rs) :
    pl st = ((List.range rs.length).filter fun i => decide (i ∉ (lset rs.length (lotOf st)).map (·.1))) ∧ tl st = ((List.range rs.length).filter fun i => decide (i ∉ (lset rs.length (lotOf st)).map (·.2))) := by
  have hm : ∀ q, q ∈ lset rs.length (lotOf st) ↔ ∃ x, dr st q.1 x ∧ (q.2 : Int) = x := fun q => by
    rw [lset_mem (h.lot hr), lotOf_mem]
    constructor
    · rintro ⟨x, h1, h2⟩
      have := h.bd hr h1
      exact ⟨x, h1, by omega⟩
    · rintro ⟨x, h1, h2⟩
      exact ⟨x, h1, by omega⟩
  constructor
  · refine asc_ext_nat pl_asc (List.pairwise_lt_range.filter _) fun i => ?_
    rw [pl_mem, List.mem_filter, List.mem_range, decide_eq_true_iff, List.mem_map]
    constructor
    · intro hi
      refine ⟨by rw [← h.len]; exact (List.getElem?_eq_some_iff.mp hi).1, fun ⟨q, hq, e⟩ => ?_⟩
      obtain ⟨x, h1, _⟩ := (hm q).mp hq
      rw [dr, e, hi] at h1
      cases h1
    · rintro ⟨h1, h2⟩
      rw [← h.len] at h1
      rw [List.getElem?_eq_getElem h1]
      cases q : st[i] with
      | none => rfl
      | some x =>
        have hd : dr st i x := by rw [dr, List.getElem?_eq_getElem h1, q]
        have hb := h.bd hr hd
        exact absurd ⟨(i, x.toNat), (hm _).mpr ⟨x, hd, by show ((x.toNat : Nat) : Int) = x; omega⟩, rfl⟩ h2
  · unfold tl
    rw [h.len]
    refine List.filter_congr fun t _ => ?_
    rw [decide_eq_decide, List.mem_map, dr_mem]
    constructor
    · rintro h1 ⟨q, hq, e⟩
      obtain ⟨x, h3, h4⟩ := (hm q).mp hq
      exact h1 ⟨q.1, by rw [← e, h4]; exact h3⟩
    · rintro h1 ⟨i, hd⟩
      exact h1 ⟨(i, t), (hm _).mpr ⟨_, hd, rfl⟩, rfl⟩
theorem Std.ways {rs : List (List Int)} {st : List (Option Int)} (h : Std rs st) (hr : Rows rs) : ways rs (pl st) (tl st) = (aft rs st).length := by
  rw [h.aft_lot hr, lot_good hr (h.lot hr) (h.good hr), ← (h.parts hr).1, ← (h.parts hr).2]
theorem Std.same {rs : List (List Int)} {st : List (Option Int)} (h : Std rs st) (hr : Rows rs) : (pl st).length = (tl st).length := by
  have hg := h.good hr
  have hb : ∀ q ∈ lset rs.length (lotOf st), q.1 < rs.length ∧ q.2 < rs.length := fun q hq => h.lot hr q ((lset_mem (h.lot hr)).mp hq)
  have h1 := comp_len (n := rs.length) hg.1 fun i hi => by
    obtain ⟨q, hq, rfl⟩ := List.mem_map.mp hi
    exact (hb q hq).1
  have h2 := comp_len (n := rs.length) hg.2.1 fun i hi => by
    obtain ⟨q, hq, rfl⟩ := List.mem_map.mp hi
    exact (hb q hq).2
  rw [(h.parts hr).1, (h.parts hr).2]
  rw [List.length_map] at h1 h2
  omega
/-- counted by what comes next at p -/
theorem sum_by {α : Type} {P : α → Bool} {v : α → Int} {L : List α} : ∀ {xs : List Int}, xs.Nodup → (xs.map fun x => (L.filter fun d => P d && decide (v d = x)).length).sum = (L.filter fun d => P d && decide (v d ∈ xs)).length
  | [], _ => by
    rw [List.map_nil, List.sum_nil]
    exact (List.length_eq_zero_iff.mpr (List.filter_eq_nil_iff.mpr fun d _ => by simp)).symm
  | x :: xs, h => by
    obtain ⟨h1, h2⟩ := List.nodup_cons.mp h
    rw [List.map_cons, List.sum_cons, sum_by h2]
    have key : ∀ L : List α, (L.filter fun d => P d && decide (v d = x)).length + (L.filter fun d => P d && decide (v d ∈ xs)).length = (L.filter fun d => P d && decide (v d ∈ x :: xs)).length := by
      intro L
      induction L with
      | nil => rfl
      | cons d L ih =>
        rw [List.filter_cons, List.filter_cons, List.filter_cons]
        by_cases c : P d = true
        · by_cases c1 : v d = x
          · have c2 : v d ∉ xs := by rw [c1]; exact h1
            have c3 : v d ∈ x :: xs := by rw [c1]; exact List.mem_cons_self
            rw [if_pos (by rw [c, decide_eq_true c1]; rfl), if_neg (by rw [c, decide_eq_false c2]; exact Bool.false_ne_true), if_pos (by rw [c, decide_eq_true c3]; rfl), List.length_cons, List.length_cons]
            omega
          · by_cases c2 : v d ∈ xs
            · have c3 : v d ∈ x :: xs := List.mem_cons_of_mem _ c2
              rw [if_neg (by rw [c, decide_eq_false c1]; exact Bool.false_ne_true), if_pos (by rw [c, decide_eq_true c2]; rfl), if_pos (by rw [c, decide_eq_true c3]; rfl), List.length_cons, List.length_cons]
              omega
            · have c3 : v d ∉ x :: xs := fun z => (List.mem_cons.mp z).elim c1 c2
              rw [if_neg (by rw [c, decide_eq_false c1]; exact Bool.false_ne_true), if_neg (by rw [c, decide_eq_false c2]; exact Bool.false_ne_true), if_neg (by rw [c, decide_eq_false c3]; exact Bool.false_ne_true)]
              exact ih
        · have c : P d = false := by simpa using c
          simp only [c, Bool.false_and, Bool.false_eq_true, if_false]
          exact ih
    exact key L
theorem dr_set {st : List (Option Int)} {p i : Nat} {x y : Int} (hp : st[p]? = some none) : dr (st.set p (some x)) i y ↔ dr st i y ∨ (i = p ∧ y = x) := by
  have hl := (List.getElem?_eq_some_iff.mp hp).1
  unfold dr
  by_cases c : p = i
  · subst c
    rw [List.getElem?_set_self hl, hp]
    constructor
    · intro h; cases h; exact .inr ⟨rfl, rfl⟩
    · rintro (h | ⟨_, h⟩)
      · cases h
      · rw [h]
  · rw [List.getElem?_set_ne c]
    exact ⟨.inl, fun h => h.elim id fun h => absurd h.1.symm c⟩
theorem Std.more {rs : List (List Int)} {st : List (Option Int)} (h : Std rs st) {p : Nat} {x : Int} (hp : st[p]? = some none) (hx : x ∈ rs.getD p []) (hn : some x ∉ st) : Std rs (st.set p (some x)) := by
  refine ⟨by rw [List.length_set]; exact h.len, fun i y hd => ?_, fun i j y h1 h2 => ?_⟩
  · rcases (dr_set hp).mp hd with hd | ⟨rfl, rfl⟩
    · exact h.tie i y hd
    · exact hx
  · rcases (dr_set hp).mp h1 with g1 | ⟨e, e1⟩ <;> rcases (dr_set hp).mp h2 with g2 | ⟨e', e2⟩
    · exact h.nd i j y g1 g2
    · rw [e2] at g1
      exact absurd (dr_mem.mpr ⟨i, g1⟩) hn
    · rw [e1] at g2
      exact absurd (dr_mem.mpr ⟨j, g2⟩) hn
    · rw [e, e']
theorem Std.sum {rs : List (List Int)} {st : List (Option Int)} (h : Std rs st) (hr : Rows rs) {p : Nat} (hp : st[p]? = some none) :
    (((rs.getD p []).filter fun x => decide (some x ∉ st)).map fun x => (aft rs (st.set p (some x))).length).sum = (aft rs st).length := by
  have hpl : p < rs.length := by rw [← h.len]; exact (List.getElem?_eq_some_iff.mp hp).1
  have e1 : (((rs.getD p []).filter fun x => decide (some x ∉ st)).map fun x => (aft rs (st.set p (some x))).length) = (((rs.getD p []).filter fun x => decide (some x ∉ st)).map fun x => ((dls rs).filter fun d => fitB st d && decide (d.getD p 0 = x)).length) := by
    refine List.map_congr_left fun x _ => ?_
    unfold aft
    congr 1
    refine List.filter_congr fun d _ => ?_
    rw [Bool.eq_iff_iff, Bool.and_eq_true, fitB_iff, fitB_iff, decide_eq_true_iff]
    constructor
    · intro hf
      exact ⟨fun i y hd => hf i y ((dr_set hp).mpr (.inl hd)), hf p x ((dr_set hp).mpr (.inr ⟨rfl, rfl⟩))⟩
    · rintro ⟨h1, h2⟩ i y hd
      rcases (dr_set hp).mp hd with hd | ⟨rfl, rfl⟩
      · exact h1 i y hd
      · exact h2
  rw [e1, sum_by ((hr.get hpl).nodup.sublist List.filter_sublist)]
  unfold aft
  congr 1
  refine List.filter_congr fun d hd => ?_
  obtain ⟨d1, d2, d3⟩ := dls_mem.mp hd
  rw [Bool.eq_iff_iff, Bool.and_eq_true, decide_eq_true_iff]
  refine ⟨fun h => h.1, fun hf => ⟨hf, List.mem_filter.mpr ⟨?_, decide_eq_true fun hm => ?_⟩⟩⟩
  · exact d3 p _ _ (by rw [List.getD_eq_getElem?_getD, List.getElem?_eq_getElem (by omega)]; rfl) (by rw [List.getD_eq_getElem?_getD, List.getElem?_eq_getElem hpl]; rfl)
  · obtain ⟨i, hi⟩ := dr_mem.mp hm
    have h1 := fitB_iff.mp hf i _ hi
    have hil : i < d.length := by rw [d1, ← h.len]; exact dr_lt hi
    have hip : i = p := by
      rw [List.getD_eq_getElem?_getD, List.getD_eq_getElem?_getD, List.getElem?_eq_getElem hil, List.getElem?_eq_getElem (by omega)] at h1
      exact (List.getElem_inj d2).mp h1
    subst hip
    rw [dr, hp] at hi
    cases hi
end DL

namespace DL
open PySem PySem.Spec PyProof.Rows L2
/-! ### people and things told anew; tables beside one another -/
end DL

namespace DL
open PySem PySem.Spec PyProof.Rows L2
/-! ### a counter's keys, of people who go in their order -/
structure MemoW (rs : List (List Int)) (n : Nat) (P : List Nat) (ks : List (List L2.Key × D)) : Prop where
  nd : (ks.map (·.1)).Nodup
  bd : ∀ k ∈ ks.map (·.1), ∃ (j : Nat) (ts : List Nat), j ≤ P.length ∧ Asc ts ∧ ts.length = P.length - j ∧ (∀ i ∈ ts, i < n) ∧ k = [.inl (msk (P.drop j) : Nat), .inl (msk ts : Nat)]
  z : dget ks [.inl 0, .inl 0] = some (.int 1)
  ok : ∀ ps ts d, Asc ps → Asc ts → dget ks [.inl (msk ps : Nat), .inl (msk ts : Nat)] = some d → d = .int (ways rs ps ts : Nat)
theorem MemoW.put {rs : List (List Int)} {n : Nat} {P : List Nat} {ks : List (List L2.Key × D)} (m : MemoW rs n P ks) (hP : Asc P) {j : Nat} {ts : List Nat} (hj : j ≤ P.length) (ht : Asc ts) (hl : ts.length = P.length - j) (hb : ∀ i ∈ ts, i < n) :
    MemoW rs n P (dput ks [.inl (msk (P.drop j) : Nat), .inl (msk ts : Nat)] (.int (ways rs (P.drop j) ts : Nat))) := by
  have hp : Asc (P.drop j) := hP.sublist (List.drop_sublist _ _)
  have key : ∀ k, k ∈ (dput ks [.inl (msk (P.drop j) : Nat), .inl (msk ts : Nat)] (.int (ways rs (P.drop j) ts : Nat))).map (·.1) → k ∈ ks.map (·.1) ∨ k = [.inl (msk (P.drop j) : Nat), .inl (msk ts : Nat)] := fun k hk => by
    cases h : dget ks [.inl (msk (P.drop j) : Nat), .inl (msk ts : Nat)] with
    | some d => rw [dput_keys h] at hk; exact .inl hk
    | none =>
      rw [dput_new h, List.map_append] at hk
      exact (List.mem_append.mp hk).imp id fun h => List.mem_singleton.mp h
  refine ⟨?_, ?_, ?_, ?_⟩
  · cases h : dget ks [.inl (msk (P.drop j) : Nat), .inl (msk ts : Nat)] with
    | some d => rw [dput_keys h]; exact m.nd
    | none =>
      rw [dput_new h, List.map_append]
      exact List.nodup_append.mpr ⟨m.nd, by simp, fun x hx y hy e => by
        rw [List.map_singleton, List.mem_singleton] at hy
        subst e
        rw [hy] at hx
        exact dget_none h hx⟩
  · intro k hk
    rcases key k hk with hk | rfl
    · exact m.bd k hk
    · exact ⟨j, ts, hj, ht, hl, hb, rfl⟩
  · rw [dget_put]
    by_cases c : ([.inl ((msk (P.drop j) : Nat) : Int), .inl ((msk ts : Nat) : Int)] : List L2.Key) = [.inl 0, .inl 0]
    · rw [if_pos c]
      simp only [List.cons.injEq, Sum.inl.injEq, and_true] at c
      have : P.drop j = [] := msk_inj hp List.Pairwise.nil (by rw [msk_nil]; omega)
      rw [this]
      rfl
    · rw [if_neg c]; exact m.z
  · intro ps' ts' d h1 h2 h3
    rw [dget_put] at h3
    by_cases c : ([.inl ((msk (P.drop j) : Nat) : Int), .inl ((msk ts : Nat) : Int)] : List L2.Key) = [.inl ((msk ps' : Nat) : Int), .inl ((msk ts' : Nat) : Int)]
    · rw [if_pos c] at h3
      cases h3
      simp only [List.cons.injEq, Sum.inl.injEq, and_true] at c
      rw [msk_inj hp h1 (by omega), msk_inj ht h2 (by omega)]
    · rw [if_neg c] at h3; exact m.ok ps' ts' d h1 h2 h3
end DL

namespace DL
open PySem PySem.Spec PyProof.Rows L2
/-! ### dict comprehensions, walked -/
end DL

namespace DL
open PySem PySem.Spec PyProof.Rows L2
/-! ### dicts from lots of things to numbers -/
def gfkx (i : Nat) (tg : Tg) (body : G) (env : Env) : Option (Option Od) → Option (Out × Env)
  | some (some (.fd (.dit ks))) => forD tg body (ks.map fun q => .tup (q.1.map kD)) (env.set i (some (.fd (.val (.lit ks)))))
  | some (some (.fd (.dik ks))) => forD tg body (ks.map fun q => kD q.1) (env.set i (some (.fd (.val (.lik ks)))))
  | _ => none
theorem gforK_k {i : Nat} {tg : Tg} {body : G} {env : Env} : gforK i tg body env = gfkx i tg body env env[i]? := by
  unfold gforK gfkx
  split <;> simp_all
theorem gfkx_t {i : Nat} {tg : Tg} {body : G} {env : Env} {ks : List (List L2.Key × D)} : gfkx i tg body env (some (some (.fd (.dit ks)))) = forD tg body (ks.map fun q => .tup (q.1.map kD)) (env.set i (some (.fd (.val (.lit ks))))) := rfl
def dg2x (i : Nat) (fb fc : M D) (env : Env) : Option Fd → Option (D × Env)
  | some x0 => if isDF x0 = true then mbk (fb env) (fun k => mb fc fun z => pu fun env => (px i env).bind fun x => (dgetF x k).map fun r => r.getD z) else none
  | none => none
theorem mdg2_k {i : Nat} {fb fc : M D} {env : Env} : mdg2 i fb fc env = dg2x i fb fc env (px i env) := by
  unfold mdg2 dg2x
  cases px i env with
  | none => rfl
  | some x => show (if isDF x = true then _ else _) = _; rw [mb_k]
theorem dg2x_t {i : Nat} {fb fc : M D} {env : Env} {ks : List (List L2.Key × D)} : dg2x i fb fc env (some (.dit ks)) = mbk (fb env) (fun k => mb fc fun z => pu fun env => (px i env).bind fun x => (dgetF x k).map fun r => r.getD z) := rfl
theorem dg2x_k {i : Nat} {fb fc : M D} {env : Env} {ks : List (L2.Key × D)} : dg2x i fb fc env (some (.dik ks)) = mbk (fb env) (fun k => mb fc fun z => pu fun env => (px i env).bind fun x => (dgetF x k).map fun r => r.getD z) := rfl
theorem toTK_n {ns : List Int} : toTK (.tup (ns.map .int)) = some (ns.map .inl) := by
  show toKs (ns.map .int) = _
  induction ns with
  | nil => rfl
  | cons n ns ih => show (toKs (ns.map .int)).map _ = _; rw [ih]; rfl
theorem toTK_0 : toTK (.tup []) = some [] := rfl
theorem dgF_tn {ks : List (List L2.Key × D)} {ns : List Int} : dgetF (.dit ks) (.tup (ns.map .int)) = some (dget ks (ns.map .inl)) := by
  show (toTK _).map _ = _; rw [toTK_n]; rfl
theorem dgF_ln {ks : List (List L2.Key × D)} {ns : List Int} : dgetF (.val (.lit ks)) (.tup (ns.map .int)) = some (dget ks (ns.map .inl)) := by
  show (toTK _).map _ = _; rw [toTK_n]; rfl
theorem dgF_t0 {ks : List (List L2.Key × D)} : dgetF (.dit ks) (.tup []) = some (dget ks []) := rfl
end DL

namespace DL
open PySem PySem.Spec PyProof.Rows L2
/-! ### what counters and walks keep -/
/-- those who come up behind a place -/
def behind (turn : List Int) (n place : Nat) : List Nat := (List.range n).filter fun q => decide ((q : Int) ∈ turn.drop place)
/-! the fields that they depend on -/
end DL

namespace DL
open PySem PySem.Spec PyProof.Rows L2
/-! ### evaluation of pools and of dicts that keep -/
def ppx (r : Option (Option Od)) (b : Option D) : Option D := match r with
  | some (some (.pl xs _)) => b.bind fun b => (toI b).bind fun z => if 0 ≤ z ∧ z < xs.length then xs[z.toNat]? else none
  | _ => none
theorem pixP_k {i : Nat} {fb : P D} {env : Env} : pixP i fb env = ppx env[i]? (fb env) := by
  unfold pixP ppx
  split <;> simp_all
theorem ppx_0 {x : D} {xs cs : List D} : ppx (some (some (.pl (x :: xs) cs))) (some (.int 0)) = some x := by
  show (if (0 : Int) ≤ 0 ∧ (0 : Int) < ((x :: xs).length : Nat) then (x :: xs)[(0 : Int).toNat]? else none) = _
  rw [if_pos ⟨by decide, by rw [List.length_cons]; omega⟩]
  rfl
theorem ppx_1 {x y : D} {xs cs : List D} : ppx (some (some (.pl (x :: y :: xs) cs))) (some (.int 1)) = some y := by
  show (if (0 : Int) ≤ 1 ∧ (1 : Int) < ((x :: y :: xs).length : Nat) then (x :: y :: xs)[(1 : Int).toNat]? else none) = _
  rw [if_pos ⟨by decide, by rw [List.length_cons, List.length_cons]; omega⟩]
  rfl
def gsx (i : Nat) (d : D) (e : Env) (r : Option (Option Od)) (b : Option D) : Option (Out × Env) := match r with
  | some (some (.pl xs cs)) => b.bind fun b => (toI b).bind fun z => if 0 ≤ z ∧ z < xs.length then some (.nx, e.set i (some (.pl (xs.set z.toNat d) cs))) else none
  | _ => none
def gsy (i : Nat) (fb : P D) (r : Option (D × Env)) : Option (Out × Env) := r.bind fun r => gsx i r.1 r.2 r.2[i]? (fb r.2)
theorem gsiP_k {i : Nat} {fb : P D} {f : M D} {env : Env} : gsiP i fb f env = gsy i fb (f env) := by
  unfold gsiP gsy
  congr 1
theorem gsy_s {i : Nat} {fb : P D} {d : D} {e : Env} : gsy i fb (some (d, e)) = gsx i d e e[i]? (fb e) := rfl
theorem gsx_1 {i : Nat} {x y d : D} {cs : List D} {e : Env} : gsx i d e (some (some (.pl [x, y] cs))) (some (.int 1)) = some (.nx, e.set i (some (.pl [x, d] cs))) := by
  show (if (0 : Int) ≤ 1 ∧ (1 : Int) < (([x, y] : List D).length : Nat) then _ else none) = _
  rw [if_pos ⟨by decide, by show (1 : Int) < (2 : Nat); decide⟩]
  rfl
def rjx (i j : Nat) (xs : List D) (env : Env) (r : Option (Option Od)) : Option Env := match r with
  | some (some (.fd (.lst cs))) => some ((env.set j none).set i (some (.pl xs cs)))
  | _ => none
theorem rejoin_k {i j : Nat} {xs : List D} {env : Env} : rejoin i j xs env = rjx i j xs env env[j]? := by
  unfold rejoin rjx
  split <;> simp_all
theorem rjx_s {i j : Nat} {xs cs : List D} {env : Env} : rjx i j xs env (some (some (.fd (.lst cs)))) = some ((env.set j none).set i (some (.pl xs cs))) := rfl
def glr (i j : Nat) (xs : List D) (r : Option (Out × Env)) : Option (Out × Env) := r.bind (galR i j xs)
def glt (i j : Nat) (xs : List D) (gb h : G) (q : Option (Bool × Env)) : Option (Out × Env) := q.bind fun q => if q.1 = true then (gb q.2).bind (galR i j xs) else (rejoin i j xs q.2).bind h
def glx (i j k : Nat) (fc : M Bool) (gb h : G) (env : Env) (r : Option (Option Od)) : Option (Out × Env) := match r with
  | some (some (.pl xs cs)) => if k = xs.length ∧ i ≠ j ∧ j < env.length then glt i j xs gb h (fc ((env.set i none).set j (some (.fd (.lst cs))))) else none
  | _ => none
theorem gal_k {i j k : Nat} {fc : M Bool} {gb h : G} {env : Env} : gal i j k fc gb h env = glx i j k fc gb h env env[i]? := by
  unfold gal glx glt
  split <;> simp_all
theorem glx_s {fc : M Bool} {gb h : G} {env : Env} {x y : D} {cs : List D} (he : 2 < env.length) : glx 0 2 2 fc gb h env (some (some (.pl [x, y] cs))) = glt 0 2 [x, y] gb h (fc ((env.set 0 none).set 2 (some (.fd (.lst cs))))) := if_pos ⟨rfl, by decide, he⟩
theorem glt_t {i j : Nat} {xs : List D} {gb h : G} {e : Env} : glt i j xs gb h (some (true, e)) = glr i j xs (gb e) := rfl
theorem glt_f {i j : Nat} {xs : List D} {gb h : G} {e : Env} : glt i j xs gb h (some (false, e)) = (rejoin i j xs e).bind h := rfl
theorem glr_s {i j : Nat} {xs : List D} {d : D} {e : Env} : glr i j xs (some (.rt (.fd (.val d)), e)) = (rejoin i j xs e).map fun e => (.rt (.fd (.val d)), e) := rfl
def plO (a b : D) : Od → M Od
  | .fd (.lst cs) => mr (.pl [a, b] cs)
  | _ => mo none
theorem mplst_k {fa fb : M D} {fc : M Od} {env : Env} : mplst fa fb fc env = mbk (fa env) fun a => mb fb fun b => mb fc fun o => plO a b o := by
  unfold mplst
  rw [mb_k]
  congr 1
theorem lenF_vs {ns : List Int} : lenF (.val (.scr ns)) = some (.int (ns.map D.int).length) := rfl
theorem plO_s {a b : D} {cs : List D} : plO a b (.fd (.lst cs)) = mr (.pl [a, b] cs) := rfl
noncomputable def mkMx (mf : Mf) (kd : Str → Option Nat) (pf : List (Str × Fd) → Option (List (List Int))) (o : Od) : M D := match o with
  | .obj c gs => match pf gs with
    | some ps => open Classical in if ∀ q ∈ gs, mzOk mf kd ps q then mr (.obj c (mzF kd ps gs)) else mo none
    | none => mo none
  | _ => mo none
theorem mkM_k {mf : Mf} {kd : Str → Option Nat} {pf : List (Str × Fd) → Option (List (List Int))} {f : M Od} {env : Env} : mkM mf kd pf f env = mbk (f env) fun o => mkMx mf kd pf o := mb_k
theorem slD_s {ns : List Int} {lo hi : Option Int} : slD (.scr ns) lo hi = some (.lst (cutD (ns.map .int) lo hi)) := rfl
theorem itF_vs {ns : List Int} : itemsF (.val (.scr ns)) = some (ns.map .int) := rfl
theorem maxLB_s {ns : List Int} (h : ns.length ≠ 0) : maxLB [.lst (ns.map .int)] = some (.int (maxL ns)) := by
  show (toInts (ns.map D.int)).bind (fun ns => if ns.length = 0 then none else some (D.int (maxL ns))) = _
  rw [toInts_map]
  exact if_neg h
theorem mcat_k {fa fb : M D} {env : Env} : mcat fa fb env = mbk (fa env) fun x => mb fb fun y => mo (catF x y) := mb_k
theorem catF_s {xs ys : List D} (h : xs.length + ys.length ≤ 16777216) : catF (.lst xs) (.lst ys) = some (.fd (.lst (xs ++ ys))) := if_pos h
end DL

namespace DL
open PySem PySem.Spec PyProof.Rows L2
/-! ### walking through what may raise -/
variable {p : Fn} {n c : Nat} {fa : M (List D)} {env e r : Env} {ds : List D} {o : Od} {x : Fd} {g h : G} {ks cs : List Nat} {hs : List (List Nat × G)}
def gexC (e : Env) : Option Er → Option (Out × Env)
  | some c => some (.rt c.od, e)
  | none => some (.nx, e)
def gexB (e : Env) : Option (Od × Env) → Option (Out × Env)
  | some (o, _) => gexC e (isX o)
  | none => none
def gexA (p : Fn) (n : Nat) : Option (List D × Env) → Option (Out × Env)
  | some (ds, e) => if ds.length = n then gexB e (p (vals ds)) else none
  | none => none
theorem gexX_k : gexX p n fa env = gexA p n (fa env) := by
  unfold gexX gexA
  cases fa env with
  | none => rfl
  | some q =>
    obtain ⟨ds, e⟩ := q
    show (if ds.length = n then _ else none) = if ds.length = n then _ else none
    split
    · cases p (vals ds) with
      | none => rfl
      | some r =>
        show (match isX r.1 with | some c => some (Out.rt c.od, e) | none => some (Out.nx, e)) = gexC e (isX r.1)
        cases isX r.1 <;> rfl
    · rfl
theorem gexA_s : gexA p n (some (ds, e)) = if ds.length = n then gexB e (p (vals ds)) else none := rfl
theorem gexB_s : gexB e (some (o, r)) = gexC e (isX o) := rfl
theorem gexC_s : gexC e (some ⟨c, none⟩) = some (.rt (exO c), e) := rfl
theorem gexC_f {f : Str} {d : D} : gexC e (some ⟨c, some (f, d)⟩) = some (.rt (exF c f d), e) := rfl
theorem gexC_n : gexC e none = some (.nx, e) := rfl
theorem isX_fd : isX (.fd x) = none := rfl
def gnoB (o : Od) (e : Env) : Option Er → Option (Out × Env)
  | some _ => none
  | none => some (.rt o, e)
def gnoA : Option (Out × Env) → Option (Out × Env)
  | some (.rt o, e) => gnoB o e (isX o)
  | q => q
theorem gnoE_k : gnoE g env = gnoA (g env) := by
  unfold gnoE gnoA
  cases g env with
  | none => rfl
  | some q =>
    obtain ⟨a, b⟩ := q
    cases a with
    | nx => rfl
    | bk => rfl
    | ct => rfl
    | rt o =>
      show (if (isX o).isSome = true then none else some (Out.rt o, b)) = gnoB o b (isX o)
      cases isX o <;> rfl
theorem gnoA_n : gnoA (some (.nx, e)) = some (.nx, e) := rfl
theorem gnoA_r : gnoA (some (.rt o, e)) = gnoB o e (isX o) := rfl
theorem gnoB_n : gnoB o e none = some (.rt o, e) := rfl
theorem graise_k : graise c env = some (.rt (exO c), env) := rfl
def gtrB (ks : List Nat) (hs : List (List Nat × G)) (o : Od) (e : Env) : Option Er → Option (Out × Env)
  | some c => if c.d.isNone = true ∧ c.c ∈ ks then hand c.c hs e else none
  | none => some (.rt o, e)
def gtrA (ks : List Nat) (hs : List (List Nat × G)) : Option (Out × Env) → Option (Out × Env)
  | some (.rt o, e) => gtrB ks hs o e (isX o)
  | q => q
theorem gtry_k : gtry ks g hs env = gtrA ks hs (g env) := by
  unfold gtry gtrA
  cases g env with
  | none => rfl
  | some q =>
    obtain ⟨a, b⟩ := q
    cases a with
    | nx => rfl
    | bk => rfl
    | ct => rfl
    | rt o =>
      show (match isX o with | some c => if c.d.isNone = true ∧ c.c ∈ ks then hand c.c hs b else none | none => some (Out.rt o, b)) = gtrB ks hs o b (isX o)
      cases isX o <;> rfl
theorem gtrA_n : gtrA ks hs (some (.nx, e)) = some (.nx, e) := rfl
theorem gtrA_r : gtrA ks hs (some (.rt o, e)) = gtrB ks hs o e (isX o) := rfl
theorem gtrB_s : gtrB ks hs o e (some ⟨c, none⟩) = if c ∈ ks then hand c hs e else none := by
  show (if (none : Option (Str × D)).isNone = true ∧ c ∈ ks then hand c hs e else none) = _
  by_cases h : c ∈ ks
  · rw [if_pos h, if_pos ⟨rfl, h⟩]
  · rw [if_neg h, if_neg (fun z => h z.2)]
theorem hand_s : hand c ((cs, h) :: hs) env = if c ∈ cs then h env else hand c hs env := rfl
def noB (o : Od) (e : Env) : Option Er → Option (Od × Env)
  | some _ => none
  | none => some (o, e)
def noA : Option (Od × Env) → Option (Od × Env)
  | some (o, e) => noB o e (isX o)
  | none => none
theorem noX_k : noX p env = noA (p env) := by
  unfold noX noA
  cases p env with
  | none => rfl
  | some q =>
    obtain ⟨a, b⟩ := q
    show (if (isX a).isSome = true then none else some (a, b)) = noB a b (isX a)
    cases isX a <;> rfl
theorem noX_v {d : D} (h : p env = some (.fd (.val d), e)) : noX p env = some (.fd (.val d), e) := by
  rw [noX_k, h]; rfl
end DL

namespace DL
open PySem PySem.Spec PyProof.Rows L2
/-! ### what those keep who ask for the least and the greatest product -/
end DL

namespace DL
open PySem PySem.Spec PyProof.Rows L2
/-! ### x in l, where the items are plain data -/
theorem minP_k {neg : Bool} {fa : M D} {fx : P Fd} {env : Env} : minP neg fa fx env = mbk (fa env) fun a => pu fun env => (fx env).bind fun x => inPD neg a x := mb_k
end DL

namespace DL
open PySem PySem.Spec PyProof.Rows L2
/-! ### what may raise, as an expression -/
end DL

namespace DL
open PySem PySem.Spec PyProof.Rows L2
/-! ### a list of one's own, looked at only -/
def mcx (i : Nat) (g : D → D → Option D) : Option (D × Env) → Option (D × Env)
  | some q => (px i q.2).bind fun x => (thaw x).bind fun a => (g a q.1).bind fun d => (onlyB d).map fun d => (d, q.2)
  | none => none
theorem mcLE_k {i : Nat} {g : D → D → Option D} {fb : M D} {env : Env} : mcLE i g fb env = ((env[i]?).join).bind fun _ => mcx i g (fb env) := by
  unfold mcLE mcx
  cases (env[i]?).join with
  | none => rfl
  | some o =>
    dsimp only [Option.bind_some]
    cases fb env <;> rfl
theorem mcx_s {i : Nat} {g : D → D → Option D} {d : D} {e : Env} : mcx i g (some (d, e)) = (px i e).bind fun x => (thaw x).bind fun a => (g a d).bind fun d => (onlyB d).map fun d => (d, e) := rfl
def mvk (n : Nat) (vs : List Nat) (tg : Tg) (ft : M Bool) (fe : M D) (i : Nat) (env : Env) : Option (Option Od) → Option (Od × Env)
  | some (some (.fd (.lst ds))) => if env.length = n then (lcD vs tg ft fe ds [] (wipeE (env.set i none) vs)).map fun r => (.fd (.lst r.1), (restE (env.set i none) vs r.2).set i (some (.fd (.lst ds)))) else none
  | _ => none
theorem mlcV_k {i n : Nat} {vs : List Nat} {tg : Tg} {ft : M Bool} {fe : M D} {env : Env} : mlcV i n vs tg ft fe env = mvk n vs tg ft fe i env env[i]? := by
  unfold mlcV mvk
  rcases env[i]? with _ | _ | o
  · rfl
  · rfl
  · cases o with
    | fd x => cases x <;> rfl
    | _ => rfl
theorem mvk_s {i n : Nat} {vs : List Nat} {tg : Tg} {ft : M Bool} {fe : M D} {env : Env} {ds : List D} : mvk n vs tg ft fe i env (some (some (.fd (.lst ds)))) = if env.length = n then (lcD vs tg ft fe ds [] (wipeE (env.set i none) vs)).map fun r => (.fd (.lst r.1), (restE (env.set i none) vs r.2).set i (some (.fd (.lst ds)))) else none := rfl
/-! ### exchange of two items -/
def gswk (j : Nat) (fa fb : P D) : Option (List D × Env) → Option (Out × Env)
  | some ([d1, d2], e) => (lstAt j e).bind fun ds => (fa e).bind fun a => (toI a).bind fun za => (ixN ds.length za).bind fun na => (fb (e.set j (vl (ds.set na d1)))).bind fun b => (toI b).bind fun zb => (ixN ds.length zb).map fun nb => (.nx, e.set j (vl ((ds.set na d1).set nb d2)))
  | _ => none
theorem gsw_k {j : Nat} {fa fb : P D} {f : M (List D)} {env : Env} : gsw j fa fb f env = gswk j fa fb (f env) := by
  unfold gsw gswk
  rcases f env with _ | ⟨l, e⟩
  · rfl
  · rcases l with _ | ⟨a, _ | ⟨b, _ | ⟨c, l⟩⟩⟩ <;> rfl
theorem gswk_s {j : Nat} {fa fb : P D} {d1 d2 : D} {e : Env} : gswk j fa fb (some ([d1, d2], e)) = (lstAt j e).bind fun ds => (fa e).bind fun a => (toI a).bind fun za => (ixN ds.length za).bind fun na => (fb (e.set j (vl (ds.set na d1)))).bind fun b => (toI b).bind fun zb => (ixN ds.length zb).map fun nb => (.nx, e.set j (vl ((ds.set na d1).set nb d2))) := rfl
end DL

namespace DL
open PySem PySem.Spec PyProof.Rows L2
/-! ### who can be asked for a thing; which ties are in some dealing -/
inductive Rc (rs : List (List Int)) (g : Nat → Option Nat) (q : Nat) : Nat → Prop
  | refl : Rc rs g q q
  | step {x w t : Nat} : Rc rs g q x → (t : Int) ∈ rs.getD x [] → g t = some w → Rc rs g q w
theorem Rc.trans {rs : List (List Int)} {g : Nat → Option Nat} {a b c : Nat} (h : Rc rs g a b) (k : Rc rs g b c) : Rc rs g a c := by
  induction k with
  | refl => exact h
  | step _ h1 h2 ih => exact .step ih h1 h2
/-- a whole matching -/
structure Whole (rs : List (List Int)) (f g : Nat → Option Nat) : Prop where
  mat : Mat rs f g
  all : ∀ p, p < rs.length → (f p).isSome = true
section
variable {rs : List (List Int)} {f g : Nat → Option Nat}
theorem Whole.fAt (W : Whole rs f g) {p : Nat} (h : p < rs.length) : ∃ t, f p = some t ∧ g t = some p ∧ t < rs.length ∧ (t : Int) ∈ rs.getD p [] := by
  obtain ⟨t, e⟩ := Option.isSome_iff_exists.mp (W.all p h)
  have := W.mat.tie p t e
  exact ⟨t, e, (W.mat.inv p t).mp e, this.2⟩
theorem Mat.gtie (M : Mat rs f g) {t w : Nat} (h : g t = some w) : f w = some t ∧ w < rs.length ∧ t < rs.length ∧ (t : Int) ∈ rs.getD w [] :=
  ⟨(M.inv w t).mpr h, M.tie w t ((M.inv w t).mpr h)⟩
theorem Rc.lt (M : Mat rs f g) {q x : Nat} (h : Rc rs g q x) (hq : q < rs.length) : x < rs.length := by
  cases h with
  | refl => exact hq
  | step _ _ e => exact (M.gtie e).2.1
theorem Whole.gAt (W : Whole rs f g) {t : Nat} (h : t < rs.length) : ∃ w, g t = some w ∧ f w = some t ∧ w < rs.length ∧ (t : Int) ∈ rs.getD w [] := by
  cases e : g t with
  | some w => exact ⟨w, rfl, (W.mat.gtie e).1, (W.mat.gtie e).2.1, (W.mat.gtie e).2.2.2⟩
  | none =>
    have hl := nodup_bound (n := rs.length) (l := t :: (List.range rs.length).map fun p => (f p).getD 0) (List.nodup_cons.mpr ⟨fun hm => ?_, List.pairwise_map.mpr (List.nodup_range.imp_of_mem fun {a b} ha hb hab e => ?_)⟩) fun x hx => ?_
    · rw [List.length_cons, List.length_map, List.length_range] at hl
      omega
    · obtain ⟨p, hp, rfl⟩ := List.mem_map.mp hm
      obtain ⟨u, h1, h2, -⟩ := W.fAt (List.mem_range.mp hp)
      rw [h1] at e
      rw [show (some u).getD 0 = u from rfl, h2] at e
      cases e
    · obtain ⟨u, h1, h2, -⟩ := W.fAt (List.mem_range.mp ha)
      obtain ⟨v, h3, h4, -⟩ := W.fAt (List.mem_range.mp hb)
      rw [h1, h3] at e
      have e : u = v := e
      subst e
      rw [h2] at h4
      exact hab (Option.some.inj h4)
    · rcases List.mem_cons.mp hx with rfl | hx
      · exact h
      · obtain ⟨p, hp, rfl⟩ := List.mem_map.mp hx
        obtain ⟨u, h1, -, h3, -⟩ := W.fAt (List.mem_range.mp hp)
        rw [h1]; exact h3
theorem dls_at {d : List Int} (hr : Rows rs) (hd : d ∈ dls rs) {p : Nat} (hp : p < rs.length) : ∃ t : Nat, d.getD p 0 = (t : Int) ∧ t < rs.length ∧ (t : Int) ∈ rs.getD p [] := by
  obtain ⟨h1, h2, h3⟩ := dls_mem.mp hd
  have hm := h3 p d[p] rs[p] (List.getElem?_eq_getElem (by omega)) (List.getElem?_eq_getElem hp)
  have hb := (hr.row rs[p] (List.getElem_mem hp)).bd _ hm
  refine ⟨d[p].toNat, ?_, by omega, ?_⟩
  · rw [List.getD_eq_getElem?_getD, List.getElem?_eq_getElem (by omega)]
    show d[p] = _
    omega
  · rw [List.getD_eq_getElem?_getD, List.getElem?_eq_getElem hp, show ((d[p].toNat : Nat) : Int) = d[p] by omega]
    exact hm
/-- a dealing's tie: its thing's owner reaches the person -/
theorem Whole.back (W : Whole rs f g) (hr : Rows rs) {d : List Int} (hd : d ∈ dls rs) {p t w : Nat} (hp : p < rs.length) (ht : d.getD p 0 = (t : Int)) (hg : g t = some w) : Rc rs g w p := by
  classical
  obtain ⟨d1, d2, -⟩ := dls_mem.mp hd
  let σ : Nat → Nat := fun x => (g (d.getD x 0).toNat).getD 0
  have hs : ∀ x, x < rs.length → ∃ u : Nat, d.getD x 0 = (u : Int) ∧ (u : Int) ∈ rs.getD x [] ∧ g u = some (σ x) ∧ σ x < rs.length := fun x hx => by
    obtain ⟨u, h1, h2, h3⟩ := dls_at hr hd hx
    obtain ⟨v, g1, g2, g3, -⟩ := W.gAt h2
    have e : σ x = v := by show (g (d.getD x 0).toNat).getD 0 = v; rw [h1, Int.toNat_natCast, g1]; rfl
    exact ⟨u, h1, h3, by rw [e]; exact g1, by rw [e]; exact g3⟩
  have inj : ∀ x y, x < rs.length → y < rs.length → σ x = σ y → x = y := fun x y hx hy e => by
    obtain ⟨u, h1, -, h3, -⟩ := hs x hx
    obtain ⟨v, k1, -, k3, -⟩ := hs y hy
    rw [← e] at k3
    have e1 := (W.mat.gtie h3).1
    rw [(W.mat.gtie k3).1] at e1
    have e2 := Option.some.inj e1
    subst e2
    exact getD_inj d2 (by omega) (by omega) (by rw [h1, k1])
  have hw : w < rs.length := (W.mat.gtie hg).2.1
  have hsp : σ p = w := by
    show (g (d.getD p 0).toNat).getD 0 = w
    rw [ht, Int.toNat_natCast, hg]; rfl
  apply Classical.byContradiction
  intro hno
  let L := (List.range rs.length).filter fun x => decide (Rc rs g w x)
  have hL : ∀ x, x ∈ L ↔ x < rs.length ∧ Rc rs g w x := fun x => by
    show x ∈ (List.range rs.length).filter _ ↔ _
    rw [List.mem_filter, List.mem_range, decide_eq_true_iff]
  have hLn : L.Nodup := List.Nodup.sublist List.filter_sublist List.nodup_range
  have hpL : ∀ x, x ∈ p :: L → x < rs.length := fun x hx => by
    rcases List.mem_cons.mp hx with e | hx
    · rw [e]; exact hp
    · exact ((hL x).mp hx).1
  have hn : ((p :: L).map σ).Nodup := List.pairwise_map.mpr ((List.nodup_cons.mpr ⟨fun h => hno ((hL p).mp h).2, hLn⟩ : (p :: L).Nodup).imp_of_mem fun {a b} ha hb hab e => hab (inj a b (hpL a ha) (hpL b hb) e))
  have hsub : ∀ x ∈ (p :: L).map σ, x ∈ L := fun x hx => by
    obtain ⟨y, hy, rfl⟩ := List.mem_map.mp hx
    rcases List.mem_cons.mp hy with e | hy
    · rw [e, hsp]
      exact (hL w).mpr ⟨hw, .refl⟩
    · obtain ⟨k1, k2⟩ := (hL y).mp hy
      obtain ⟨u, h1, h2, h3, h4⟩ := hs y k1
      exact (hL _).mpr ⟨h4, .step k2 h2 h3⟩
  have h1 := nodup_sub hn hLn hsub
  rw [List.length_map, List.length_cons] at h1
  omega
/-- a way without a turn back -/
inductive Pth (rs : List (List Int)) (g : Nat → Option Nat) (q : Nat) : List Nat → Prop
  | one : Pth rs g q [q]
  | cons {x w t : Nat} {l : List Nat} : Pth rs g q (x :: l) → (t : Int) ∈ rs.getD x [] → g t = some w → w ∉ x :: l → Pth rs g q (w :: x :: l)
theorem Pth.cut {q w : Nat} {l : List Nat} (h : Pth rs g q l) : w ∈ l → ∃ l', Pth rs g q (w :: l') := by
  induction h with
  | one => intro hm; rw [List.mem_singleton.mp hm]; exact ⟨[], .one⟩
  | @cons x w' t l h1 h2 h3 h4 ih =>
    intro hm
    rcases List.mem_cons.mp hm with rfl | hm
    · exact ⟨_, .cons h1 h2 h3 h4⟩
    · exact ih hm
theorem Pth.from_ {q : Nat} {l : List Nat} (h : Pth rs g q l) : q ∈ l := by
  induction h with
  | one => exact List.mem_singleton.mpr rfl
  | cons _ _ _ _ ih => exact List.mem_cons_of_mem _ ih
theorem Pth.keep {q : Nat} {g1 : Nat → Option Nat} {l : List Nat} (h : Pth rs g q l) : (∀ w ∈ l, w ≠ q → ∀ s, g s = some w → g1 s = some w) → Pth rs g1 q l := by
  induction h with
  | one => intro _; exact .one
  | cons h1 h2 h3 h4 ih =>
    intro k
    exact .cons (ih fun w hw => k w (List.mem_cons_of_mem _ hw)) h2 (k _ List.mem_cons_self (fun e => h4 (by rw [e]; exact h1.from_)) _ h3) h4
end
end DL

namespace DL
open PySem PySem.Spec PyProof.Rows L2
/-! ### shared dicts, dict.update, defs that look only: what simp needs -/
theorem dgF_vlk {ks : List (L2.Key × D)} {i : Int} : dgetF (.val (.lik ks)) (.int i) = some (dget ks (.inl i)) := rfl
def itIx (env : Env) : Option Fd → Option (List D × Env)
  | some (.val (.lik ks)) => some (ks.map fun q => .tup [kD q.1, q.2], env)
  | _ => none
theorem itI_k {fx : P Fd} {env : Env} : itI fx env = itIx env (fx env) := by
  unfold itI itIx
  rcases fx env with _ | x
  · rfl
  · cases x with
    | val d => cases d <;> rfl
    | _ => rfl
theorem itIx_s {ks : List (L2.Key × D)} {env : Env} : itIx env (some (.val (.lik ks))) = some (ks.map fun q => .tup [kD q.1, q.2], env) := rfl
def mlky (j c : Nat) (gs : List (Str × Fd)) (n : Str) (env : Env) : Option Fd → Option (D × Env)
  | some (.dik ks) => some (.lik ks, env.set j (some (.obj c (putG n (.val (.lik ks)) gs))))
  | _ => none
def mlkx (j : Nat) (n : Str) (env : Env) : Option (Option Od) → Option (D × Env)
  | some (some (.obj c gs)) => mlky j c gs n env (gs.lookup n)
  | _ => none
theorem mlkf_k {j : Nat} {n : Str} {env : Env} : mlkf j n env = mlkx j n env env[j]? := by
  unfold mlkf mlkx
  rcases env[j]? with _ | _ | o
  · rfl
  · rfl
  · cases o with
    | obj c gs =>
      show (match gs.lookup n with | some (.dik ks) => _ | _ => none) = mlky j c gs n env (gs.lookup n)
      unfold mlky
      rcases gs.lookup n with _ | x
      · rfl
      · cases x <;> rfl
    | _ => rfl
theorem mlkx_s {j c : Nat} {n : Str} {env : Env} {gs : List (Str × Fd)} : mlkx j n env (some (some (.obj c gs))) = mlky j c gs n env (gs.lookup n) := rfl
theorem mlky_s {j c : Nat} {n : Str} {env : Env} {gs : List (Str × Fd)} {ks : List (L2.Key × D)} : mlky j c gs n env (some (.dik ks)) = some (.lik ks, env.set j (some (.obj c (putG n (.val (.lik ks)) gs)))) := rfl
theorem mupd_k {i : Nat} {fa : M (List D)} {env : Env} : mupd i fa env = (px i env).bind fun x0 => if isDik x0 = true then (fa env).bind fun q => (px i q.2).bind fun x => (updL x q.1).map fun r => (.non, q.2.set i (some (.fd (.dik r)))) else none := rfl
theorem isDik_k {ks : List (L2.Key × D)} : isDik (.dik ks) = true := rfl
theorem updL_s {ks ms : List (L2.Key × D)} (h : ks.length + ms.length ≤ 16777216) : updL (.dik ks) [.dik ms] = some (mergeD ks ms) := if_pos h
theorem ppm_k {m : Str} {cl i : Nat} {p : Env → Option D} {fa : P (List D)} {env : Env} : ppm m cl i p fa env = ((env[i]?).join).bind fun o => if noM m cl o = true then (fa env).bind fun ds => p (some o :: vals ds) else none := rfl
theorem pnil_s {env : Env} : pnil env = some [] := rfl
theorem pcons_s {f : P D} {g : P (List D)} {env : Env} : pcons f g env = (f env).bind fun d => (g env).map fun ds => d :: ds := rfl
theorem join_ss {α : Type} {x : α} : (some (some x)).join = some x := rfl
theorem rgN_0 {n : Nat} : rgN 0 n = (List.range n).map fun i : Nat => D.int (i : Nat) := by
  apply List.ext_getElem?
  intro i
  rw [List.getElem?_map]
  by_cases c : i < n
  · rw [List.getElem?_range c, List.getElem?_eq_getElem (by rw [rgN_len]; exact c)]
    obtain ⟨-, e⟩ := rgN_at0 (List.getElem?_eq_getElem (l := rgN 0 n) (i := i) (by rw [rgN_len]; exact c))
    rw [e]; rfl
  · rw [List.getElem?_eq_none (by rw [rgN_len]; omega), List.getElem?_eq_none (by rw [List.length_range]; omega)]; rfl
end DL

namespace DL
open PySem PySem.Spec PyProof.Rows L2
/-! ### repr of a list of tuples of small ints -/
/-- what can be shown shortly: depth, bulk -/
structure Shw (k b : Nat) (p : PyData) : Prop where
  sh : p.showable = true
  nd : p.hasDict = false
  dp : p.depth ≤ k
  ls : p.leavesShort 13 = true
  bk : p.bulk ≤ b
  st : PyData.strOk p.shown = true
theorem Shw.ok {k b : Nat} {p : PyData} (h : Shw k b p) (hk : k ≤ 60) (hb : b ≤ 2 ^ 20) : okR p = true := by
  unfold okR
  rw [h.sh, h.nd, decide_eq_true (show p.depth ≤ 60 from Nat.le_trans h.dp hk), decide_eq_true (PyData.shown_fits_bulk (B := 13) (by decide) (by decide) h.ls (Nat.le_trans h.bk hb))]
  rfl
theorem neD_str {a : Str} (h : PyData.strOk a = true) : neD (.str a) (.str a) = some (.bl false) := by
  have e : SeqAt.shaped (.str a) = true := by
    unfold SeqAt.shaped PyData.canLay0
    rw [h]; rfl
  show (if (SeqAt.shaped (.str a) && SeqAt.shaped (.str a)) = true then some (D.bl (!PyData.eqv (.str a) (.str a))) else none) = _
  rw [e, if_pos (by rfl), show PyData.eqv (.str a) (.str a) = true from by unfold PyData.eqv; simp]; rfl
theorem preprL_k {fx : P Fd} {env : Env} : preprL fx env = (fx env).bind fun x => (thaw x).bind reprD := rfl
end DL

namespace DL
open PySem PySem.Spec PyProof.Rows L2
/-! ### a table turned: people and things change places -/
end DL

namespace DL
open PySem PySem.Spec PyProof.Rows L2
/-! ### what those keep who ask with what one person gets one thing -/
end DL

namespace DL
open PySem PySem.Spec PyProof.Rows L2
/-! ### what those keep who ask for the least and the greatest product, some people being told their things -/
/-! simp lemmas -/
theorem pvi_s {neg : Bool} {fx : P Fd} {fb : P D} {env : Env} : pvi neg fx fb env = (fb env).bind fun k => (fx env).bind fun x => (valsF x).bind fun ns => match k with
  | .int n => some (.bl (if neg = true then !decide (n ∈ ns) else decide (n ∈ ns)))
  | _ => none := rfl
theorem dictD_s {ks : List (L2.Key × D)} : dictD [.dik ks] = some (.fd (.dik ks)) := rfl
end DL

namespace DL
open PySem PySem.Spec PyProof.Rows L2
/-! simp lemmas for setdefault, dict of pairs -/
end DL

namespace DL
open PySem PySem.Spec PyProof.Rows L2
/-! ### x in t, t a tuple, where the items are plain data -/
theorem minPT_k {neg : Bool} {fa : M D} {fx : P Fd} {env : Env} : minPT neg fa fx env = mbk (fa env) fun a => pu fun env => (fx env).bind fun x => inPT neg a x := mb_k
end DL

namespace DL
open PySem PySem.Spec PyProof.Rows L2
/-! ### pairs of a number and a tuple of tuples of numbers, by < -/
end DL

namespace DL
open PySem PySem.Spec PyProof.Rows L2
/-! ### errors with a field, walked -/
variable {c i j : Nat} {f : Str} {fe : M D} {env e : Env} {d : D} {o : Od} {ks : List Nat} {cs : List Nat} {g : G} {h : Hx} {hs : List (List Nat × Hx)} {hd : D → D} {q : Option (Str × D)}
def grf (c : Nat) (f : Str) : Option (D × Env) → Option (Out × Env)
  | some (d, e) => some (.rt (exF c f d), e)
  | none => none
theorem graiseF_k : graiseF c f fe env = grf c f (fe env) := by unfold graiseF grf; cases fe env <;> rfl
theorem grf_s : grf c f (some (d, e)) = some (.rt (exF c f d), e) := rfl
def gtnB (ks : List Nat) (hs : List (List Nat × Hx)) (o : Od) (e : Env) : Option Er → Option (Out × Env)
  | some c => if c.c ∈ ks then handN c.c c.d hs e else none
  | none => some (.rt o, e)
def gtnA (ks : List Nat) (hs : List (List Nat × Hx)) : Option (Out × Env) → Option (Out × Env)
  | some (.rt o, e) => gtnB ks hs o e (isX o)
  | q => q
theorem gtryN_k : gtryN ks g hs env = gtnA ks hs (g env) := by
  unfold gtryN gtnA
  cases g env with
  | none => rfl
  | some q =>
    obtain ⟨a, b⟩ := q
    cases a with
    | nx => rfl
    | bk => rfl
    | ct => rfl
    | rt o =>
      show (match isX o with | some c => if c.c ∈ ks then handN c.c c.d hs b else none | none => some (Out.rt o, b)) = gtnB ks hs o b (isX o)
      cases isX o <;> rfl
theorem gtnA_n : gtnA ks hs (some (.nx, e)) = some (.nx, e) := rfl
theorem gtnA_r : gtnA ks hs (some (.rt o, e)) = gtnB ks hs o e (isX o) := rfl
theorem gtnB_s : gtnB ks hs o e (some ⟨c, q⟩) = if c ∈ ks then handN c q hs e else none := rfl
theorem gtnB_n : gtnB ks hs o e none = some (.rt o, e) := rfl
theorem handN_s : handN c q ((cs, h) :: hs) env = if c ∈ cs then h q env else handN c q hs env := rfl
theorem gfld_s (hi : i < env.length) (hj : j < env.length) (hij : i ≠ j) : gfld i j f hd (some (f, d)) env = some (.nx, (env.set i none).set j (some (.fd (.val (hd d))))) := if_pos ⟨rfl, hi, hj, hij⟩
/-! ### a call that may raise, as an expression -/
section
variable {p : Fn} {n : Nat} {fa : M (List D)} {r : Env} {ds : List D} {fm : ME} {x : Fd} {d0 : D}
def mxqC (o : Od) (e : Env) : Option Er → Option (XR × Env)
  | some c => some (.inl c, e)
  | none => some (.inr o, e)
def mxqB (e : Env) : Option (Od × Env) → Option (XR × Env)
  | some (o, _) => mxqC o e (isX o)
  | none => none
def mxqA (p : Fn) (n : Nat) : Option (List D × Env) → Option (XR × Env)
  | some (ds, e) => if ds.length = n then mxqB e (p (vals ds)) else none
  | none => none
theorem mxq_k : mxc p n fa env = mxqA p n (fa env) := by
  unfold mxc mxqA
  cases fa env with
  | none => rfl
  | some q =>
    obtain ⟨ds, e⟩ := q
    show (if ds.length = n then _ else none) = if ds.length = n then _ else none
    split
    · cases p (vals ds) with
      | none => rfl
      | some r =>
        show some ((match isX r.1 with | some c => Sum.inl c | none => Sum.inr r.1), e) = mxqC r.1 e (isX r.1)
        cases isX r.1 <;> rfl
    · rfl
theorem mxqA_s : mxqA p n (some (ds, e)) = if ds.length = n then mxqB e (p (vals ds)) else none := rfl
theorem mxqB_s : mxqB e (some (o, r)) = mxqC o e (isX o) := rfl
theorem mxqC_s {c : Er} : mxqC o e (some c) = some (.inl c, e) := rfl
theorem mxqC_n : mxqC o e none = some (.inr o, e) := rfl
def mxuA (d0 : D) : Option (XR × Env) → Option (XR × Env)
  | some (.inl c, e) => some (.inl c, e)
  | some (.inr o, e) => some (.inr (.fd (.val (.tup [d0, o.frz]))), e)
  | none => none
theorem mxu_k : mxt d0 fm env = mxuA d0 (fm env) := by
  unfold mxt mxuA
  cases fm env with
  | none => rfl
  | some q => obtain ⟨a, b⟩ := q; cases a <;> rfl
theorem mxuA_l {c : Er} : mxuA d0 (some (.inl c, e)) = some (.inl c, e) := rfl
theorem mxuA_r : mxuA d0 (some (.inr o, e)) = some (.inr (.fd (.val (.tup [d0, o.frz]))), e) := rfl
def gsuA (i : Nat) : Option (XR × Env) → Option (Out × Env)
  | some (.inl c, e) => some (.rt c.od, e)
  | some (.inr o, e) => if i < e.length then some (.nx, e.set i (some o)) else none
  | none => none
theorem gsu_k : gstE i fm env = gsuA i (fm env) := by
  unfold gstE gsuA
  cases fm env with
  | none => rfl
  | some q => obtain ⟨a, b⟩ := q; cases a <;> rfl
theorem gsuA_x : gsuA i (some (.inl ⟨c, none⟩, e)) = some (.rt (exO c), e) := rfl
theorem gsuA_f : gsuA i (some (.inl ⟨c, some (f, d)⟩, e)) = some (.rt (exF c f d), e) := rfl
theorem gsuA_r (h : i < e.length) : gsuA i (some (.inr o, e)) = some (.nx, e.set i (some o)) := if_pos h
end
theorem mmul_k {fa fb : M D} : mmul fa fb env = mbk (fa env) fun x => mb fb fun y => mo (mulO x y) := mb_k
theorem mulO_1 {x k : Int} (h0 : 0 ≤ k) (h1 : k ≤ 1000) : mulO (.lst [.int x]) (.int k) = some (.fd (.lst ((List.replicate k.toNat x).map .int))) := by
  have e : mulL (.lst [.int x]) (.int k) = some (.lst ((List.replicate k.toNat x).map .int)) := by
    show (if 0 ≤ k ∧ k ≤ 1000 ∧ [D.int x].length ≤ 1000 then some (D.lst (List.replicate k.toNat [D.int x]).flatten) else none) = _
    rw [if_pos ⟨h0, h1, by show 1 ≤ 1000; decide⟩]
    congr 2
    induction k.toNat with
    | zero => rfl
    | succ n ih => rw [List.replicate_succ, List.flatten_cons, ih]; rfl
  unfold mulO
  rw [e]
/-! ### great products, x[b] += e -/
section
variable {fb fx : P D} {ds : List D}
theorem mulW_s {i j : Int} (h : i.natAbs.log2 + j.natAbs.log2 < 1000000) : mulW (.int i) (.int j) = some (.int (i * j)) := if_pos (decide_eq_true h)
theorem log2_lt {n k : Nat} (h : n < 2 ^ k) (hk : 0 < k) : n.log2 < k := by
  by_cases c : n = 0
  · subst c; show Nat.log2 0 < k; rw [Nat.log2_zero]; exact hk
  · exact (Nat.log2_lt c).mpr h
theorem mulW_b {i j : Int} {a b : Nat} (hi : i.natAbs < 2 ^ a) (hj : j.natAbs < 2 ^ b) (ha : 0 < a) (hb : 0 < b) (h : a + b ≤ 1000000) : mulW (.int i) (.int j) = some (.int (i * j)) :=
  mulW_s (by have := log2_lt hi ha; have := log2_lt hj hb; omega)
theorem gsau_s {z : Int} {x y : Int} (h1 : lstAt j env = some ds) (h2 : fb env = some (.int z)) (h3 : 0 ≤ z) (h4 : ds[z.toNat]? = some (.int x)) (h5 : fx env = some (.int y)) : gsau j fb fx env = some (.nx, env.set j (some (.fd (.lst (ds.set z.toNat (.int (x + y))))))) := by
  have h6 := (List.getElem?_eq_some_iff.mp h4).1
  unfold gsau
  rw [h1, Option.bind_some, h2, Option.bind_some]
  show (if 0 ≤ z ∧ z.toNat < ds.length then _ else none) = _
  rw [if_pos ⟨h3, h6⟩, h4, Option.bind_some]
  show (fx env).bind _ = _
  rw [h5]; rfl
end
/-! ### dicts with tuple keys, locked -/
section
variable {tg : Tg} {body : G} {kt : List (List L2.Key × D)} {fx : P Fd} {x : Fd}
def rdlx (i : Nat) (e : Env) : Option (Option Od) → Option (D × Env)
  | some (some (.fd (.dit ks))) => some (.lit ks, e.set i (some (.fd (.val (.lit ks)))))
  | _ => none
theorem rdl_k : rdl i env = rdlx i env (env[i]?) := rfl
theorem rdlx_s : rdlx i e (some (some (.fd (.dit kt)))) = some (.lit kt, e.set i (some (.fd (.val (.lit kt))))) := rfl
def gftx (tg : Tg) (body : G) (e : Env) : Option (Option Od) → Option (Out × Env)
  | some (some (.fd (.val (.lit ks)))) => forD tg body (ks.map fun q => .tup [.tup (q.1.map kD), q.2]) e
  | _ => none
theorem gforT_k : gforT i tg body env = gftx tg body env (env[i]?) := rfl
theorem gftx_s : gftx tg body e (some (some (.fd (.val (.lit kt))))) = forD tg body (kt.map fun q => .tup [.tup (q.1.map kD), q.2]) e := rfl
def pvsx : Option Fd → Option D
  | some x => (vsmF x).map D.int
  | none => none
theorem pvsm_k : pvsm fx env = pvsx (fx env) := by unfold pvsm pvsx; cases fx env <;> rfl
theorem pvsx_s : pvsx (some x) = (vsmF x).map D.int := rfl
end
/-! ### dicts from int tuples to ints -/
abbrev kTI' (l : List Int) : List L2.Key := l.map .inl
theorem kTI_inj' : ∀ {a b : List Int}, kTI' a = kTI' b → a = b
  | [], [], _ => rfl
  | [], _ :: _, h => by cases h
  | _ :: _, [], h => by cases h
  | x :: a, y :: b, h => by
    obtain ⟨h1, h2⟩ := List.cons.inj h
    rw [kTI_inj' h2, Sum.inl.inj h1]
abbrev TM := List (List Int × Int)
abbrev encT (M : TM) : List (List L2.Key × D) := M.map fun q => (kTI' q.1, D.int q.2)
def getT : TM → List Int → Option Int
  | [], _ => none
  | q :: M, k => if q.1 = k then some q.2 else getT M k
def putT : TM → List Int → Int → TM
  | [], k, v => [(k, v)]
  | q :: M, k, v => if q.1 = k then (k, v) :: M else q :: putT M k v
theorem dget_encT {k : List Int} : ∀ {M : TM}, dget (encT M) (kTI' k) = (getT M k).map D.int
  | [] => rfl
  | q :: M => by
    unfold dget encT getT
    rw [List.map_cons, List.find?_cons]
    by_cases c : q.1 = k
    · rw [if_pos c, decide_eq_true (show (kTI' q.1, D.int q.2).1 = kTI' k by rw [c])]; rfl
    · rw [if_neg c, decide_eq_false (fun z => c (kTI_inj' z))]
      exact dget_encT (M := M)
theorem dput_ne {κ : Type} [DecidableEq κ] {a : κ × D} {l : List (κ × D)} {k : κ} {d : D} (h : a.1 ≠ k) : dput (a :: l) k d = a :: dput l k d := by
  unfold dput
  rw [List.any_cons, decide_eq_false h, Bool.false_or, List.map_cons, if_neg h]
  by_cases c : (l.any fun kv => decide (kv.1 = k)) = true
  · rw [if_pos c, if_pos c]
  · rw [if_neg c, if_neg c]; rfl
theorem dput_eq {κ : Type} [DecidableEq κ] {a : κ × D} {l : List (κ × D)} {k : κ} {d : D} (h : a.1 = k) (hn : ∀ q ∈ l, q.1 ≠ k) : dput (a :: l) k d = (a.1, d) :: l := by
  unfold dput
  rw [List.any_cons, decide_eq_true h, Bool.true_or, if_pos rfl, List.map_cons, if_pos h]
  congr 1
  exact (List.map_congr_left (g := id) fun q hq => if_neg (hn q hq)).trans (List.map_id _)
theorem dput_encT {k : List Int} {v : Int} : ∀ {M : TM}, (M.map (·.1)).Nodup → dput (encT M) (kTI' k) (.int v) = encT (putT M k v)
  | [], _ => rfl
  | q :: M, hn => by
    obtain ⟨h1, h2⟩ := List.nodup_cons.mp (show (q.1 :: M.map (·.1)).Nodup from hn)
    unfold putT
    by_cases c : q.1 = k
    · rw [if_pos c]
      show dput ((kTI' q.1, D.int q.2) :: encT M) (kTI' k) (.int v) = _
      rw [dput_eq (show kTI' q.1 = kTI' k by rw [c]) (fun x hx e => ?_)]
      · show (kTI' q.1, D.int v) :: _ = (kTI' k, D.int v) :: _
        rw [c]
      · obtain ⟨y, hy, rfl⟩ := List.mem_map.mp hx
        exact h1 (List.mem_map.mpr ⟨y, hy, by rw [c]; exact kTI_inj' e⟩)
    · rw [if_neg c]
      show dput ((kTI' q.1, D.int q.2) :: encT M) (kTI' k) (.int v) = _
      rw [dput_ne (fun z => c (kTI_inj' z)), dput_encT h2]; rfl
theorem vsmF_T {M : TM} : vsmF (.dit (encT M)) = some (M.map (·.2)).sum := by
  show (toInts ((encT M).map (·.2))).map List.sum = _
  rw [List.map_map, show ((fun x : List L2.Key × D => x.2) ∘ fun q : List Int × Int => (kTI' q.1, D.int q.2)) = D.int ∘ (·.2) from rfl, ← List.map_map, toInts_map]; rfl
theorem putT_keys {k : List Int} {v : Int} : ∀ {M : TM}, (putT M k v).map (·.1) = if k ∈ M.map (·.1) then M.map (·.1) else M.map (·.1) ++ [k]
  | [] => rfl
  | q :: M => by
    unfold putT
    by_cases c : q.1 = k
    · rw [if_pos c, if_pos (by rw [List.map_cons, c]; exact List.mem_cons_self), List.map_cons, List.map_cons, c]
    · rw [if_neg c, List.map_cons, putT_keys (M := M), List.map_cons]
      by_cases h : k ∈ M.map (·.1)
      · rw [if_pos h, if_pos (List.mem_cons_of_mem _ h)]
      · rw [if_neg h, if_neg (fun z => (List.mem_cons.mp z).elim (fun y => c y.symm) h)]; rfl
theorem putT_nd {k : List Int} {v : Int} {M : TM} (h : (M.map (·.1)).Nodup) : ((putT M k v).map (·.1)).Nodup := by
  rw [putT_keys]
  by_cases c : k ∈ M.map (·.1)
  · rw [if_pos c]; exact h
  · rw [if_neg c]
    exact List.nodup_append.mpr ⟨h, List.nodup_cons.mpr ⟨List.not_mem_nil, List.nodup_nil⟩, fun a ha b hb e => c (by rw [List.mem_singleton.mp hb] at e; rw [← e]; exact ha)⟩
/-- what the values come to, each taken V times -/
def svT (V : List Int → Int) (M : TM) : Int := (M.map fun q => q.2 * V q.1).sum
theorem svT_put {V : List Int → Int} {k : List Int} {v : Int} : ∀ {M : TM}, svT V (putT M k v) = svT V M + (v - (getT M k).getD 0) * V k
  | [] => by
    show v * V k + 0 = 0 + (v - 0) * V k
    rw [Int.sub_zero, Int.add_zero, Int.zero_add]
  | q :: M => by
    unfold putT getT
    by_cases c : q.1 = k
    · rw [if_pos c, if_pos c]
      show v * V k + svT V M = q.2 * V q.1 + svT V M + (v - q.2) * V k
      rw [c, Int.sub_mul]; omega
    · rw [if_neg c, if_neg c]
      have h := svT_put (V := V) (k := k) (v := v) (M := M)
      show q.2 * V q.1 + svT V (putT M k v) = q.2 * V q.1 + svT V M + _
      rw [h]; omega
end DL

namespace k83
open PySem PySem.Spec PyProof.Rows L2 DL
/-! ### meanings -/
def tabT : Nat → Option Bool := fun c => if c = 9 then some false else none
def tabC_Kinds : Nat → Option Bool := fun c => if c = 9 then some true else none
def eqCl : List Nat := [9]
def eqNf : Nat → Nat → Bool := fun c k => (c == 9 && k == 9)
def s_is_integer : G :=
    (gret (ov (vand (m1 (isiB "int" tabT) (rd 0)) (vnot (m1 (isiB "bool" tabT) (rd 0))))))
def fn_is_integer : Fn := runD 1 1 [] s_is_integer
def s_is_within : G :=
    (gret (ov (vand (fz (mcl fn_is_integer 1 (acons (rd 0) anil))) (pu (pch leD leD (pd 1) (pd 0) (pd 2))))))
def fn_is_within : Fn := runD 3 3 [] s_is_within
def C1e_are_ascending : M D := (pu (p2 ltD (pd 1) (pd 2)))
def s_are_ascending : G :=
    (gret (mcb (fun ds => (allB ds).map fun d => .fd (.val d)) (acons (fz (mlc 3 [1, 2] (itZ (acons (rd 0) (acons (msl (rd 0) (ptI (pc (.int 1))) (fun _ => some none)) anil))) (tgt (tgc (tgn 1) (tgc (tgn 2) tgz))) (mr true) C1e_are_ascending)) anil)))
def fn_are_ascending : Fn := runD 1 3 [] s_are_ascending
def C1e_is_lot_of : M D := (fz (mcl fn_is_within 3 (acons (rd 2) (acons (pu (pc (.int 0))) (acons (pu (p2 subD (pd 1) (pc (.int 1)))) anil)))))
def s_is_lot_of : G :=
    (gseq (gif (mor (mnot (tst (m1 (isiB "tuple" tabT) (rd 0)))) (mnot (tst (fz (mcb (fun ds => (allB ds).map fun d => .fd (.val d)) (acons (fz (mlc 3 [2] (itA (rd 0)) (tgn 2) (mr true) C1e_is_lot_of)) anil)))))) (gret (ov (pu (pc (.bl false))))) gnx)
    (gret (mcl fn_are_ascending 1 (acons (rd 0) anil))))
def fn_is_lot_of : Fn := runD 2 3 [] s_is_lot_of
def s_check_number : G :=
    (gif (mnot (tst (fz (mcl fn_is_within 3 (acons (rd 0) (acons (rd 1) (acons (rd 2) anil))))))) (graise 31) (gnoE gnx))
def fn_check_number : Fn := runD 3 3 [] s_check_number
def s_check_many : G :=
    (gif (put (tq (p2 gtD (pd 0) (pd 1)))) (graiseF 32 "most" (rd 1)) (gnoE gnx))
def fn_check_many : Fn := runD 2 2 [] s_check_many
def C1e_are_counts : M D := (fz (mcl fn_is_within 3 (acons (rd 2) (acons (rd 1) (acons (pu (pc (.int 1000000000000000000000000000000))) anil)))))
def s_are_counts : G :=
    (gseq (gif (mor (mnot (tst (m1 (isiB "tuple" tabT) (rd 0)))) (mnot (put (tq (pch leD leD (pc (.int 1)) (plen (px 0)) (pc (.int 8))))))) (gret (ov (pu (pc (.bl false))))) gnx)
    (gret (mcb (fun ds => (allB ds).map fun d => .fd (.val d)) (acons (fz (mlc 3 [2] (itA (rd 0)) (tgn 2) (mr true) C1e_are_counts)) anil))))
def fn_are_counts : Fn := runD 2 3 [] s_are_counts
def C1e_Kinds___init__ : M D := (fz (mcl fn_is_lot_of 2 (acons (rd 4) (acons (pu (plen (px 2))) anil))))
def s_Kinds___init__ : G :=
    (gseq (gif (mnot (tst (fz (mcl fn_are_counts 2 (acons (rd 1) (acons (pu (pc (.int 0))) anil)))))) (fun _ => none) gnx)
    (gseq (gif (mnot (tst (fz (mcl fn_are_counts 2 (acons (rd 2) (acons (pu (pc (.int 0))) anil)))))) (fun _ => none) gnx)
    (gseq (gif (mor (mnot (tst (m1 (isiB "tuple" tabT) (rd 3)))) (tst (m2 neD (pu (plen (px 3))) (pu (plen (px 1)))))) (fun _ => none) gnx)
    (gseq (gif (mnot (tst (fz (mcb (fun ds => (allB ds).map fun d => .fd (.val d)) (acons (fz (mlc 5 [4] (itA (rd 3)) (tgn 4) (mr true) C1e_Kinds___init__)) anil))))) (fun _ => none) gnx)
    (gseq (gif (tst (m2 neD (fz (mcb (fun ds => (sumB ds).map fun d => .fd (.val d)) (acons (rd 1) anil))) (fz (mcb (fun ds => (sumB ds).map fun d => .fd (.val d)) (acons (rd 2) anil))))) (fun _ => none) gnx)
    (gseq (gfs 0 "people" [9] (ov (rd 1)))
    (gseq (gfs 0 "things" [9] (ov (rd 2)))
    (gfs 0 "allowed" [9] (ov (rd 3))))))))))
def fn_Kinds___init__ : Fn := runD 4 5 [0] s_Kinds___init__
def s_Kinds___eq__ : G :=
    (gseq (gif (mnot (tst (m1 (isiC tabC_Kinds) (rd 1)))) (gret (ov (pu (pc (.bl false))))) gnx)
    (gret (ov (m2 eqD (mtup (acons (pu (pdf 0 "people")) (acons (pu (pdf 0 "things")) (acons (pu (pdf 0 "allowed")) anil)))) (mtup (acons (pu (pdf 1 "people")) (acons (pu (pdf 1 "things")) (acons (pu (pdf 1 "allowed")) anil))))))))
def fn_Kinds___eq__ : Fn := runD 2 2 [0] s_Kinds___eq__
def L1_spread_out : G :=
    (gex (mme 1 extT (acons (m2 mulL (fz (mlst (acons (rd 2) anil))) (rd 3)) anil)))
def s_spread_out : G :=
    (gseq (gst 1 (mlst anil))
    (gseq (gfor (itEA (rd 0)) (tgt (tgc (tgn 2) (tgc (tgn 3) tgz))) L1_spread_out)
    (gret (mv 1))))
def fn_spread_out : Fn := runD 1 4 [] s_spread_out
def s_one_less : G :=
    (gret (ov (m2 addD (m2 addD (msl (rd 0) (fun _ => some none) (ptI (pd 1))) (mtup (acons (pu (p2 subD (pix (px 0) (pd 1)) (pc (.int 1)))) anil))) (msl (rd 0) (ptI (p2 addI (pd 1) (pc (.int 1)))) (fun _ => some none)))))
def fn_one_less : Fn := runD 2 2 [] s_one_less
def L2_after_person : G :=
    (gif (put (tq (p2 gtD (pix (px 5) (pd 7)) (pc (.int 0))))) (gseq (gst 8 (mcl fn_one_less 2 (acons (rd 5) (acons (rd 7) anil))))
    (gdp 4 (rd 8) (m2 modD (m2 addD (mdg2 4 (rd 8) (pu (pc (.int 0)))) (pu (p2 mulD (pd 6) (pix (px 5) (pd 7))))) (rd 3)))) gnx)
def L1_after_person : G :=
    (gfor (itA (pu (pix (pxf 0 "allowed") (pd 1)))) (tgn 7) L2_after_person)
def s_after_person : G :=
    (gseq (gst 4 (mr (.fd (.dit []))))
    (gseq (gforT 2 (tgt (tgc (tgn 5) (tgc (tgn 6) tgz))) L1_after_person)
    (gret (mv 4))))
def fn_after_person : Fn := runD 4 9 [] s_after_person
def L1_kinds_many : G :=
    (gst 4 (mcl fn_after_person 4 (acons (rd 0) (acons (rd 5) (acons (rdl 4) (acons (rd 1) anil))))))
def L2_kinds_many : G :=
    (gaug 2 mulD (pu (p2 addI (pd 3) (pc (.int 1)))))
def s_kinds_many : G :=
    (gseq (gexX fn_check_number 3 (acons (rd 1) (acons (pu (pc (.int 1))) (acons (pu (pc (.int 1000000000000000000000000000000))) anil))))
    (gseq (gexX fn_check_many 2 (acons (fz (mcb (fun ds => (sumB ds).map fun d => .fd (.val d)) (acons (pu (pdf 0 "people")) anil))) (acons (pu (pc (.int 60))) anil)))
    (gseq (gnoE (gst 2 (ov (pu (pc (.int 1))))))
    (gseq (gnoE (gfor (itA (pu (pdf 0 "things"))) (tgn 3) L2_kinds_many))
    (gseq (gexX fn_check_many 2 (acons (rd 2) (acons (pu (pc (.int 5000))) anil)))
    (gnoE (gseq (gst 4 (mdd (pu (pdf 0 "things")) (pu (p2 modD (pc (.int 1)) (pd 1)))))
    (gseq (gfor (itA (fz (mcl fn_spread_out 1 (acons (pu (pdf 0 "people")) anil)))) (tgn 5) L1_kinds_many)
    (gret (ov (pu (p2 modD (pvsm (px 4)) (pd 1)))))))))))))
def fn_kinds_many : Fn := runD 2 6 [] s_kinds_many
def s_check_sizes : G :=
    (gif (mnot (tst (fz (mcl fn_are_counts 2 (acons (rd 0) (acons (pu (pc (.int 1))) anil)))))) (graise 34) (gnoE gnx))
def fn_check_sizes : Fn := runD 1 1 [] s_check_sizes
def C1t_families : M Bool := (tst (m2 neD (rd 2) (rd 3)))
def C1e_families : M D := (rd 2)
def C2e_families : M D := (m1 tupB (fz (mlc 4 [2] (itA (rd 1)) (tgn 2) C1t_families C1e_families)))
def s_families : G :=
    (gseq (gexX fn_check_sizes 1 (acons (rd 0) anil))
    (gnoE (gseq (gst 1 (mlrg (rg1 (pu (plen (px 0))))))
    (gret (mmk 9 fn_Kinds___init__ 4 (acons (rd 0) (acons (rd 0) (acons (m1 tupB (fz (mlc 4 [3] (itA (rd 1)) (tgn 3) (mr true) C2e_families))) anil))))))))
def fn_families : Fn := runD 1 4 [] s_families
def L1_own_names : G :=
    (gex (mme 1 appL (acons (pu (p2 divD (p2 mulD (p2 mulD (pix (px 1) (p1 negD (pc (.int 1)))) (p2 subD (pd 0) (pd 2))) (p2 subD (pd 0) (pd 2))) (p2 addI (pd 2) (pc (.int 1))))) anil)))
def s_own_names : G :=
    (gseq (gst 1 (mlst (acons (pu (pc (.int 1))) anil)))
    (gseq (gfor (itR1 (rd 0)) (tgn 2) L1_own_names)
    (gret (mv 1))))
def fn_own_names : Fn := runD 1 3 [] s_own_names
def L3_families_many : G :=
    (gsau 5 (p2 addI (pd 6) (pd 8)) (p2 mulW (pd 7) (pd 9)))
def L2_families_many : G :=
    (gfor (itEA (rd 4)) (tgt (tgc (tgn 8) (tgc (tgn 9) tgz))) L3_families_many)
def L1_families_many : G :=
    (gseq (gst 4 (mcl fn_own_names 1 (acons (rd 3) anil)))
    (gseq (gst 5 (mmul (fz (mlst (acons (pu (pc (.int 0))) anil))) (pu (p2 addI (plen (px 2)) (pd 3)))))
    (gseq (gfor (itEA (rd 2)) (tgt (tgc (tgn 6) (tgc (tgn 7) tgz))) L2_families_many)
    (gst 2 (ov (rd 5))))))
def L4_families_many : G :=
    (gseq (gst 13 (ov (pu (p2 subD (p2 subD (plen (px 2)) (pc (.int 1))) (pd 12)))))
    (gseq (gaug 10 (liI fun i j => .int (i + j)) (mif (tst (m2 eqD (pu (p2 modD (pd 13) (pc (.int 2)))) (pu (pc (.int 0))))) (pu (p2 mulW (pix (px 2) (pd 13)) (pd 11))) (pu (p2 mulW (p1 negD (pix (px 2) (pd 13))) (pd 11)))))
    (gaug 11 mulD (pu (p2 addI (pd 12) (pc (.int 1)))))))
def s_families_many : G :=
    (gseq (gexX fn_check_sizes 1 (acons (rd 0) anil))
    (gseq (gexX fn_check_number 3 (acons (rd 1) (acons (pu (pc (.int 1))) (acons (pu (pc (.int 1000000000000000000000000000000))) anil))))
    (gseq (gexX fn_check_many 2 (acons (fz (mcb (fun ds => (sumB ds).map fun d => .fd (.val d)) (acons (rd 0) anil))) (acons (pu (pc (.int 400))) anil)))
    (gnoE (gseq (gst 2 (mlst (acons (pu (pc (.int 1))) anil)))
    (gseq (gfor (itA (rd 0)) (tgn 3) L1_families_many)
    (gseq (gst 10 (ov (pu (pc (.int 0)))))
    (gseq (gst 11 (ov (pu (pc (.int 1)))))
    (gseq (gfor (itR1 (pu (plen (px 2)))) (tgn 12) L4_families_many)
    (gret (ov (pu (p2 modD (pd 10) (pd 1))))))))))))))
def fn_families_many : Fn := runD 2 14 [] s_families_many
def L1__law_pool : G :=
    (gst 1 (ov (pu (p2 modD (p1 int1D (p2 addI (p2 addI (p2 mulD (pd 1) (pc (.int 48271))) (p2 modD (p1 int1D (pd 2)) (pc (.int 2147483629)))) (pc (.int 11)))) (pc (.int 2147483647))))))
def C1t__law_pool : M Bool := (tst (m2 geD (fz (mcb (fun ds => (absB ds).map fun d => .fd (.val d)) (acons (rd 2) anil))) (pu (p2 powD (pc (.int 10)) (pc (.int 18))))))
def C1e__law_pool : M D := (fz (mcb (fun ds => (absB ds).map fun d => .fd (.val d)) (acons (rd 2) anil)))
def s__law_pool : G :=
    (gseq (gst 1 (ov (m2 addD (m2 addD (m2 modD (m1 int1D (fz (mcb (fun ds => (sumB ds).map fun d => .fd (.val d)) (acons (msl (rd 0) (fun _ => some none) (ptI (pc (.int 1)))) anil)))) (pu (pc (.int 1000003)))) (pu (plen (px 0)))) (pu (pc (.int 1))))))
    (gseq (gfor (itA (msl (rd 0) (fun _ => some none) (ptI (pc (.int 63))))) (tgn 2) L1__law_pool)
    (gret (mplst (rd 1) (pu (pc (.int 0))) (mlc 3 [2] (itA (msl (rd 0) (fun _ => some none) (ptI (pc (.int 63))))) (tgn 2) C1t__law_pool C1e__law_pool)))))
def fn__law_pool : Fn := runD 1 3 [] s__law_pool
def L1__law_draw : G :=
    (gseq (gst 3 (ov (pu (p2 modD (p1 int1D (pix (px 2) (pc (.int 0)))) (pd 1)))))
    (gseq (gsi 2 (pc (.int 0)) (pu (p2 divD (p1 int1D (pix (px 2) (pc (.int 0)))) (pd 1))))
    (gseq (gif (tst (m2 eqD (pu (pix (px 2) (pc (.int 0)))) (pu (pc (.int 0))))) (gex (mme 2 popL (acons (pu (pc (.int 0))) anil))) gnx)
    (gret (mv 3)))))
def s__law_draw : G :=
    (gseq (gsiP 0 (pc (.int 1)) (pu (p2 addI (pixP 0 (pc (.int 1))) (pc (.int 1)))))
    (gal 0 2 2 (put (tq (p2 gtD (plen (px 2)) (pc (.int 0))))) L1__law_draw
    (gseq (gst 4 (ov (pu (p2 modD (p1 int1D (p2 mulD (p2 addI (pixP 0 (pc (.int 0))) (p2 mulD (pc (.int 7919)) (pixP 0 (pc (.int 1))))) (pc (.int 48271)))) (pc (.int 2147483647))))))
    (gseq (gst 4 (ov (pu (p2 modD (p1 int1D (p2 mulD (pd 4) (p2 addI (p2 divD (pd 4) (pc (.int 1009))) (pc (.int 69621))))) (pc (.int 2147483647))))))
    (gseq (gst 4 (ov (pu (p2 modD (p1 int1D (p2 mulD (pd 4) (p2 addI (p2 divD (pd 4) (pc (.int 2003))) (pc (.int 40692))))) (pc (.int 2147483399))))))
    (gret (ov (pu (p2 modD (p1 int1D (p2 divD (pd 4) (pc (.int 16)))) (pd 1))))))))))
def fn__law_draw : Fn := runD 2 5 [0] s__law_draw
def C1e__law_mixed : M D := (mme 2 popL (acons (fz (mcb1 0 fn__law_draw 2 (acons (pu (plen (px 2))) anil))) anil))
def s__law_mixed : G :=
    (gseq (gst 2 (mcb listB (acons (rd 1) anil)))
    (gret (mlc 4 [3] (itR1 (pu (plen (px 2)))) (tgn 3) (mr true) C1e__law_mixed)))
def fn__law_mixed : Fn := runD 2 4 [0] s__law_mixed
def C1t__law_all : M Bool := (put (tq (pin true (pd 5) (px 4))))
def C1e__law_all : M D := (m2 addD (rd 4) (mtup (acons (rd 5) anil)))
def L2__law_all : G :=
    (gex (mme 3 extT (acons (fz (mlc 6 [5] (itA (rd 2)) (tgn 5) C1t__law_all C1e__law_all)) anil)))
def L1__law_all : G :=
    (gseq (gst 3 (mlst anil))
    (gseq (gfor (itA (rd 1)) (tgn 4) L2__law_all)
    (gst 1 (ov (rd 3)))))
def s__law_all : G :=
    (gseq (gst 1 (mlst (acons (mtup anil) anil)))
    (gseq (gfor (itA (rd 0)) (tgn 2) L1__law_all)
    (gret (mcb sortTZ (acons (rd 1) anil)))))
def fn__law_all : Fn := runD 1 6 [] s__law_all
def L1__law_deep : G :=
    (gst 0 (ov (mtup (acons (rd 0) anil))))
def s__law_deep : G :=
    (gseq (gst 0 (ov (mtup (acons (pu (pc (.int 0))) (acons (pu (pc (.int 0))) anil)))))
    (gseq (gfor (itR1 (pu (pc (.int 35)))) (tgn 1) L1__law_deep)
    (gret (mv 0))))
def fn__law_deep : Fn := runD 0 2 [] s__law_deep
def L1__law_wide : G :=
    (gst 1 (ov (m2 addD (rd 1) (m2 mulL (fz (mlst (acons (rd 2) anil))) (pu (pix (px 0) (pd 2)))))))
def s__law_wide : G :=
    (gseq (gst 1 (mlst anil))
    (gseq (gfor (itR1 (pu (plen (px 0)))) (tgn 2) L1__law_wide)
    (gret (mv 1))))
def fn__law_wide : Fn := runD 1 3 [] s__law_wide
def C1t__law_kind_rows : M Bool := (put (tq (pin false (pix (px 3) (pd 4)) (pval (pix (px 2) (pd 5))))))
def C1e__law_kind_rows : M D := (rd 4)
def C2e__law_kind_rows : M D := (m1 tupB (fz (mlc 6 [4] (itR1 (pu (plen (px 3)))) (tgn 4) C1t__law_kind_rows C1e__law_kind_rows)))
def s__law_kind_rows : G :=
    (gseq (gst 3 (mcl fn__law_wide 1 (acons (rd 1) anil)))
    (gret (ov (m1 tupB (fz (mlc 6 [5] (itA (fz (mcl fn__law_wide 1 (acons (rd 0) anil)))) (tgn 5) (mr true) C2e__law_kind_rows))))))
def fn__law_kind_rows : Fn := runD 3 6 [] s__law_kind_rows
def L1__law_orders : G :=
    (gst 2 (ov (pu (p2 modD (p1 int1D (p2 mulD (pd 2) (pd 3))) (pd 1)))))
def s__law_orders : G :=
    (gseq (gst 2 (ov (pu (p2 modD (p1 int1D (pc (.int 1))) (pd 1)))))
    (gseq (gfor (itR2 (pu (pc (.int 2))) (pu (p2 addI (pd 0) (pc (.int 1))))) (tgn 3) L1__law_orders)
    (gret (mv 2))))
def fn__law_orders : Fn := runD 2 4 [] s__law_orders
def s__law_said : G :=
    (gseq (gst 2 (ov (pu (pc .non))))
    (gseq (gtryN [31, 32, 34] (gstE 2 (mxc fn_families_many 2 (acons (rd 0) (acons (rd 1) anil)))) [([34], fun _ => (gst 2 (ov (pu (pc (.str "sizes")))))), ([31], fun _ => (gst 2 (ov (pu (pc (.str "number")))))), ([32], gfld 3 2 "most" (fun d => .tup [(.str "many"), d])), ([31, 32, 34], fun _ => (gst 2 (ov (pu (pc (.str "other"))))))])
    (gret (mv 2))))
def fn__law_said : Fn := runD 2 4 [] s__law_said
def C1e__law_half_right : M D := (m2 addD (pu (pc (.int 1))) (fz (mcb1 0 fn__law_draw 2 (acons (pu (pc (.int 60))) anil))))
def s__law_half_right : G :=
    (gseq (gst 2 (mlc 6 [3] (itR1 (m2 addD (pu (pc (.int 1))) (fz (mcb1 0 fn__law_draw 2 (acons (pu (pc (.int 3))) anil))))) (tgn 3) (mr true) C1e__law_half_right))
    (gseq (gst 4 (ov (m1 tupB (fz (mcb1 0 fn__law_mixed 2 (acons (m2 addD (rd 2) (fz (mlst (acons (fz (mcb (fun ds => (sumB ds).map fun d => .fd (.val d)) (acons (rd 2) anil))) anil)))) anil))))))
    (gseq (gst 5 (mcl fn__law_orders 2 (acons (fz (mcb (fun ds => (sumB ds).map fun d => .fd (.val d)) (acons (rd 2) anil))) (acons (rd 1) anil))))
    (gseq (gif (tst (m2 neD (fz (mcl fn__law_said 2 (acons (rd 4) (acons (rd 1) anil)))) (pu (p2 modD (p1 int1D (p2 mulW (pd 5) (pd 5))) (pd 1))))) (gret (ov (pu (pc (.bl false))))) gnx)
    (gret (ov (mif (tst (m2 ltD (m2 mulD (pu (pc (.int 4))) (fz (mcb (fun ds => (sumB ds).map fun d => .fd (.val d)) (acons (rd 2) anil)))) (pu (pc (.int 400))))) (m2 eqD (fz (mcl fn__law_said 2 (acons (m2 addD (rd 4) (mtup (acons (m2 addD (pu (pc (.int 1))) (m2 mulD (pu (pc (.int 2))) (fz (mcb (fun ds => (sumB ds).map fun d => .fd (.val d)) (acons (rd 2) anil))))) anil))) (acons (rd 1) anil)))) (pu (pc (.int 0)))) (pu (pc (.bl true))))))))))
def fn__law_half_right : Fn := runD 2 6 [0] s__law_half_right
def L2__law_by_signs : G :=
    (gex (mme 3 appL (acons (pu (p2 divD (p2 mulD (p2 mulD (pix (px 3) (pd 4)) (p2 subD (pd 2) (pd 4))) (p2 subD (pd 2) (pd 4))) (p2 addI (pd 4) (pc (.int 1))))) anil)))
def L4__law_by_signs : G :=
    (gsi 5 (p2 addI (pd 4) (pd 6)) (m2 addD (pu (pix (px 5) (p2 addI (pd 4) (pd 6)))) (pu (p2 mulW (pix (px 1) (pd 4)) (pix (px 3) (pd 6))))))
def L3__law_by_signs : G :=
    (gfor (itR1 (pu (plen (px 3)))) (tgn 6) L4__law_by_signs)
def L1__law_by_signs : G :=
    (gseq (gst 3 (mlst (acons (pu (pc (.int 1))) anil)))
    (gseq (gfor (itR1 (rd 2)) (tgn 4) L2__law_by_signs)
    (gseq (gst 5 (mmul (fz (mlst (acons (pu (pc (.int 0))) anil))) (pu (p2 addI (plen (px 1)) (pd 2)))))
    (gseq (gfor (itR1 (pu (plen (px 1)))) (tgn 4) L3__law_by_signs)
    (gst 1 (ov (rd 5)))))))
def L5__law_by_signs : G :=
    (gseq (gst 10 (ov (pu (p2 subD (p2 subD (plen (px 1)) (pc (.int 1))) (pd 9)))))
    (gseq (gst 7 (ov (m2 addD (rd 7) (m2 mulW (m2 mulD (mix (fz (mlst (acons (pu (pc (.int 1))) (acons (pu (p1 negD (pc (.int 1)))) anil)))) (pu (p2 modD (p1 int1D (pd 10)) (pc (.int 2))))) (pu (pix (px 1) (pd 10)))) (rd 8)))))
    (gst 8 (ov (pu (p2 mulD (pd 8) (p2 addI (pd 9) (pc (.int 1)))))))))
def s__law_by_signs : G :=
    (gseq (gst 1 (mlst (acons (pu (pc (.int 1))) anil)))
    (gseq (gfor (itA (rd 0)) (tgn 2) L1__law_by_signs)
    (gseq (gst 7 (ov (pu (pc (.int 0)))))
    (gseq (gst 8 (ov (pu (pc (.int 1)))))
    (gseq (gfor (itR1 (pu (plen (px 1)))) (tgn 9) L5__law_by_signs)
    (gret (mv 7)))))))
def fn__law_by_signs : Fn := runD 1 11 [] s__law_by_signs
def C1e__law_many_right : M D := (m2 addD (pu (pc (.int 1))) (fz (mcb1 0 fn__law_draw 2 (acons (pu (pc (.int 12))) anil))))
def C2e__law_many_right : M D := (m2 addD (pu (pc (.int 1))) (fz (mcb1 0 fn__law_draw 2 (acons (pu (pc (.int 10))) anil))))
def s__law_many_right : G :=
    (gseq (gst 1 (ov (m1 tupB (fz (mlc 5 [2] (itR1 (m2 addD (pu (pc (.int 3))) (fz (mcb1 0 fn__law_draw 2 (acons (pu (pc (.int 6))) anil))))) (tgn 2) (mr true) C1e__law_many_right)))))
    (gseq (gst 3 (ov (m2 addD (pu (pc (.int 1))) (fz (mcb1 0 fn__law_draw 2 (acons (pu (p2 powD (pc (.int 10)) (pc (.int 30)))) anil))))))
    (gseq (gif (tst (m2 neD (fz (mcl fn__law_said 2 (acons (rd 1) (acons (rd 3) anil)))) (m2 modD (m1 int1D (fz (mcl fn__law_by_signs 1 (acons (rd 1) anil)))) (rd 3)))) (gret (ov (pu (pc (.bl false))))) gnx)
    (gseq (gst 4 (ov (m1 tupB (fz (mlc 5 [2] (itR1 (pu (pc (.int 3)))) (tgn 2) (mr true) C2e__law_many_right)))))
    (gret (ov (m2 eqD (fz (mcl (noX fn_kinds_many) 2 (acons (fz (mcl (noX fn_families) 1 (acons (rd 4) anil))) (acons (rd 3) anil)))) (fz (mcl fn__law_said 2 (acons (rd 4) (acons (rd 3) anil)))))))))))
def fn__law_many_right : Fn := runD 1 5 [0] s__law_many_right
def C1e_law : M D := (m2 addD (pu (pc (.int 1))) (fz (mcb1 1 fn__law_draw 2 (acons (pu (pc (.int 3))) anil))))
def C2t_law : M Bool := (tst (m2 (neA eqCl eqNf fn_Kinds___eq__) (rd 6) (rd 4)))
def C2e_law : M D := (rd 6)
def C3e_law : M D := (m1 tupB (fz (mlc 12 [6] (itR1 (pu (plen (px 3)))) (tgn 6) C2t_law C2e_law)))
def L1_law : G :=
    (gseq (gst 3 (ov (m1 tupB (fz (mlc 12 [4] (itR1 (m2 addD (pu (pc (.int 1))) (fz (mcb1 1 fn__law_draw 2 (acons (pu (pc (.int 3))) anil))))) (tgn 4) (mr true) C1e_law)))))
    (gseq (gif (tst (m2 (eqA eqCl eqNf fn_Kinds___eq__) (fz (mcb1 1 fn__law_draw 2 (acons (pu (pc (.int 3))) anil))) (pu (pc (.int 0))))) (gst 3 (ov (m2 mulT (mtup (acons (pu (pc (.int 1))) anil)) (m2 addD (pu (pc (.int 1))) (fz (mcb1 1 fn__law_draw 2 (acons (pu (pc (.int 6))) anil))))))) gnx)
    (gif (tst (m2 ltD (fz (mcb (fun ds => (sumB ds).map fun d => .fd (.val d)) (acons (rd 3) anil))) (pu (pc (.int 7))))) (gseq (gst 5 (ov (m1 tupB (fz (mlc 12 [4] (itR1 (pu (plen (px 3)))) (tgn 4) (mr true) C3e_law)))))
    (gseq (gst 7 (ov (m1 (fun d => lenF (.val d)) (fz (mcl fn__law_all 1 (acons (fz (mcl fn__law_kind_rows 3 (acons (rd 3) (acons (rd 3) (acons (rd 5) anil))))) anil))))))
    (gseq (gst 8 (ov (mix (fz (mlst (acons (pu (pc (.int 1))) (acons (pu (pc (.int 2))) (acons (pu (p2 powD (pc (.int 10)) (pc (.int 30)))) (acons (m2 addD (pu (pc (.int 1))) (fz (mcb1 1 fn__law_draw 2 (acons (pu (pc (.int 1000))) anil)))) anil)))))) (fz (mcb1 1 fn__law_draw 2 (acons (pu (pc (.int 4))) anil))))))
    (gseq (gst 9 (mcl fn__law_said 2 (acons (rd 3) (acons (rd 8) anil))))
    (gif (mor (tst (m2 (neA eqCl eqNf fn_Kinds___eq__) (rd 9) (pu (p2 modD (p1 int1D (pd 7)) (pd 8))))) (tst (m1 (isiB "bool" tabT) (rd 9)))) (gret (ov (pu (pc (.bl false))))) gnx))))) gnx)))
def s_law : G :=
    (gseq (gst 1 (mcl fn__law_pool 1 (acons (rd 0) anil)))
    (gseq (gif (mand (tst (m2 (eqA eqCl eqNf fn_Kinds___eq__) (fz (mcb1 1 fn__law_draw 2 (acons (pu (pc (.int 6))) anil))) (pu (pc (.int 0))))) (mnot (tst (fz (mcb1 1 fn__law_many_right 1 anil))))) (gret (ov (pu (pc (.bl false))))) gnx)
    (gseq (gfor (itR1 (pu (pc (.int 3)))) (tgn 2) L1_law)
    (gseq (gif (mand (tst (m2 (eqA eqCl eqNf fn_Kinds___eq__) (fz (mcb1 1 fn__law_draw 2 (acons (pu (pc (.int 4))) anil))) (pu (pc (.int 0))))) (mnot (tst (fz (mcb1 1 fn__law_half_right 2 (acons (m2 addD (pu (pc (.int 1))) (fz (mcb1 1 fn__law_draw 2 (acons (pu (p2 powD (pc (.int 10)) (pc (.int 30)))) anil)))) anil)))))) (gret (ov (pu (pc (.bl false))))) gnx)
    (gseq (gst 10 (ov (mix (fz (mlst (acons (pu (pc (.int 0))) (acons (pu (p1 negD (pc (.int 1)))) (acons (pu (p2 addI (p2 powD (pc (.int 10)) (pc (.int 30))) (pc (.int 1)))) (acons (pu (pc .non)) (acons (pu (pc (.bl true))) (acons (pu (pc (.str "7"))) (acons (mtup (acons (pu (pc (.int 7))) anil)) (acons (fz (mcl fn__law_deep 0 anil)) anil)))))))))) (fz (mcb1 1 fn__law_draw 2 (acons (pu (pc (.int 8))) anil))))))
    (gseq (gst 11 (ov (mix (fz (mlst (acons (pu (pc .non)) (acons (mtup anil) (acons (fz (mlst (acons (pu (pc (.int 1))) (acons (pu (pc (.int 1))) anil)))) (acons (mtup (acons (pu (pc (.int 0))) (acons (pu (pc (.int 1))) anil))) (acons (mtup (acons (pu (pc (.bl true))) (acons (pu (pc (.int 1))) anil))) (acons (m2 mulT (mtup (acons (pu (pc (.int 1))) anil)) (pu (pc (.int 9)))) (acons (pu (pc (.int 0))) (acons (pu (pc (.str "11"))) (acons (fz (mcl fn__law_deep 0 anil)) anil))))))))))) (fz (mcb1 1 fn__law_draw 2 (acons (pu (pc (.int 9))) anil))))))
    (gseq (gif (mor (tst (m2 (neA eqCl eqNf fn_Kinds___eq__) (fz (mcl fn__law_said 2 (acons (rd 11) (acons (rd 10) anil)))) (pu (pc (.str "sizes"))))) (tst (m2 (neA eqCl eqNf fn_Kinds___eq__) (fz (mcl fn__law_said 2 (acons (mtup (acons (pu (pc (.int 300))) (acons (pu (pc (.int 200))) anil))) (acons (rd 10) anil)))) (pu (pc (.str "number")))))) (gret (ov (pu (pc (.bl false))))) gnx)
    (gret (ov (vand (m2 (eqA eqCl eqNf fn_Kinds___eq__) (fz (mcl fn__law_said 2 (acons (mtup (acons (pu (pc (.int 201))) (acons (pu (pc (.int 200))) anil))) (acons (pu (pc (.int 7))) anil)))) (mtup (acons (pu (pc (.str "many"))) (acons (pu (pc (.int 400))) anil)))) (m2 (eqA eqCl eqNf fn_Kinds___eq__) (fz (mcl fn__law_said 2 (acons (mtup (acons (pu (pc (.int 5))) anil)) (acons (pu (pc (.int 7))) anil)))) (pu (pc (.int 0))))))))))))))
def fn_law : Fn := runD 1 12 [] s_law
end k83

namespace k83
open PySem PySem.Spec PyProof.Rows L2 DL
section
local macro_rules | `(tactic| walk_at "ev") => `(tactic| try simp -implicitDefEqProofs (disch := first | assumption | decide | omega | (simp only [List.length_map, List.length_append, List.length_cons, List.length_nil, DL.rgL_len, DL.rgN_len, List.length_range, List.length_take, List.length_drop, List.length_set, List.length_zip, List.length_zipIdx, List.length_singleton]; omega)) only [DL.preprL_k, DL.dgF_vlk, DL.itI_k, DL.itIx_s, DL.mlkf_k, DL.mlkx_s, DL.mlky_s, DL.mupd_k, DL.isDik_k, DL.updL_s, DL.ppm_k, DL.pnil_s, DL.pcons_s, DL.join_ss, DL.mcLE_k, DL.mcx_s, DL.mlcV_k, DL.mvk_s, DL.gsw_k, DL.gswk_s, DL.pixP_k, DL.ppx_0, DL.ppx_1, DL.gsiP_k, DL.gsy_s, DL.gsx_1, DL.rejoin_k, DL.rjx_s, DL.gal_k, DL.glx_s, DL.glt_t, DL.glt_f, DL.glr_s, DL.mplst_k, DL.plO_s, DL.mkM_k, DL.slD_s, DL.itF_vs, DL.lenF_vs, DL.mcat_k, DL.catF_s, DL.maxLB_s, DL.runD_k, DL.rdk_nx, DL.rdk_rt, DL.mbk_some, DL.mb_k, DL.mo_s, DL.mr_s, DL.pu_s, DL.put_s, DL.ite_e, DL.iteG_e, DL.mif_k, DL.tst_k, DL.m1_k, DL.m2_k, DL.mch_k, DL.fz_k, DL.fzk_s, DL.ov_k, DL.ovk_s,
  DL.frz_v, DL.frz_l, DL.frz_k, DL.frz_t, DL.frz_o, DL.frzF_v, DL.frzF_l, DL.frzF_k, DL.frzF_t, DL.vand_k, DL.vor_k, DL.vnot_k, DL.mand_k, DL.mor_k, DL.mnot_k, DL.anil_s, DL.acons_k, DL.mtup_k, DL.mlst_k, DL.mcb_k, DL.mss_k, DL.mssI_k, DL.mclT_k, DL.mclTx_s, DL.mclTy_b, DL.lc2T_k, DL.lc2A_s, DL.lc2B_s, DL.lc2C_s, DL.mlc2_k, DL.lck2_s, DL.mix_k, DL.minx_k, DL.minP_k, DL.minPT_k, DL.msl_k, DL.mslk_s,
  DL.rg1_k, DL.rg2_k, DL.mlrg_k, DL.mtrg_k, DL.itR1_k, DL.rngA_s, DL.rngB_s,  DL.itR2_k, DL.itA_k, DL.itEA_k, DL.itZ_k, DL.rd_k, DL.rdx_v, DL.rdx_l, DL.rdx_k, DL.rdx_t, DL.rdx_o, DL.mv_k, DL.mvx_s, DL.pd_k, DL.pdx_s, DL.px_k, DL.pxx_s, DL.ls_k, DL.lsx_s, DL.pxf_k, DL.pfx_o, DL.pfx_v, DL.pdf_k, DL.fdv_v,
  DL.pc_s, DL.pval_s, DL.p1_s, DL.p2_s, DL.pch_s, DL.tq_s, DL.pin_s, DL.pix_s, DL.plen_s, DL.ptI_s, DL.toB_s, DL.toI_s, DL.subD_s, DL.addI_s, DL.addD_i, DL.addD_t, DL.addD_l, DL.ltD_s, DL.leD_s, DL.gtD_s, DL.geD_s, DL.mulD_fm, DL.mulD_l, DL.mulD_r, DL.divD_s, DL.modD_s, DL.powD_s, DL.shlD_s, DL.shrD_s, DL.andD_s, DL.negD_s, DL.int1D_s, DL.int1D_b, DL.szc_s,
  DL.isnD_n, DL.isnD_i, DL.isnD_t, DL.nonD_n, DL.nonD_i, DL.nonD_t, DL.tupB_l, DL.tupB_t, DL.listB_l, DL.dictD_s, DL.listB_t, DL.listB_s, DL.itF_vt, DL.itF_vl, DL.itF_l, DL.lenF_vt, DL.lenF_vl, DL.lenF_l, DL.slD_t, DL.slD_l, DL.fldD_s, DL.minB_s, DL.maxB_s, DL.absB_s,
  DL.gexX_k, DL.gexA_s, DL.gexB_s, DL.gexC_s, DL.gexC_n, DL.isX_fd, DL.isX_ex, DL.gnoE_k, DL.gnoA_n, DL.gnoA_r, DL.gnoB_n, DL.graise_k, DL.graiseF_k, DL.grf_s, DL.isX_ef, DL.gexC_f, DL.gtryN_k, DL.gtnA_n, DL.gtnA_r, DL.gtnB_s, DL.gtnB_n, DL.handN_s, DL.gfld_s, DL.mxq_k, DL.mxqA_s, DL.mxqB_s, DL.mxqC_s, DL.mxqC_n, DL.mxu_k, DL.mxuA_l, DL.mxuA_r, DL.gsu_k, DL.gsuA_x, DL.gsuA_f, DL.gsuA_r, DL.mmul_k, DL.rdl_k, DL.rdlx_s, DL.gforT_k, DL.gftx_s, DL.pvsm_k, DL.pvsx_s, DL.gtry_k, DL.gtrA_n, DL.gtrA_r, DL.gtrB_s, DL.hand_s, DL.gseq_k, DL.gk_nx, DL.gk_rt, DL.gk_bk, DL.gk_ct, DL.gnx_s, DL.gret_k, DL.grk_s, DL.gif_k, DL.gik_t, DL.gik_f, DL.gik_s, DL.gex_k, DL.gxk_s, DL.gst_k, DL.gsk_s, DL.gtg_k, DL.gtk_s, DL.tgn_s, DL.tgt_s, DL.tgc_s, DL.tgz_s, DL.gpar_k, DL.gpk_s, DL.gaug_k, DL.gak_s, DL.mme_k, DL.mek_s, DL.appL_s, DL.extL_s, DL.extT_l, DL.extT_t, DL.gsi_k, DL.sik_s, DL.gfor_k, DL.gfk_s, DL.mlc_k, DL.pdg_s, DL.pdi_s, DL.pvi_s, DL.mdi_k, DL.mdg_k, DL.mdgx_s, DL.gdp_k, DL.gdpk_s, DL.gdpx_s, DL.gdpy_s, DL.dputO_k, DL.dpx_k, DL.dpx_t, DL.gdpF_k, DL.gfpk_s, DL.dputF_k, DL.dfx_s, DL.dputG_k, DL.dgx_k, DL.dgx_t, DL.toK_i, DL.toTK_2, DL.toTK_0, DL.toTK_n, DL.dgF_tn, DL.dgF_ln, DL.dgF_t0, DL.gforK_k, DL.gfkx_t, DL.mdg2_k, DL.dg2x_t, DL.dg2x_k, DL.dgF_k, DL.dgF_vk, DL.dgF_t, DL.dgF_vt, DL.mdd_k, DL.mrev_k, DL.revL_s, DL.mrevA_k, DL.revA_l, DL.revA_t, DL.bitsD_s, DL.lenSetD_s, DL.gtg2_k, DL.gt2k_s, DL.mmtx_k, DL.mddk_k, DL.mclx_k, DL.isBD_s, DL.thaw_l, DL.thaw_v, DL.onlyB_s, DL.pcL_s, DL.pisL_s, DL.mixS_k, DL.mixSx_s, DL.isB2_l, DL.isB2_t, DL.isiB_lt, DL.isiB_tl, DL.join_s, Option.isSome_some, Option.isSome_none,  DL.mapT_snoc2, DL.eqD_tp, DL.neD_tp,  DL.eqD_ti, DL.neD_ti, DL.eqD_li, DL.neD_li, DL.eqD_tt, DL.neD_tt, DL.eqD_lt, DL.neD_lt, DL.eqA_i, DL.eqA_t, DL.eqA_l, DL.eqA_n, DL.eqA_s, DL.eqA_b, DL.neA_i, DL.neA_t, DL.neA_l, DL.neA_n, DL.neA_s, DL.neA_b,  ← List.map_drop, ← List.map_take, DL.enD_eq,  DL.isiB_ii, DL.isiB_ib, DL.isiB_tt, DL.isiB_ll, DL.isiB_bb, DL.isiC_o, DL.zpD_int, DL.allB_m, DL.anyB_m, DL.cutD_1, DL.cutD_to, DL.cutD_from, DL.cutD_from1,  DL.mapI_snoc, DL.mapI_app, DL.mapT_snoc, DL.mapT_app,  DL.sortB_s, DL.inD_vl, DL.inD_l, DL.inD_vt, DL.inD_ti, DL.eqD_int, DL.neD_int,  DL.cbk_k, DL.cb2_s, DL.cbx_s, DL.clk_k, DL.clx_s, DL.mkk_k, DL.mkx_s,  DL.popL_s, DL.rgC_s,  DL.lck_s, DL.lc1_k, DL.lcA_s, DL.lcB_s, DL.lcC_s, DL.wipeE_nil, DL.wipeE_cons, DL.restE_nil, DL.restE_cons, DL.valOnly_k, DL.for1_k, DL.forA_s, DL.wh1_k, DL.whB_s, 
  DL.mcl_k, DL.mcb1_k, DL.c1k_s, DL.mmt_k, DL.mtk_s, DL.mmk_k, DL.gfs_k, DL.fsk_s, DL.ixF_l, DL.ixF_vl, DL.ixF_vt, DL.ixF_vs, DL.atI_n, DL.atI_s, DL.ixN_n, DL.ixN_s, DL.outA_k, DL.outB_nil, DL.outB_cons, DL.vox_v, DL.vox_l, DL.vox_o, DL.vox_n, DL.join_s, DL.vals_nil, DL.vals_cons, List.length_map, List.length_append,  DL.fsx_s, DL.putG_nil, DL.putG_ne, DL.putG_eq, DL.noM_o, DL.noM_v, DL.lk_nil, DL.lk_eq, DL.lk_ne, List.map_cons, List.map_nil, Option.isNone_none, Option.isNone_some, Bool.and_true, Bool.true_and, Bool.and_false, Bool.false_and, Bool.or_true, Bool.true_or, Bool.or_false, Bool.false_or, List.contains_cons, List.contains_nil, Nat.reduceBEq, Nat.reduceEqDiff, Nat.reduceLeDiff, and_true, true_and, and_self, eq_self, BEq.rfl, Bool.true_eq_false, Bool.false_eq_true, 
  Option.bind_some, Option.map_some, Option.bind_none, Option.map_none, List.cons_append, List.nil_append, List.length_cons, List.length_nil, List.getElem?_cons_zero, List.getElem?_cons_succ, List.getElem?_nil, List.set_cons_zero, List.set_cons_succ, List.replicate_succ, List.replicate_zero, Nat.reduceAdd, Int.reduceToNat, Int.toNat_natCast, Nat.reduceSub, Nat.reduceLT, if_true, if_false, decide_eq_true_eq, Bool.not_eq_true', decide_eq_false_iff_not, ite_not, not_false_eq_true, not_true_eq_false, Int.zero_add,  decide_true, decide_false, Bool.not_true, Bool.not_false, ite_true, ite_false, reduceCtorEq])

local macro_rules | `(tactic| walk_at "evc") => `(tactic| try simp -implicitDefEqProofs (disch := first | assumption | decide | omega | (simp only [List.length_map, List.length_append, List.length_cons, List.length_nil, DL.rgL_len, DL.rgN_len, List.length_range, List.length_take, List.length_drop, List.length_set, List.length_zip, List.length_zipIdx, List.length_singleton]; omega)) only [DL.preprL_k, DL.dgF_vlk, DL.itI_k, DL.itIx_s, DL.mlkf_k, DL.mlkx_s, DL.mlky_s, DL.mupd_k, DL.isDik_k, DL.updL_s, DL.ppm_k, DL.pnil_s, DL.pcons_s, DL.join_ss, DL.mcLE_k, DL.mcx_s, DL.mlcV_k, DL.mvk_s, DL.gsw_k, DL.gswk_s, DL.pixP_k, DL.ppx_0, DL.ppx_1, DL.gsiP_k, DL.gsy_s, DL.gsx_1, DL.rejoin_k, DL.rjx_s, DL.gal_k, DL.glx_s, DL.glt_t, DL.glt_f, DL.glr_s, DL.mplst_k, DL.plO_s, DL.mkM_k, DL.slD_s, DL.itF_vs, DL.lenF_vs, DL.mcat_k, DL.catF_s, DL.maxLB_s, DL.runD_k, DL.rdk_nx, DL.rdk_rt, DL.mbk_some, DL.mb_k, DL.mo_s, DL.mr_s, DL.pu_s, DL.put_s, DL.ite_e, DL.iteG_e, DL.mif_k, DL.tst_k, DL.m1_k, DL.m2_k, DL.mch_k, DL.fz_k, DL.fzk_s, DL.ov_k, DL.ovk_s,
  DL.frz_v, DL.frz_l, DL.frz_k, DL.frz_t, DL.frz_o, DL.frzF_v, DL.frzF_l, DL.frzF_k, DL.frzF_t, DL.vand_k, DL.vor_k, DL.vnot_k, DL.mand_k, DL.mor_k, DL.mnot_k, DL.anil_s, DL.acons_k, DL.mtup_k, DL.mlst_k, DL.mcb_k, DL.mss_k, DL.mssI_k, DL.mclT_k, DL.mclTx_s, DL.mclTy_b, DL.lc2T_k, DL.lc2A_s, DL.lc2B_s, DL.lc2C_s, DL.mlc2_k, DL.lck2_s, DL.mix_k, DL.minx_k, DL.minP_k, DL.minPT_k, DL.msl_k, DL.mslk_s,
  DL.rg1_k, DL.rg2_k, DL.mlrg_k, DL.mtrg_k, DL.itR1_k, DL.rngA_s, DL.rngB_s,  DL.itR2_k, DL.itA_k, DL.itEA_k, DL.itZ_k, DL.rd_k, DL.rdx_v, DL.rdx_l, DL.rdx_k, DL.rdx_t, DL.rdx_o, DL.mv_k, DL.mvx_s, DL.pd_k, DL.pdx_s, DL.px_k, DL.pxx_s, DL.ls_k, DL.lsx_s, DL.pxf_k, DL.pfx_o, DL.pfx_v, DL.pdf_k, DL.fdv_v,
  DL.pc_s, DL.pval_s, DL.p1_s, DL.p2_s, DL.pch_s, DL.tq_s, DL.pin_s, DL.pix_s, DL.plen_s, DL.ptI_s, DL.toB_s, DL.toI_s, DL.subD_s, DL.addI_s, DL.addD_i, DL.addD_t, DL.addD_l, DL.ltD_s, DL.leD_s, DL.gtD_s, DL.geD_s, DL.mulD_fm, DL.mulD_l, DL.mulD_r, DL.divD_s, DL.modD_s, DL.powD_s, DL.shlD_s, DL.shrD_s, DL.andD_s, DL.negD_s, DL.int1D_s, DL.int1D_b, DL.szc_s,
  DL.isnD_n, DL.isnD_i, DL.isnD_t, DL.nonD_n, DL.nonD_i, DL.nonD_t, DL.tupB_l, DL.tupB_t, DL.listB_l, DL.dictD_s, DL.listB_t, DL.listB_s, DL.itF_vt, DL.itF_vl, DL.itF_l, DL.lenF_vt, DL.lenF_vl, DL.lenF_l, DL.slD_t, DL.slD_l, DL.fldD_s, DL.minB_s, DL.maxB_s, DL.absB_s,
  DL.gexX_k, DL.gexA_s, DL.gexB_s, DL.gexC_s, DL.gexC_n, DL.isX_fd, DL.isX_ex, DL.gnoE_k, DL.gnoA_n, DL.gnoA_r, DL.gnoB_n, DL.graise_k, DL.graiseF_k, DL.grf_s, DL.isX_ef, DL.gexC_f, DL.gtryN_k, DL.gtnA_n, DL.gtnA_r, DL.gtnB_s, DL.gtnB_n, DL.handN_s, DL.gfld_s, DL.mxq_k, DL.mxqA_s, DL.mxqB_s, DL.mxqC_s, DL.mxqC_n, DL.mxu_k, DL.mxuA_l, DL.mxuA_r, DL.gsu_k, DL.gsuA_x, DL.gsuA_f, DL.gsuA_r, DL.mmul_k, DL.rdl_k, DL.rdlx_s, DL.gforT_k, DL.gftx_s, DL.pvsm_k, DL.pvsx_s, DL.gtry_k, DL.gtrA_n, DL.gtrA_r, DL.gtrB_s, DL.hand_s, DL.gseq_k, DL.gk_nx, DL.gk_rt, DL.gk_bk, DL.gk_ct, DL.gnx_s, DL.gret_k, DL.grk_s, DL.gif_k, DL.gik_t, DL.gik_f, DL.gik_s, DL.gex_k, DL.gxk_s, DL.gst_k, DL.gsk_s, DL.gtg_k, DL.gtk_s, DL.tgn_s, DL.tgt_s, DL.tgc_s, DL.tgz_s, DL.gpar_k, DL.gpk_s, DL.gaug_k, DL.gak_s, DL.mme_k, DL.mek_s, DL.appL_s, DL.extL_s, DL.extT_l, DL.extT_t, DL.gsi_k, DL.sik_s, DL.gfor_k, DL.gfk_s, DL.mlc_k, DL.pdg_s, DL.pdi_s, DL.pvi_s, DL.mdi_k, DL.mdg_k, DL.mdgx_s, DL.gdp_k, DL.gdpk_s, DL.gdpx_s, DL.gdpy_s, DL.dputO_k, DL.dpx_k, DL.dpx_t, DL.gdpF_k, DL.gfpk_s, DL.dputF_k, DL.dfx_s, DL.dputG_k, DL.dgx_k, DL.dgx_t, DL.toK_i, DL.toTK_2, DL.toTK_0, DL.toTK_n, DL.dgF_tn, DL.dgF_ln, DL.dgF_t0, DL.gforK_k, DL.gfkx_t, DL.mdg2_k, DL.dg2x_t, DL.dg2x_k, DL.dgF_k, DL.dgF_vk, DL.dgF_t, DL.dgF_vt, DL.mdd_k, DL.mrev_k, DL.revL_s, DL.mrevA_k, DL.revA_l, DL.revA_t, DL.bitsD_s, DL.lenSetD_s, DL.gtg2_k, DL.gt2k_s, DL.mmtx_k, DL.mddk_k, DL.mclx_k, DL.isBD_s, DL.thaw_l, DL.thaw_v, DL.onlyB_s, DL.pcL_s, DL.pisL_s, DL.mixS_k, DL.mixSx_s, DL.isB2_l, DL.isB2_t, DL.isiB_lt, DL.isiB_tl, DL.join_s, Option.isSome_some, Option.isSome_none,  DL.mapT_snoc2, DL.eqD_tp, DL.neD_tp,  DL.eqD_ti, DL.neD_ti, DL.eqD_li, DL.neD_li, DL.eqD_tt, DL.neD_tt, DL.eqD_lt, DL.neD_lt, DL.eqA_i, DL.eqA_t, DL.eqA_l, DL.eqA_n, DL.eqA_s, DL.eqA_b, DL.neA_i, DL.neA_t, DL.neA_l, DL.neA_n, DL.neA_s, DL.neA_b,  ← List.map_drop, ← List.map_take, DL.enD_eq,  DL.isiB_ii, DL.isiB_ib, DL.isiB_tt, DL.isiB_ll, DL.isiB_bb, DL.isiC_o, DL.zpD_int, DL.allB_m, DL.anyB_m, DL.cutD_1, DL.cutD_to, DL.cutD_from, DL.cutD_from1,  DL.mapI_snoc, DL.mapI_app, DL.mapT_snoc, DL.mapT_app,  DL.sortB_s, DL.inD_vl, DL.inD_l, DL.inD_vt, DL.inD_ti, DL.eqD_int, DL.neD_int,  DL.cbk_k, DL.cb2_s, DL.cbx_s, DL.clk_k, DL.clx_s, DL.mkk_k, DL.mkx_s,  DL.popL_s, DL.rgC_s,  DL.lck_s, DL.lc1_k, DL.lcA_s, DL.lcB_s, DL.lcC_s, DL.wipeE_nil, DL.wipeE_cons, DL.restE_nil, DL.restE_cons, DL.valOnly_k, DL.for1_k, DL.forA_s, DL.wh1_k, DL.whB_s, 
  DL.mcl_k, DL.mcb1_k, DL.c1k_s, DL.mmt_k, DL.mtk_s, DL.mmk_k, DL.gfs_k, DL.fsk_s, DL.ixF_l, DL.ixF_vl, DL.ixF_vt, DL.ixF_vs, DL.atI_n, DL.atI_s, DL.ixN_n, DL.ixN_s, DL.outA_k, DL.outB_nil, DL.outB_cons, DL.vox_v, DL.vox_l, DL.vox_o, DL.vox_n, DL.join_s, DL.vals_nil, DL.vals_cons, List.length_map, List.length_append,  DL.fsx_s, DL.putG_nil, DL.putG_ne, DL.putG_eq, DL.noM_o, DL.noM_v, DL.lk_nil, DL.lk_eq, DL.lk_ne, List.map_cons, List.map_nil, Option.isNone_none, Option.isNone_some, Bool.and_true, Bool.true_and, Bool.and_false, Bool.false_and, Bool.or_true, Bool.true_or, Bool.or_false, Bool.false_or, List.contains_cons, List.contains_nil, Nat.reduceBEq, Nat.reduceEqDiff, Nat.reduceLeDiff, and_true, true_and, and_self, eq_self, BEq.rfl, Bool.true_eq_false, Bool.false_eq_true, 
  Option.bind_some, Option.map_some, Option.bind_none, Option.map_none, List.cons_append, List.nil_append, List.length_cons, List.length_nil, List.getElem?_cons_zero, List.getElem?_cons_succ, List.getElem?_nil, List.set_cons_zero, List.set_cons_succ, List.replicate_succ, List.replicate_zero, Nat.reduceAdd, Int.reduceToNat, Int.toNat_natCast, Nat.reduceSub, Nat.reduceLT, if_true, if_false, decide_eq_true_eq, Bool.not_eq_true', decide_eq_false_iff_not, ite_not, not_false_eq_true, not_true_eq_false, Int.zero_add,  decide_true, decide_false, Bool.not_true, Bool.not_false, ite_true, ite_false, reduceCtorEq, if_pos, if_neg])

theorem is_integer_i {i : Int} : fn_is_integer [vv (.int i)] = some (.fd (.val (.bl true)), [vv (.int i)]) := by
  unfold fn_is_integer s_is_integer
  walk_at "evc"
theorem is_within_i {i a b : Int} : fn_is_within [vv (.int i), vv (.int a), vv (.int b)] = some (.fd (.val (.bl (decide (a ≤ i ∧ i ≤ b)))), [vv (.int i), vv (.int a), vv (.int b)]) := by
  unfold fn_is_within s_is_within
  walk_at "evc"
  rw [is_integer_i]
  by_cases c : a ≤ i
  · walk_at "evc"
    simp [c]
  · walk_at "evc"
    simp [c]
theorem are_ascending_i {xs : List Int} (hl : xs.length ≤ 1000) : fn_are_ascending [vv (tupI xs)] = some (.fd (.val (.bl (decide (xs.Pairwise (· < ·))))), [vv (tupI xs)]) := by
  unfold fn_are_ascending s_are_ascending
  walk_at "evc"
  rw [lcD_mapS (f := fun p => .bl (decide (p.1 < p.2))) (by rw [List.length_zip]; omega) (fun p hp => by
    unfold C1e_are_ascending prI
    walk_at "evc")]
  walk_at "evc"
  congr 5
  rw [Bool.eq_iff_iff, decide_eq_true_iff]
  exact asc_zip
theorem is_lot_i {xs : List Int} {n : Nat} (hl : xs.length ≤ 1000) : fn_is_lot_of [vv (tupI xs), vv (.int (n : Int))] = some (.fd (.val (.bl (decide (∀ x ∈ xs, 0 ≤ x ∧ x < (n : Int)) && decide (xs.Pairwise (· < ·))))), [vv (tupI xs), vv (.int (n : Int))]) := by
  unfold fn_is_lot_of s_is_lot_of
  walk_at "evc"
  rw [lcD_mapS (f := fun x => .bl (decide (0 ≤ x ∧ x ≤ (n : Int) - 1))) (by omega) (fun x hx => by
    unfold C1e_is_lot_of
    walk_at "evc"
    rw [is_within_i]
    walk_at "evc")]
  have e : (xs.all fun x => decide (0 ≤ x ∧ x ≤ (n : Int) - 1)) = decide (∀ x ∈ xs, 0 ≤ x ∧ x < (n : Int)) := by
    rw [Bool.eq_iff_iff, List.all_eq_true, decide_eq_true_iff]
    exact ⟨fun h x hx => by have := of_decide_eq_true (h x hx); omega, fun h x hx => decide_eq_true (by have := h x hx; omega)⟩
  by_cases c : ∀ x ∈ xs, 0 ≤ x ∧ x < (n : Int)
  · walk_at "evc"
    rw [e]
    walk_at "evc"
    rw [are_ascending_i hl]
    walk_at "evc"
    simp [c]
    exact fun _ => c
  · walk_at "evc"
    rw [e]
    walk_at "evc"
    simp [c]
theorem is_lot_row {xs : List Int} {n : Nat} (h : Row n xs) (hn : n ≤ 1000) : fn_is_lot_of [vv (tupI xs), vv (.int (n : Int))] = some (.fd (.val (.bl true)), [vv (tupI xs), vv (.int (n : Int))]) := by
  have := h.len
  rw [is_lot_i (by omega)]
  have h1 := h.bd
  have h2 := h.lt
  rw [decide_eq_true h1, decide_eq_true h2]; rfl
theorem counts_ok {ns : List Int} {a : Int} (h1 : 1 ≤ ns.length) (h8 : ns.length ≤ 8) (hb : ∀ x ∈ ns, a ≤ x ∧ x ≤ 1000000000000000000000000000000) : fn_are_counts [vv (tupI ns), vv (.int a)] = some (.fd (.val (.bl true)), [vv (tupI ns), vv (.int a)]) := by
  unfold fn_are_counts s_are_counts
  walk_at "evc"
  rw [lcD_mapS (vs := [2]) (tg := tgn 2) (ft := mr true) (fe := C1e_are_counts) (enc := D.int) (xs := ns) (f := fun _ => .bl true) (by omega) (fun x hx => by
    have h := is_within_i (i := x) (a := a) (b := 1000000000000000000000000000000)
    rw [decide_eq_true (hb x hx)] at h
    unfold C1e_are_counts
    walk_at "evc"
    rw [h]
    walk_at "evc")]
  walk_at "evc"
  rw [show (ns.all fun _ => true) = true from List.all_eq_true.mpr fun _ _ => rfl]
abbrev kO (p t : List Int) (al : List (List Int)) : Od := .obj 9 [("people", .val (tupI p)), ("things", .val (tupI t)), ("allowed", .val (rowsD al))]
abbrev kD (p t : List Int) (al : List (List Int)) : D := .obj 9 [("people", tupI p), ("things", tupI t), ("allowed", rowsD al)]
structure Kn (P T : Nat) (p t : List Int) (al : List (List Int)) : Prop where
  h1 : 1 ≤ P
  h8 : P ≤ 8
  t1 : 1 ≤ T
  t8 : T ≤ 8
  lp : p.length = P
  lt : t.length = T
  la : al.length = P
  row : ∀ r ∈ al, Row T r
  pb : ∀ x ∈ p, 0 ≤ x ∧ x ≤ 1000000000000000000000000000000
  tb : ∀ x ∈ t, 0 ≤ x ∧ x ≤ 1000000000000000000000000000000
  sum : p.sum = t.sum
theorem init_ok {P T : Nat} {p t : List Int} {al : List (List Int)} (h : Kn P T p t al) :
    ∃ r, fn_Kinds___init__ [some (.obj 9 []), vv (tupI p), vv (tupI t), vv (rowsD al)] = some (.fd (.val .non), some (kO p t al) :: r) := by
  obtain ⟨h1, h8, t1, t8, hp, ht, hal, hrow, hpb, htb, hs⟩ := h
  have c1 := counts_ok (ns := p) (a := 0) (by omega) (by omega) hpb
  have c2 := counts_ok (ns := t) (a := 0) (by omega) (by omega) htb
  have hlen : al.length = p.length := by omega
  unfold fn_Kinds___init__ s_Kinds___init__
  walk_at "evc"
  rw [c1]
  walk_at "evc"
  rw [c2]
  walk_at "evc"
  rw [lcD_mapS (vs := [4]) (tg := tgn 4) (ft := mr true) (fe := C1e_Kinds___init__) (enc := tupI) (xs := al) (f := fun _ => .bl true) (by omega) (fun x hx => by
    have hr := is_lot_row (n := t.length) (xs := x) (by rw [ht]; exact hrow x hx) (by omega)
    unfold C1e_Kinds___init__
    walk_at "evc"
    rw [hr]
    walk_at "evc")]
  walk_at "evc"
  rw [show (al.all fun _ => true) = true from List.all_eq_true.mpr fun _ _ => rfl]
  walk_at "evc"
  rw [DL.sumB_t]
  walk_at "evc"
  rw [DL.sumB_t]
  walk_at "evc"
  exact ⟨_, rfl⟩
theorem int_at {l : List Int} {k : Int} (h1 : 0 ≤ k) (h2 : k < l.length) : (l.map D.int)[k.toNat]? = some (.int (l.getD k.toNat 0)) := by
  rw [List.getElem?_map, List.getElem?_eq_getElem (by omega), List.getD_eq_getElem?_getD, List.getElem?_eq_getElem (by omega)]; rfl
theorem tups_at {l : List (List Int)} {k : Int} (h1 : 0 ≤ k) (h2 : k < l.length) : (l.map tupI)[k.toNat]? = some (tupI (l.getD k.toNat [])) := by
  rw [List.getElem?_map, List.getElem?_eq_getElem (by omega), List.getD_eq_getElem?_getD, List.getElem?_eq_getElem (by omega)]; rfl
theorem getD_mem {l : List (List Int)} {k : Int} (h1 : 0 ≤ k) (h2 : k < l.length) : l.getD k.toNat [] ∈ l := by
  rw [List.getD_eq_getElem?_getD, List.getElem?_eq_getElem (by omega)]
  exact List.getElem_mem _
abbrev lessL (ns : List Int) (i : Nat) : List Int := ns.set i (ns.getD i 0 - 1)
theorem one_less_ok {ns : List Int} {i : Nat} (hi : i < ns.length) (h8 : ns.length ≤ 8) : ∃ r, fn_one_less [vv (tupI ns), vv (.int (i : Nat))] = some (.fd (.val (tupI (lessL ns i))), r) := by
  have hat := int_at (l := ns) (k := (i : Int)) (by omega) (by omega)
  rw [Int.toNat_natCast] at hat
  have e3 : ns.take i ++ [ns.getD i 0 - 1] ++ ns.drop (i + 1) = lessL ns i := by
    unfold lessL
    rw [List.set_eq_take_append_cons_drop, if_pos hi, List.append_assoc]; rfl
  have l1 : (ns.take i).length ≤ 8 := by rw [List.length_take]; omega
  have l2 : (ns.drop (i + 1)).length ≤ 8 := by rw [List.length_drop]; omega
  unfold fn_one_less s_one_less
  generalize lessL ns i = R at *
  walk_at "evc"
  rw [hat]
  walk_at "evc"
  generalize ns.take i = A at *
  generalize ns.drop (i + 1) = B at *
  walk_at "evc"
  rw [e3]
  exact ⟨_, rfl⟩

/-! ### numbers and sizes that are refused -/
def badM : List D := [.int 0, .int (-1), .int 1000000000000000000000000000001, .non, .bl true, .str "7", .tup [.int 7]]
def deepD : Nat → D
  | 0 => .tup [.int 0, .int 0]
  | n + 1 => .tup [deepD n]
theorem number_ok {m : Int} (h1 : 1 ≤ m) (h2 : m ≤ 1000000000000000000000000000000) : ∃ r, fn_check_number [vv (.int m), vv (.int 1), vv (.int 1000000000000000000000000000000)] = some (.fd (.val .non), r) := by
  have h := is_within_i (i := m) (a := 1) (b := 1000000000000000000000000000000)
  rw [decide_eq_true ⟨h1, h2⟩] at h
  unfold fn_check_number s_check_number
  walk_at "evc"
  rw [h]
  walk_at "evc"
  exact ⟨_, rfl⟩
theorem number_no : ∀ d ∈ deepD 35 :: badM, ∃ r, fn_check_number [vv d, vv (.int 1), vv (.int 1000000000000000000000000000000)] = some (exO 31, r) := by
  intro d hd
  unfold badM at hd
  simp only [List.mem_cons, List.not_mem_nil, or_false] at hd
  rcases hd with rfl | rfl | rfl | rfl | rfl | rfl | rfl | rfl <;> exact ⟨_, rfl⟩
theorem many_ok {n m : Int} (h : n ≤ m) : ∃ r, fn_check_many [vv (.int n), vv (.int m)] = some (.fd (.val .non), r) := by
  unfold fn_check_many s_check_many
  walk_at "evc"
  exact ⟨_, rfl⟩
theorem many_no {n m : Int} (h : m < n) : ∃ r, fn_check_many [vv (.int n), vv (.int m)] = some (exF 32 "most" (.int m), r) := by
  unfold fn_check_many s_check_many
  walk_at "evc"
  exact ⟨_, rfl⟩
/-- the kind of each of all there are -/
def spr : List Int → Nat → List Int
  | [], _ => []
  | x :: r, k => List.replicate x.toNat (k : Int) ++ spr r (k + 1)
theorem spr_snoc {x : Int} : ∀ {l : List Int} {k : Nat}, spr (l ++ [x]) k = spr l k ++ List.replicate x.toNat ((k + l.length : Nat) : Int)
  | [], k => by
    show List.replicate x.toNat (k : Int) ++ [] = [] ++ List.replicate x.toNat ((k + 0 : Nat) : Int)
    rw [List.append_nil]; rfl
  | y :: l, k => by
    show List.replicate y.toNat (k : Int) ++ spr (l ++ [x]) (k + 1) = List.replicate y.toNat (k : Int) ++ spr l (k + 1) ++ _
    rw [spr_snoc, List.append_assoc, List.length_cons, show k + 1 + l.length = k + (l.length + 1) by omega]
theorem spr_len : ∀ {l : List Int} {k : Nat}, (∀ x ∈ l, 0 ≤ x) → ((spr l k).length : Int) = l.sum
  | [], _, _ => rfl
  | x :: l, k, h => by
    have h1 := spr_len (l := l) (k := k + 1) fun y hy => h y (List.mem_cons_of_mem _ hy)
    have h2 := h x List.mem_cons_self
    show ((List.replicate x.toNat (k : Int) ++ spr l (k + 1)).length : Int) = _
    rw [List.length_append, List.length_replicate, List.sum_cons]
    omega
theorem sum_take_le : ∀ {l : List Int} {i : Nat}, (∀ x ∈ l, 0 ≤ x) → (l.take i).sum ≤ l.sum
  | [], _, _ => by rw [List.take_nil]; exact Int.le_refl _
  | x :: l, 0, h => by
    have h1 := sum_take_le (l := l) (i := 0) fun y hy => h y (List.mem_cons_of_mem _ hy)
    have h2 := h x List.mem_cons_self
    rw [List.take_zero] at h1 ⊢
    rw [List.sum_cons]; omega
  | x :: l, i + 1, h => by
    have h1 := sum_take_le (l := l) (i := i) fun y hy => h y (List.mem_cons_of_mem _ hy)
    rw [List.take_succ_cons, List.sum_cons, List.sum_cons]; omega
theorem mulL_one {x k : Int} (h0 : 0 ≤ k) (h1 : k ≤ 1000) : mulL (.lst [.int x]) (.int k) = some (.lst ((List.replicate k.toNat x).map .int)) := by
  show (if 0 ≤ k ∧ k ≤ 1000 ∧ [D.int x].length ≤ 1000 then some (D.lst (List.replicate k.toNat [D.int x]).flatten) else none) = _
  rw [if_pos ⟨h0, h1, by show 1 ≤ 1000; decide⟩]
  congr 2
  induction k.toNat with
  | zero => rfl
  | succ n ih => rw [List.replicate_succ, List.flatten_cons, ih]; rfl
theorem spread_turn {p : List Int} {i : Nat} (h8 : p.length ≤ 8) (hb : ∀ x ∈ p, 0 ≤ x) (hs : p.sum ≤ 60) (hi : i < p.length) :
    ∃ x, p[i]? = some x ∧ 0 ≤ x ∧ x ≤ 60 ∧ spr (p.take (i + 1)) 0 = spr (p.take i) 0 ++ List.replicate x.toNat (i : Int) ∧ (spr (p.take i) 0).length ≤ 60 := by
  have hx : p[i]? = some p[i] := List.getElem?_eq_getElem hi
  have h0 := hb p[i] (List.getElem_mem hi)
  have ht : ∀ j, ((spr (p.take j) 0).length : Int) ≤ 60 := fun j => by
    rw [spr_len fun x hx => hb x (List.mem_of_mem_take hx)]
    have := sum_take_le (l := p) (i := j) hb
    omega
  have es : spr (p.take (i + 1)) 0 = spr (p.take i) 0 ++ List.replicate p[i].toNat (i : Int) := by
    rw [List.take_succ_eq_append_getElem hi, spr_snoc, List.length_take, show 0 + min i p.length = i by omega]
  have h1 := ht (i + 1)
  have h2 := ht i
  rw [es, List.length_append, List.length_replicate] at h1
  exact ⟨p[i], hx, h0, by omega, es, by omega⟩
theorem spread_ok {p : List Int} (h8 : p.length ≤ 8) (hb : ∀ x ∈ p, 0 ≤ x) (hs : p.sum ≤ 60) : ∃ r, fn_spread_out [vv (tupI p)] = some (.fd (.lst ((spr p 0).map .int)), r) := by
  unfold fn_spread_out s_spread_out
  walk_at "evc"
  obtain ⟨e', h, x2, x3, rfl⟩ := forD_go (tg := tgt (tgc (tgn 2) (tgc (tgn 3) tgz))) (body := L1_spread_out)
    (fun i e => ∃ x2 x3, e = [vv (tupI p), vl ((spr (p.take i) 0).map .int), x2, x3])
    (ds := enD 0 (p.map .int)) (e := [vv (tupI p), vl [], none, none]) ⟨none, none, rfl⟩ (by
    rintro i d e hd ⟨x2, x3, rfl⟩
    obtain ⟨x, e1, rfl⟩ := enD_at _ _ _ _ hd
    rw [List.getElem?_map] at e1
    obtain ⟨y, hy, rfl⟩ := map_some e1
    obtain ⟨x, ex, h0, h1, es, hl⟩ := spread_turn h8 hb hs (List.getElem?_eq_some_iff.mp hy).1
    rw [ex] at hy
    obtain rfl : x = y := Option.some.inj hy
    have hm := mulL_one (x := ((0 + i : Nat) : Int)) h0 (by omega)
    rw [es]
    generalize spr (p.take i) 0 = L at *
    have hl2 : (List.replicate x.toNat ((0 + i : Nat) : Int)).length ≤ 60 := by rw [List.length_replicate]; omega
    rw [show ((i : Nat) : Int) = ((0 + i : Nat) : Int) by rw [Nat.zero_add]]
    generalize List.replicate x.toNat ((0 + i : Nat) : Int) = R at *
    generalize ((0 + i : Nat) : Int) = I at *
    unfold L1_spread_out
    walk_at "evc"
    rw [hm]
    walk_at "evc"
    exact ⟨_, rfl, _, _, rfl⟩)
  rw [enD_len, List.length_map, List.take_length, enD_eq] at h
  rw [h]
  walk_at "evc"
  exact ⟨_, rfl⟩

/-! ### what is left, in bounds -/
structure Bx (ts l : List Int) : Prop where
  len : l.length = ts.length
  bd : ∀ i, 0 ≤ l.getD i 0 ∧ l.getD i 0 ≤ ts.getD i 0
theorem less_getD {l : List Int} {i j : Nat} (h : i < l.length) : (lessL l i).getD j 0 = if j = i then l.getD i 0 - 1 else l.getD j 0 := by
  unfold lessL
  rw [List.getD_eq_getElem?_getD, List.getElem?_set]
  by_cases c : j = i
  · subst c; rw [if_pos rfl, if_pos h, if_pos rfl]; rfl
  · rw [if_neg (Ne.symm c), if_neg c, List.getD_eq_getElem?_getD]
theorem Bx.less {ts l : List Int} {i : Nat} (h : Bx ts l) (hi : i < l.length) (hp : 0 < l.getD i 0) : Bx ts (lessL l i) := ⟨by rw [List.length_set]; exact h.len, fun j => by
  rw [less_getD hi]
  have h1 := h.bd j
  have h2 := h.bd i
  by_cases c : j = i
  · subst c; rw [if_pos rfl]; omega
  · rw [if_neg c]; exact h1⟩
def boxL : List Int → List (List Int)
  | [] => [[]]
  | x :: r => (List.range (x.toNat + 1)).flatMap fun j : Nat => (boxL r).map fun l => (j : Int) :: l
def stN : List Int → Nat
  | [] => 1
  | x :: r => (x.toNat + 1) * stN r
theorem boxL_len : ∀ ts : List Int, (boxL ts).length = stN ts
  | [] => rfl
  | x :: r => by
    unfold boxL stN
    rw [List.length_flatMap]
    rw [show (List.map (fun j : Nat => ((boxL r).map fun l => (j : Int) :: l).length) (List.range (x.toNat + 1))) = List.replicate (x.toNat + 1) (stN r) from by
      rw [List.eq_replicate_iff]
      refine ⟨by rw [List.length_map, List.length_range], fun b hb => ?_⟩
      obtain ⟨j, -, rfl⟩ := List.mem_map.mp hb
      rw [List.length_map, boxL_len r], List.sum_replicate_nat]
theorem Bx.mem : ∀ {ts l : List Int}, Bx ts l → l ∈ boxL ts
  | [], l, h => by
    have : l = [] := List.length_eq_zero_iff.mp h.len
    rw [this]; exact List.mem_singleton.mpr rfl
  | x :: r, [], h => by have := h.len; simp at this
  | x :: r, y :: l, h => by
    unfold boxL
    have h0 := h.bd 0
    rw [List.getD_cons_zero, List.getD_cons_zero] at h0
    refine List.mem_flatMap.mpr ⟨y.toNat, List.mem_range.mpr (by omega), List.mem_map.mpr ⟨l, Bx.mem ⟨by have := h.len; simpa using this, fun i => ?_⟩, by rw [show ((y.toNat : Nat) : Int) = y by omega]⟩⟩
    have := h.bd (i + 1)
    rwa [List.getD_cons_succ, List.getD_cons_succ] at this
theorem nd_le {α : Type} [DecidableEq α] : ∀ {l m : List α}, l.Nodup → (∀ x ∈ l, x ∈ m) → l.length ≤ m.length
  | [], _, _, _ => Nat.zero_le _
  | x :: l, m, hn, h => by
    obtain ⟨h1, h2⟩ := List.nodup_cons.mp hn
    have hx := h x List.mem_cons_self
    have h3 := nd_le (m := m.erase x) h2 fun y hy => (List.mem_erase_of_ne (fun e => h1 (by rw [← e]; exact hy))).mpr (h y (List.mem_cons_of_mem _ hy))
    rw [List.length_erase_of_mem hx] at h3
    have : 0 < m.length := List.length_pos_of_mem hx
    rw [List.length_cons]; omega
/-- a dict of what is left, all in bounds -/
structure Tb (ts : List Int) (M : TM) : Prop where
  nd : (M.map (·.1)).Nodup
  bx : ∀ q ∈ M, Bx ts q.1
theorem Tb.len {ts : List Int} {M : TM} (h : Tb ts M) : M.length ≤ stN ts := by
  rw [← boxL_len, ← List.length_map (f := fun q : List Int × Int => q.1)]
  exact nd_le h.nd fun x hx => by
    obtain ⟨q, hq, rfl⟩ := List.mem_map.mp hx
    exact (h.bx q hq).mem
theorem putT_mem {k : List Int} {v : Int} : ∀ {M : TM} {q : List Int × Int}, q ∈ putT M k v → q = (k, v) ∨ q ∈ M
  | [], q, h => .inl (List.mem_singleton.mp h)
  | a :: M, q, h => by
    unfold putT at h
    by_cases c : a.1 = k
    · rw [if_pos c] at h
      rcases List.mem_cons.mp h with h | h
      · exact .inl h
      · exact .inr (List.mem_cons_of_mem _ h)
    · rw [if_neg c] at h
      rcases List.mem_cons.mp h with h | h
      · exact .inr (by rw [h]; exact List.mem_cons_self)
      · rcases putT_mem h with h | h
        · exact .inl h
        · exact .inr (List.mem_cons_of_mem _ h)
theorem Tb.put {ts k : List Int} {v : Int} {M : TM} (h : Tb ts M) (hk : Bx ts k) : Tb ts (putT M k v) := ⟨putT_nd h.nd, fun q hq => by
  rcases putT_mem hq with rfl | hq
  · exact hk
  · exact h.bx q hq⟩
/-! ### one person more -/
def stepT (m w : Int) (l : List Int) (M : TM) (t : Int) : TM := if 0 < l.getD t.toNat 0 then putT M (lessL l t.toNat) (((getT M (lessL l t.toNat)).getD 0 + w * l.getD t.toNat 0) % m) else M
def aftT (row : List Int) (m : Int) (D : TM) : TM := D.foldl (fun M q => row.foldl (stepT m q.2 q.1) M) []
theorem Tb.step {ts l : List Int} {m w t : Int} {M : TM} (h : Tb ts M) (hl : Bx ts l) (h1 : t.toNat < ts.length) : Tb ts (stepT m w l M t) := by
  unfold stepT
  by_cases c : 0 < l.getD t.toNat 0
  · rw [if_pos c]; exact h.put (hl.less (by rw [hl.len]; exact h1) c)
  · rw [if_neg c]; exact h
theorem step_ok {ts l : List Int} {m w t : Int} {M : TM} {x0 x1 x2 x7 x8 : Option Od} (hM : Tb ts M) (hl : Bx ts l) (hs : stN ts ≤ 5000) (h8 : ts.length ≤ 8) (h60 : ∀ i, ts.getD i 0 ≤ 60) (h0 : 0 ≤ t) (h1 : t < ts.length) (hm : 0 < m) :
    ∃ y8, for1 (tgn 7) L2_after_person (.int t) [x0, x1, x2, vv (.int m), some (.fd (.dit (encT M))), vv (tupI l), vv (.int w), x7, x8] =
      some (.nx, [x0, x1, x2, vv (.int m), some (.fd (.dit (encT (stepT m w l M t)))), vv (tupI l), vv (.int w), vv (.int t), y8]) := by
  obtain ⟨n, rfl⟩ : ∃ n : Nat, t = (n : Int) := ⟨t.toNat, by omega⟩
  have hn : n < l.length := by rw [hl.len]; omega
  have hlen := hM.len
  have hat := int_at (l := l) (k := (n : Int)) (by omega) (by omega)
  obtain ⟨r, ho⟩ := one_less_ok hn (by rw [hl.len]; exact h8)
  have hg := dget_encT (k := lessL l n) (M := M)
  have hp := fun v => dput_encT (k := lessL l n) (v := v) hM.nd
  have hc : l.getD n 0 ≤ 60 := Int.le_trans (hl.bd n).2 (h60 n)
  have hel : (encT M).length < 16777216 := by rw [List.length_map]; omega
  unfold stepT
  rw [Int.toNat_natCast] at hat ⊢
  generalize lessL l n = K at *
  generalize l.getD n 0 = c at *
  unfold encT at hg hp hel ⊢
  by_cases h : 0 < c
  · rw [if_pos h, ← hp]
    clear hp
    generalize List.map (fun q : List Int × Int => (kTI' q.1, D.int q.2)) M = E at *
    unfold L2_after_person
    walk_at "evc"
    rw [hat]
    walk_at "evc"
    rw [ho]
    walk_at "evc"
    rw [hat]
    have hg2 : (dget E (List.map Sum.inl K)).getD (D.int 0) = D.int ((getT M K).getD 0) := by
      rw [hg]; cases getT M K <;> rfl
    have hmul : mulD (.int w) (.int c) = some (.int (w * c)) := DL.mulD_r (by omega) (by omega)
    walk_at "evc"
    rw [hg2]
    try rw [hmul]
    walk_at "evc"
    have htk : toTK (D.tup (K.map .int)) = some (K.map .inl) := DL.toTK_n
    rw [Int.fmod_eq_emod_of_nonneg _ (by omega)]
    try rw [htk]
    try walk_at "evc"
    exact ⟨_, rfl⟩
  · rw [if_neg h]
    unfold L2_after_person
    walk_at "evc"
    rw [hat]
    walk_at "evc"
    exact ⟨_, rfl⟩

theorem kTI_D (l : List Int) : (kTI' l).map DL.kD = l.map D.int := by
  rw [List.map_map]; rfl
theorem Tb.fold {ts l : List Int} {m w : Int} (hl : Bx ts l) : ∀ {row : List Int} {M : TM}, (∀ t ∈ row, t.toNat < ts.length) → Tb ts M → Tb ts (row.foldl (stepT m w l) M)
  | [], _, _, h => h
  | t :: row, M, hr, h => Tb.fold (row := row) hl (fun x hx => hr x (List.mem_cons_of_mem _ hx)) (h.step hl (hr t List.mem_cons_self))
theorem Tb.nil {ts : List Int} : Tb ts [] := ⟨List.nodup_nil, fun _ h => absurd h List.not_mem_nil⟩
theorem Tb.aft {ts row : List Int} {m : Int} {D : TM} (hr : ∀ t ∈ row, t.toNat < ts.length) (hD : Tb ts D) : Tb ts (aftT row m D) := by
  unfold aftT
  have : ∀ (L : TM) (M : TM), (∀ q ∈ L, Bx ts q.1) → Tb ts M → Tb ts (L.foldl (fun M q => row.foldl (stepT m q.2 q.1) M) M) := by
    intro L
    induction L with
    | nil => intro M _ h; exact h
    | cons q L ih => intro M hq h; exact ih _ (fun x hx => hq x (List.mem_cons_of_mem _ hx)) (Tb.fold (hq q List.mem_cons_self) hr h)
  exact this D [] hD.bx Tb.nil
theorem after_ok {P T : Nat} {p t ts : List Int} {al : List (List Int)} {k : Nat} {m : Int} {D : TM} (h : Kn P T p t al) (hk : k < P) (hD : Tb ts D) (hT : ts.length = T) (hs : stN ts ≤ 5000) (h60 : ∀ i, ts.getD i 0 ≤ 60) (hm : 0 < m) :
    ∃ r, fn_after_person [vv (kD p t al), vv (.int (k : Nat)), vv (.lit (encT D)), vv (.int m)] = some (.fd (.dit (encT (aftT (al.getD k []) m D))), r) := by
  have hrow : Row T (al.getD k []) := h.row _ (by
    have := getD_mem (l := al) (k := (k : Int)) (by omega) (by rw [h.la]; omega)
    rwa [Int.toNat_natCast] at this)
  have hat := tups_at (l := al) (k := (k : Int)) (by omega) (by rw [h.la]; omega)
  rw [Int.toNat_natCast] at hat
  generalize al.getD k [] = row at *
  have ht8 := h.t8
  have hrl := hrow.len
  have hrb : ∀ x ∈ row, x.toNat < ts.length := fun x hx => by have := hrow.bd x hx; omega
  unfold fn_after_person s_after_person
  walk_at "evc"
  obtain ⟨e', h1, x5, x6, x7, x8, rfl⟩ := forD_go (tg := tgt (tgc (tgn 5) (tgc (tgn 6) tgz))) (body := L1_after_person)
    (fun i e => ∃ x5 x6 x7 x8, e = [vv (kD p t al), vv (.int (k : Nat)), vv (.lit (encT D)), vv (.int m), some (.fd (.dit (encT ((D.take i).foldl (fun M q => row.foldl (stepT m q.2 q.1) M) [])))), x5, x6, x7, x8])
    (ds := (encT D).map fun q => .tup [.tup (q.1.map DL.kD), q.2]) (e := [vv (kD p t al), vv (.int (k : Nat)), vv (.lit (encT D)), vv (.int m), some (.fd (.dit [])), none, none, none, none]) ⟨none, none, none, none, rfl⟩ (by
    rintro i d e hd ⟨x5, x6, x7, x8, rfl⟩
    rw [List.getElem?_map, List.getElem?_map] at hd
    obtain ⟨y, hy, rfl⟩ := map_some hd
    obtain ⟨⟨l, w⟩, hq, rfl⟩ := map_some hy
    have hlt : i < D.length := (List.getElem?_eq_some_iff.mp hq).1
    have hbx : Bx ts l := hD.bx (l, w) (List.mem_of_getElem? hq)
    have hTi : Tb ts ((D.take i).foldl (fun M q => row.foldl (stepT m q.2 q.1) M) []) := Tb.aft (D := D.take i) hrb ⟨hD.nd.sublist ((List.take_sublist i D).map _), fun q hq => hD.bx q (List.mem_of_mem_take hq)⟩
    have es : (D.take (i + 1)).foldl (fun M q => row.foldl (stepT m q.2 q.1) M) [] = row.foldl (stepT m w l) ((D.take i).foldl (fun M q => row.foldl (stepT m q.2 q.1) M) []) := by
      rw [List.take_succ_eq_append_getElem hlt, List.foldl_append]
      rw [List.getElem?_eq_getElem hlt] at hq
      rw [Option.some.inj hq]; rfl
    rw [es]
    generalize (D.take i).foldl (fun M q => row.foldl (stepT m q.2 q.1) M) [] = M at *
    dsimp only
    rw [kTI_D]
    have inner : ∀ (x7 x8 : Option Od), ∃ x7' x8', forD (tgn 7) L2_after_person (row.map .int) [vv (kD p t al), vv (.int (k : Nat)), vv (.lit (encT D)), vv (.int m), some (.fd (.dit (encT M))), vv (tupI l), vv (.int w), x7, x8] =
        some (.nx, [vv (kD p t al), vv (.int (k : Nat)), vv (.lit (encT D)), vv (.int m), some (.fd (.dit (encT (row.foldl (stepT m w l) M)))), vv (tupI l), vv (.int w), x7', x8']) := fun x7 x8 => by
      obtain ⟨e', g1, x7', x8', -, rfl⟩ := forD_go (tg := tgn 7) (body := L2_after_person)
        (fun j e => ∃ x7 x8, Tb ts ((row.take j).foldl (stepT m w l) M) ∧ e = [vv (kD p t al), vv (.int (k : Nat)), vv (.lit (encT D)), vv (.int m), some (.fd (.dit (encT ((row.take j).foldl (stepT m w l) M)))), vv (tupI l), vv (.int w), x7, x8])
        (ds := row.map .int) (e := [vv (kD p t al), vv (.int (k : Nat)), vv (.lit (encT D)), vv (.int m), some (.fd (.dit (encT M))), vv (tupI l), vv (.int w), x7, x8]) ⟨x7, x8, hTi, rfl⟩ (by
        rintro j d e hd ⟨x7, x8, hTj, rfl⟩
        rw [List.getElem?_map] at hd
        obtain ⟨z, hz, rfl⟩ := map_some hd
        have hj : j < row.length := (List.getElem?_eq_some_iff.mp hz).1
        have hzb := hrow.bd z (List.mem_of_getElem? hz)
        have e2 : (row.take (j + 1)).foldl (stepT m w l) M = stepT m w l ((row.take j).foldl (stepT m w l) M) z := by
          rw [List.take_succ_eq_append_getElem hj, List.foldl_append]
          rw [List.getElem?_eq_getElem hj] at hz
          rw [Option.some.inj hz]; rfl
        rw [e2]
        obtain ⟨y8, hst⟩ := step_ok (x0 := vv (kD p t al)) (x1 := vv (.int (k : Nat))) (x2 := vv (.lit (encT D))) (x7 := x7) (x8 := x8) (w := w) (l := l) (t := z) hTj hbx hs (by omega) h60 hzb.1 (by omega) hm
        exact ⟨_, hst, _, y8, hTj.step hbx (by omega), rfl⟩)
      rw [List.length_map, List.take_length] at g1
      exact ⟨_, _, g1⟩
    obtain ⟨x7', x8', hin⟩ := inner x7 x8
    generalize row.foldl (stepT m w l) M = M2 at *
    generalize encT D = ED at *
    generalize encT M = EM at *
    generalize encT M2 = EM2 at *
    unfold L1_after_person
    walk_at "evc"
    rw [hat]
    walk_at "evc"
    rw [hin]
    exact ⟨_, rfl, _, _, _, _, rfl⟩)
  rw [List.length_map, List.length_map, List.take_length] at h1
  rw [h1]
  walk_at "evc"
  exact ⟨_, rfl⟩

theorem stN_snoc {x : Int} : ∀ {l : List Int}, stN (l ++ [x]) = stN l * (x.toNat + 1)
  | [] => by show (x.toNat + 1) * 1 = 1 * (x.toNat + 1); omega
  | y :: l => by
    show (y.toNat + 1) * stN (l ++ [x]) = (y.toNat + 1) * stN l * (x.toNat + 1)
    rw [stN_snoc, Nat.mul_assoc]
theorem le_sum : ∀ {l : List Int} {x : Int}, (∀ y ∈ l, 0 ≤ y) → x ∈ l → x ≤ l.sum
  | y :: l, x, h, hx => by
    have h1 := h y List.mem_cons_self
    have h2 : ∀ z ∈ l, 0 ≤ z := fun z hz => h z (List.mem_cons_of_mem _ hz)
    rw [List.sum_cons]
    rcases List.mem_cons.mp hx with rfl | hx
    · have : 0 ≤ l.sum := by
        clear hx h
        induction l with
        | nil => exact Int.le_refl _
        | cons a l ih => have := ih fun z hz => h2 z (List.mem_cons_of_mem _ hz); have := h2 a List.mem_cons_self; rw [List.sum_cons]; omega
      omega
    · have := le_sum h2 hx; omega
theorem states_ok {x0 x1 x2 x4 x5 : Option Od} {t : List Int} (ht : ∀ x ∈ t, 0 ≤ x ∧ x ≤ 60) :
    ∃ y3, forD (tgn 3) L2_kinds_many (t.map .int) [x0, x1, vv (.int 1), x2, x4, x5] = some (.nx, [x0, x1, vv (.int ((stN t : Nat) : Int)), y3, x4, x5]) := by
  obtain ⟨e', h, y3, rfl⟩ := forD_go (tg := tgn 3) (body := L2_kinds_many)
    (fun i e => ∃ y3, e = [x0, x1, vv (.int ((stN (t.take i) : Nat) : Int)), y3, x4, x5])
    (ds := t.map .int) (e := [x0, x1, vv (.int 1), x2, x4, x5]) ⟨x2, rfl⟩ (by
    rintro i d e hd ⟨y3, rfl⟩
    rw [List.getElem?_map] at hd
    obtain ⟨z, hz, rfl⟩ := map_some hd
    have hi : i < t.length := (List.getElem?_eq_some_iff.mp hz).1
    have hb := ht z (List.mem_of_getElem? hz)
    have e2 : ((stN (t.take (i + 1)) : Nat) : Int) = ((stN (t.take i) : Nat) : Int) * (z + 1) := by
      rw [List.take_succ_eq_append_getElem hi, stN_snoc]
      rw [List.getElem?_eq_getElem hi] at hz
      rw [Option.some.inj hz, Int.natCast_mul, show ((z.toNat + 1 : Nat) : Int) = z + 1 by omega]
    rw [e2]
    generalize ((stN (t.take i) : Nat) : Int) = S at *
    have hm : mulD (.int S) (.int (z + 1)) = some (.int (S * (z + 1))) := DL.mulD_r (by omega) (by omega)
    unfold L2_kinds_many
    walk_at "evc"
    try rw [hm]
    try walk_at "evc"
    exact ⟨_, rfl, _, rfl⟩)
  rw [List.length_map, List.take_length] at h
  exact ⟨y3, h⟩
def runT (al : List (List Int)) (m : Int) (ks : List Int) (D : TM) : TM := ks.foldl (fun D k => aftT (al.getD k.toNat []) m D) D
theorem spr_bd : ∀ {l : List Int} {k : Nat} {x : Int}, x ∈ spr l k → (k : Int) ≤ x ∧ x < ((k + l.length : Nat) : Int)
  | y :: l, k, x, h => by
    rcases List.mem_append.mp (show x ∈ List.replicate y.toNat (k : Int) ++ spr l (k + 1) from h) with h | h
    · rw [(List.mem_replicate.mp h).2, List.length_cons]; omega
    · have := spr_bd h
      rw [List.length_cons]; omega
theorem Tb.run {P T : Nat} {p t ts : List Int} {al : List (List Int)} {m : Int} (h : Kn P T p t al) (hT : ts.length = T) : ∀ {ks : List Int} {D : TM}, (∀ k ∈ ks, 0 ≤ k ∧ k < (P : Int)) → Tb ts D → Tb ts (runT al m ks D)
  | [], _, _, hD => hD
  | k :: ks, D, hk, hD => by
    have hb := hk k List.mem_cons_self
    have hrow : Row T (al.getD k.toNat []) := h.row _ (getD_mem hb.1 (by rw [h.la]; exact hb.2))
    exact Tb.run (ks := ks) h hT (fun x hx => hk x (List.mem_cons_of_mem _ hx)) (Tb.aft (fun x hx => by have := hrow.bd x hx; omega) hD)
def cntK (p t : List Int) (al : List (List Int)) (m : Int) : Int := ((runT al m (spr p 0) [(t, 1 % m)]).map (·.2)).sum % m
theorem Kn.small {P T : Nat} {p t : List Int} {al : List (List Int)} (h : Kn P T p t al) (hs : p.sum ≤ 60) : (∀ x ∈ t, 0 ≤ x ∧ x ≤ 60) ∧ ∀ i, t.getD i 0 ≤ 60 := by
  have h1 : ∀ x ∈ t, 0 ≤ x ∧ x ≤ 60 := fun x hx => by
    have a := le_sum (fun y hy => (h.tb y hy).1) hx
    have := h.sum
    exact ⟨(h.tb x hx).1, by omega⟩
  refine ⟨h1, fun i => ?_⟩
  by_cases c : i < t.length
  · rw [List.getD_eq_getElem?_getD, List.getElem?_eq_getElem c]
    exact (h1 _ (List.getElem_mem c)).2
  · rw [List.getD_eq_getElem?_getD, List.getElem?_eq_none (by omega)]; decide
theorem Bx.self {P T : Nat} {p t : List Int} {al : List (List Int)} (h : Kn P T p t al) : Bx t t := ⟨rfl, fun i => ⟨by
  by_cases c : i < t.length
  · rw [List.getD_eq_getElem?_getD, List.getElem?_eq_getElem c]
    exact (h.tb _ (List.getElem_mem c)).1
  · rw [List.getD_eq_getElem?_getD, List.getElem?_eq_none (by omega)]; decide, Int.le_refl _⟩⟩
theorem many_v {P T : Nat} {p t : List Int} {al : List (List Int)} {m : Int} (hK : Kn P T p t al) (h1 : 1 ≤ m) (h2 : m ≤ 1000000000000000000000000000000) (hs : p.sum ≤ 60) (hst : stN t ≤ 5000) : ∃ r, fn_kinds_many [vv (kD p t al), vv (.int m)] = some (.fd (.val (.int (cntK p t al m))), r) := by
  obtain ⟨r, h⟩ := number_ok h1 h2
  obtain ⟨r2, g⟩ := many_ok hs
  obtain ⟨r3, g3⟩ := many_ok (n := ((stN t : Nat) : Int)) (m := 5000) (by omega)
  obtain ⟨y3, hstt⟩ := states_ok (x0 := vv (kD p t al)) (x1 := vv (.int m)) (x2 := none) (x4 := none) (x5 := none) (hK.small hs).1
  obtain ⟨r4, hsp⟩ := spread_ok (p := p) (by rw [hK.lp]; exact hK.h8) (fun x hx => (hK.pb x hx).1) hs
  have hB := Bx.self hK
  have h60 := (hK.small hs).2
  have hD0 : Tb t [(t, 1 % m)] := ⟨List.nodup_cons.mpr ⟨List.not_mem_nil, List.nodup_nil⟩, fun q hq => by rw [List.mem_singleton.mp hq]; exact hB⟩
  have hkb : ∀ k ∈ spr p 0, 0 ≤ k ∧ k < (P : Int) := fun k hk => by have := spr_bd hk; rw [hK.lp] at this; omega
  obtain ⟨e', hl, y5, rfl⟩ := forD_go (tg := tgn 5) (body := L1_kinds_many)
    (fun i e => ∃ y5, e = [vv (kD p t al), vv (.int m), vv (.int ((stN t : Nat) : Int)), y3, some (.fd (.dit (encT (runT al m ((spr p 0).take i) [(t, 1 % m)])))), y5])
    (ds := (spr p 0).map .int) (e := [vv (kD p t al), vv (.int m), vv (.int ((stN t : Nat) : Int)), y3, some (.fd (.dit (encT [(t, 1 % m)]))), none]) ⟨none, rfl⟩ (by
    rintro i d e hd ⟨y5, rfl⟩
    rw [List.getElem?_map] at hd
    obtain ⟨z, hz, rfl⟩ := map_some hd
    have hi : i < (spr p 0).length := (List.getElem?_eq_some_iff.mp hz).1
    have hb := hkb z (List.mem_of_getElem? hz)
    have e2 : runT al m ((spr p 0).take (i + 1)) [(t, 1 % m)] = aftT (al.getD z.toNat []) m (runT al m ((spr p 0).take i) [(t, 1 % m)]) := by
      rw [List.take_succ_eq_append_getElem hi]
      unfold runT
      rw [List.foldl_append]
      rw [List.getElem?_eq_getElem hi] at hz
      rw [Option.some.inj hz]; rfl
    have hTi := Tb.run (ts := t) (m := m) hK hK.lt (ks := (spr p 0).take i) (fun x hx => hkb x (List.mem_of_mem_take hx)) hD0
    obtain ⟨n, rfl⟩ : ∃ n : Nat, z = (n : Int) := ⟨z.toNat, by omega⟩
    rw [Int.toNat_natCast] at e2
    obtain ⟨r5, ha⟩ := after_ok (m := m) hK (k := n) (by omega) hTi hK.lt hst h60 (by omega)
    rw [e2]
    generalize runT al m ((spr p 0).take i) [(t, 1 % m)] = DD at *
    generalize aftT (al.getD n []) m DD = D2 at *
    generalize encT DD = E1 at *
    generalize encT D2 = E2 at *
    unfold L1_kinds_many
    walk_at "evc"
    rw [ha]
    walk_at "evc"
    exact ⟨_, rfl, _, rfl⟩)
  rw [List.length_map, List.take_length] at hl
  have hv := vsmF_T (M := runT al m (spr p 0) [(t, 1 % m)])
  unfold cntK
  generalize runT al m (spr p 0) [(t, 1 % m)] = DD at *
  have he : encT [(t, 1 % m)] = [(List.map Sum.inl t, D.int (1 % m))] := rfl
  rw [he] at hl
  generalize encT DD = E1 at *
  have hmo : (1 : Int).fmod m = 1 % m := Int.fmod_eq_emod_of_nonneg _ (by omega)
  unfold fn_kinds_many s_kinds_many
  walk_at "evc"
  rw [h]
  walk_at "evc"
  rw [DL.sumB_t]
  walk_at "evc"
  rw [g]
  walk_at "evc"
  rw [hstt]
  walk_at "evc"
  rw [g3]
  walk_at "evc"
  rw [hmo, hsp]
  walk_at "evc"
  rw [hl]
  walk_at "evc"
  rw [hv]
  walk_at "evc"
  rw [Int.fmod_eq_emod_of_nonneg _ (by omega)]
  exact ⟨_, rfl⟩

/-! ### how many ways there are -/
def wy (al : List (List Int)) : List Int → List Int → Int
  | [], _ => 1
  | k :: ks, l => ((al.getD k.toNat []).map fun x => l.getD x.toNat 0 * wy al ks (lessL l x.toNat)).sum
theorem sv_step {ts l : List Int} {m w t : Int} {M : TM} {V : List Int → Int} (hl : Bx ts l) : svT V (stepT m w l M t) % m = (svT V M + w * (l.getD t.toNat 0 * V (lessL l t.toNat))) % m := by
  unfold stepT
  have hb := hl.bd t.toNat
  by_cases c : 0 < l.getD t.toNat 0
  · rw [if_pos c, svT_put]
    generalize (getT M (lessL l t.toNat)).getD 0 = a
    generalize l.getD t.toNat 0 = x
    generalize V (lessL l t.toNat) = v
    generalize svT V M = S
    have e : (S + ((a + w * x) % m - a) * v) = (S + w * (x * v)) + m * (- ((a + w * x) / m) * v) := by
      have := Int.emod_def (a + w * x) m
      rw [this, Int.sub_mul, Int.sub_mul, Int.add_mul, Int.mul_assoc w x v, Int.neg_mul, Int.mul_neg, Int.mul_assoc m]
      omega
    rw [e, Int.add_mul_emod_self_left]
  · rw [if_neg c, show l.getD t.toNat 0 = 0 by omega, Int.zero_mul, Int.mul_zero, Int.add_zero]
theorem sv_row {ts l : List Int} {m w : Int} {V : List Int → Int} (hl : Bx ts l) : ∀ {row : List Int} {M : TM}, svT V (row.foldl (stepT m w l) M) % m = (svT V M + w * (row.map fun x => l.getD x.toNat 0 * V (lessL l x.toNat)).sum) % m
  | [], M => by show _ = (svT V M + w * 0) % m; rw [Int.mul_zero, Int.add_zero]; rfl
  | t :: row, M => by
    rw [List.foldl_cons, sv_row hl (row := row), Int.add_emod, sv_step hl, ← Int.add_emod, List.map_cons, List.sum_cons, Int.mul_add, Int.add_assoc]
theorem sv_aft {ts row : List Int} {m : Int} {V : List Int → Int} : ∀ {D M : TM}, (∀ q ∈ D, Bx ts q.1) → svT V (D.foldl (fun M q => row.foldl (stepT m q.2 q.1) M) M) % m = (svT V M + svT (fun l => (row.map fun x => l.getD x.toNat 0 * V (lessL l x.toNat)).sum) D) % m
  | [], M, _ => by show _ = (svT V M + 0) % m; rw [Int.add_zero]; rfl
  | q :: D, M, h => by
    rw [List.foldl_cons, sv_aft fun x hx => h x (List.mem_cons_of_mem _ hx), Int.add_emod, sv_row (h q List.mem_cons_self), ← Int.add_emod, Int.add_assoc]; rfl
theorem sv_run {P T : Nat} {p t ts : List Int} {al : List (List Int)} {m : Int} (h : Kn P T p t al) (hT : ts.length = T) : ∀ {ks : List Int} {D : TM}, (∀ k ∈ ks, 0 ≤ k ∧ k < (P : Int)) → Tb ts D → svT (fun _ => 1) (runT al m ks D) % m = svT (wy al ks) D % m
  | [], D, _, _ => rfl
  | k :: ks, D, hk, hD => by
    have hb := hk k List.mem_cons_self
    have hrow : Row T (al.getD k.toNat []) := h.row _ (getD_mem hb.1 (by rw [h.la]; exact hb.2))
    have ha : Tb ts (aftT (al.getD k.toNat []) m D) := Tb.aft (fun x hx => by have := hrow.bd x hx; omega) hD
    have := sv_run (m := m) (ks := ks) h hT (fun x hx => hk x (List.mem_cons_of_mem _ hx)) ha
    show svT (fun _ => 1) (runT al m ks (aftT (al.getD k.toNat []) m D)) % m = _
    rw [this]
    unfold aftT
    rw [sv_aft hD.bx]
    show (0 + _) % m = _
    rw [Int.zero_add]; rfl
theorem cntK_eq {P T : Nat} {p t : List Int} {al : List (List Int)} {m : Int} (h : Kn P T p t al) : cntK p t al m = wy al (spr p 0) t % m := by
  have hB := Bx.self h
  have hD0 : Tb t [(t, 1 % m)] := ⟨List.nodup_cons.mpr ⟨List.not_mem_nil, List.nodup_nil⟩, fun q hq => by rw [List.mem_singleton.mp hq]; exact hB⟩
  have hkb : ∀ k ∈ spr p 0, 0 ≤ k ∧ k < (P : Int) := fun k hk => by have := spr_bd hk; rw [h.lp] at this; omega
  have := sv_run (m := m) h h.lt hkb hD0
  unfold cntK
  rw [show ((runT al m (spr p 0) [(t, 1 % m)]).map (·.2)).sum = svT (fun _ => 1) (runT al m (spr p 0) [(t, 1 % m)]) by
    unfold svT
    congr 1
    exact List.map_congr_left fun q _ => (Int.mul_one _).symm]
  rw [this]
  show ((1 % m) * wy al (spr p 0) t + 0) % m = _
  rw [Int.add_zero, Int.mul_emod, Int.emod_emod, ← Int.mul_emod, Int.one_mul]

/-! ### dealings of kinds -/
def cntJ (w : Int → Int) (J : List Int) (x : Int) : Int := ((J.filter fun j => decide (w j = x)).length : Nat)
theorem cntJ_cons {w : Int → Int} {J : List Int} {j x : Int} : cntJ w (j :: J) x = cntJ w J x + if w j = x then 1 else 0 := by
  unfold cntJ
  rw [List.filter_cons]
  by_cases c : w j = x
  · rw [if_pos (decide_eq_true c), if_pos c, List.length_cons]; rfl
  · rw [if_neg (by rw [decide_eq_false c]; exact Bool.false_ne_true), if_neg c]; omega
theorem sum_one {f : Int → Int} {y : Int} : ∀ {row : List Int}, row.Nodup → (row.map fun x => (if y = x then 1 else 0) * f x).sum = if y ∈ row then f y else 0
  | [], _ => rfl
  | x :: row, h => by
    obtain ⟨h1, h2⟩ := List.nodup_cons.mp h
    rw [List.map_cons, List.sum_cons, sum_one h2]
    by_cases c : y = x
    · subst c
      rw [if_pos rfl, if_neg h1, if_pos List.mem_cons_self, Int.one_mul, Int.add_zero]
    · rw [if_neg c, Int.zero_mul, Int.zero_add]
      by_cases d : y ∈ row
      · rw [if_pos d, if_pos (List.mem_cons_of_mem _ d)]
      · rw [if_neg d, if_neg (fun z => (List.mem_cons.mp z).elim c d)]
theorem sum_add {f g : Int → Int} : ∀ {row : List Int}, (row.map fun x => f x + g x).sum = (row.map f).sum + (row.map g).sum
  | [] => rfl
  | x :: row => by rw [List.map_cons, List.map_cons, List.map_cons, List.sum_cons, List.sum_cons, List.sum_cons, sum_add]; omega
theorem sum_by {w g : Int → Int} {row : List Int} (hn : row.Nodup) : ∀ {J : List Int}, ((J.filter fun j => decide (w j ∈ row)).map fun j => g (w j)).sum = (row.map fun x => cntJ w J x * g x).sum
  | [] => by
    show (0 : Int) = _
    clear hn
    induction row with
    | nil => rfl
    | cons x row ih =>
      rw [List.map_cons, List.sum_cons, ← ih]
      show (0 : Int) = 0 * g x + 0
      rw [Int.zero_mul]; rfl
  | j :: J => by
    rw [show (row.map fun x => cntJ w (j :: J) x * g x) = row.map fun x => cntJ w J x * g x + (if w j = x then 1 else 0) * g x from List.map_congr_left fun x _ => by rw [cntJ_cons, Int.add_mul], sum_add, sum_one hn, ← sum_by hn, List.filter_cons]
    by_cases c : w j ∈ row
    · rw [if_pos (decide_eq_true c), if_pos c, List.map_cons, List.sum_cons]; omega
    · rw [if_neg (by rw [decide_eq_false c]; exact Bool.false_ne_true), if_neg c]; omega
theorem cntJ_perm {w : Int → Int} {J K : List Int} {x : Int} (h : J.Perm K) : cntJ w J x = cntJ w K x := by
  unfold cntJ
  rw [(h.filter _).length_eq]
/-- those not yet given -/
def frJ (N : Nat) (told : List Int) : List Int := (rgL 0 N).filter fun j => decide (j ∉ told)
theorem frJ_snoc {N : Nat} {told : List Int} {j : Int} : frJ N (told ++ [j]) = (frJ N told).filter fun i => i != j := by
  unfold frJ
  rw [List.filter_filter]
  refine List.filter_congr fun i _ => ?_
  rw [Bool.eq_iff_iff, Bool.and_eq_true, decide_eq_true_iff, bne_iff_ne, decide_eq_true_iff, List.mem_append, List.mem_singleton]
  exact ⟨fun h => ⟨fun e => h (.inr e), fun e => h (.inl e)⟩, fun h e => e.elim h.2 h.1⟩
theorem rgL_nd0 (N : Nat) : (rgL 0 (N : Int)).Nodup := by
  have : (rgL 0 (N : Int)).Pairwise (· < ·) := by
    unfold rgL
    exact List.pairwise_map.mpr (List.pairwise_lt_range.imp fun h => by omega)
  exact this.imp fun h e => by omega
theorem rgL_mem0 {n : Nat} {x : Int} : x ∈ rgL 0 n ↔ 0 ≤ x ∧ x < n := by
  unfold rgL
  rw [List.mem_map]
  constructor
  · rintro ⟨i, hi, rfl⟩
    have := List.mem_range.mp hi
    omega
  · intro h
    exact ⟨x.toNat, List.mem_range.mpr (by omega), by omega⟩
theorem frJ_nd {N : Nat} {told : List Int} : (frJ N told).Nodup := (rgL_nd0 N).sublist List.filter_sublist
theorem cnt_less {w : Int → Int} {N : Nat} {told : List Int} {j x : Int} (h : j ∈ frJ N told) : cntJ w (frJ N (told ++ [j])) x = cntJ w (frJ N told) x - if w j = x then 1 else 0 := by
  have hp := List.perm_cons_erase h
  rw [List.Nodup.erase_eq_filter frJ_nd, ← frJ_snoc] at hp
  rw [cntJ_perm hp, cntJ_cons]
  omega
def lftL (w : Int → Int) (T N : Nat) (told : List Int) : List Int := (List.range T).map fun x : Nat => cntJ w (frJ N told) (x : Int)
theorem lftL_at {w : Int → Int} {T N : Nat} {told : List Int} {x : Nat} (h : x < T) : (lftL w T N told).getD x 0 = cntJ w (frJ N told) (x : Int) := by
  unfold lftL
  rw [List.getD_eq_getElem?_getD, List.getElem?_map, List.getElem?_range h]; rfl
theorem lft_less {w : Int → Int} {T N : Nat} {told : List Int} {j : Int} (h : j ∈ frJ N told) (h0 : 0 ≤ w j) (h1 : w j < T) : lftL w T N (told ++ [j]) = lessL (lftL w T N told) (w j).toNat := by
  have hl : ∀ told, (lftL w T N told).length = T := fun told => by unfold lftL; rw [List.length_map, List.length_range]
  refine List.ext_getElem (by unfold lessL; rw [List.length_set, hl, hl]) fun i hi1 hi2 => ?_
  rw [hl] at hi1
  have a1 : ∀ (L : List Int) (hh : i < L.length), L[i] = L.getD i 0 := fun L hh => by rw [List.getD_eq_getElem?_getD, List.getElem?_eq_getElem hh]; rfl
  rw [a1 _ (by rw [hl]; exact hi1), a1 _ hi2, less_getD (by rw [hl]; omega), lftL_at hi1, cnt_less h]
  by_cases c : i = (w j).toNat
  · rw [if_pos c, if_pos (by omega), lftL_at (by omega), c]
  · rw [if_neg c, if_neg (by omega), lftL_at hi1, Int.sub_zero]
theorem sum_len {α : Type} {f : α → Nat} : ∀ {l : List α}, ((l.map f).sum : Int) = (l.map fun x => ((f x : Nat) : Int)).sum
  | [] => rfl
  | x :: l => by rw [List.map_cons, List.map_cons, List.sum_cons, List.sum_cons, ← sum_len]; exact Int.natCast_add _ _
abbrev kRow (w : Int → Int) (N : Nat) (row : List Int) : List Int := (rgL 0 (N : Int)).filter fun j => decide (w j ∈ row)
theorem asg_wy {w : Int → Int} {T N P : Nat} {al : List (List Int)} (hla : al.length = P) (hrow : ∀ r ∈ al, Row T r) : ∀ {ks : List Int} {told : List Int}, (∀ k ∈ ks, 0 ≤ k ∧ k < (P : Int)) →
    ((asgL (ks.map fun k => kRow w N (al.getD k.toNat [])) told).length : Int) = wy al ks (lftL w T N told)
  | [], told, _ => rfl
  | k :: ks, told, hk => by
    have hb := hk k List.mem_cons_self
    have hr : Row T (al.getD k.toNat []) := hrow _ (getD_mem hb.1 (by rw [hla]; exact hb.2))
    rw [List.map_cons, asgL_cons, List.length_flatMap]
    unfold wy
    rw [sum_len]
    have e1 : (kRow w N (al.getD k.toNat [])).filter (fun x => decide (x ∉ told)) = (frJ N told).filter fun j => decide (w j ∈ al.getD k.toNat []) := by
      unfold kRow frJ
      rw [List.filter_filter, List.filter_filter]
      exact List.filter_congr fun x _ => Bool.and_comm _ _
    rw [e1, show (((frJ N told).filter fun j => decide (w j ∈ al.getD k.toNat [])).map fun x => (((asgL (ks.map fun k => kRow w N (al.getD k.toNat [])) (told ++ [x])).length : Nat) : Int)) = ((frJ N told).filter fun j => decide (w j ∈ al.getD k.toNat [])).map fun j => (fun x => wy al ks (lessL (lftL w T N told) x.toNat)) (w j) from
      List.map_congr_left fun j hj => by
        obtain ⟨h1, h2⟩ := List.mem_filter.mp hj
        have h3 := hr.bd _ (of_decide_eq_true h2)
        rw [asg_wy hla hrow (fun x hx => hk x (List.mem_cons_of_mem _ hx)), lft_less h1 h3.1 h3.2],
      sum_by (w := w) (g := fun x => wy al ks (lessL (lftL w T N told) x.toNat)) hr.nodup]
    congr 1
    refine List.map_congr_left fun x hx => ?_
    have h3 := hr.bd _ hx
    rw [lftL_at (by omega), show ((x.toNat : Nat) : Int) = x by omega]
theorem rgL_getD : ∀ L : List Int, (rgL 0 (L.length : Int)).map (fun j => L.getD j.toNat 0) = L := fun L => by
  unfold rgL
  rw [List.map_map, show ((L.length : Int) - 0).toNat = L.length by omega]
  refine List.ext_getElem (by rw [List.length_map, List.length_range]) fun i h1 h2 => ?_
  rw [List.getElem_map, List.getElem_range]
  show L.getD (0 + (i : Int)).toNat 0 = _
  rw [show (0 + (i : Int)).toNat = i by omega, List.getD_eq_getElem?_getD, List.getElem?_eq_getElem h2]; rfl
theorem cnt_spr : ∀ {l : List Int} {k i : Nat}, (∀ x ∈ l, 0 ≤ x) → i < l.length → (((spr l k).filter fun y => decide (y = ((k + i : Nat) : Int))).length : Int) = l.getD i 0
  | x :: l, k, i, h, hi => by
    have h0 := h x List.mem_cons_self
    show (((List.replicate x.toNat (k : Int) ++ spr l (k + 1)).filter _).length : Int) = _
    rw [List.filter_append, List.length_append, List.filter_replicate]
    cases i with
    | zero =>
      rw [if_pos (by exact decide_eq_true rfl), List.length_replicate, List.getD_cons_zero]
      have : (spr l (k + 1)).filter (fun y => decide (y = ((k + 0 : Nat) : Int))) = [] := List.filter_eq_nil_iff.mpr fun y hy => by
        have := spr_bd hy
        rw [decide_eq_true_iff]; omega
      rw [this]
      show ((x.toNat + 0 : Nat) : Int) = x
      omega
    | succ i =>
      rw [if_neg (by rw [decide_eq_true_iff]; omega), List.getD_cons_succ]
      have := cnt_spr (l := l) (k := k + 1) (i := i) (fun y hy => h y (List.mem_cons_of_mem _ hy)) (by rw [List.length_cons] at hi; omega)
      rw [show k + (i + 1) = k + 1 + i by omega, ← this]
      show ((0 + _ : Nat) : Int) = _
      rw [Nat.zero_add]
theorem lft_start {t : List Int} (ht : ∀ x ∈ t, 0 ≤ x) : lftL (fun j => (spr t 0).getD j.toNat 0) t.length (spr t 0).length [] = t := by
  refine List.ext_getElem (by unfold lftL; rw [List.length_map, List.length_range]) fun i h1 h2 => ?_
  have a1 : ∀ (L : List Int) (hh : i < L.length), L[i] = L.getD i 0 := fun L hh => by rw [List.getD_eq_getElem?_getD, List.getElem?_eq_getElem hh]; rfl
  rw [a1 _ h1, a1 _ h2, lftL_at h2, ← cnt_spr (k := 0) ht h2, Nat.zero_add]
  unfold cntJ frJ
  rw [show ((rgL 0 ((spr t 0).length : Int)).filter fun j => decide (j ∉ [])) = rgL 0 ((spr t 0).length : Int) from List.filter_eq_self.mpr fun j _ => decide_eq_true List.not_mem_nil]
  have := rgL_getD (spr t 0)
  conv => rhs; rw [← this, List.filter_map, List.length_map]
  rfl
/-- the rows of the table of kinds -/
def kRows (p t : List Int) (al : List (List Int)) : List (List Int) := (spr p 0).map fun k => kRow (fun j => (spr t 0).getD j.toNat 0) (spr t 0).length (al.getD k.toNat [])
theorem dls_kinds {P T : Nat} {p t : List Int} {al : List (List Int)} (h : Kn P T p t al) : ((dls (kRows p t al)).length : Int) = wy al (spr p 0) t := by
  rw [dls_eq]
  unfold kRows
  have hkb : ∀ k ∈ spr p 0, 0 ≤ k ∧ k < (P : Int) := fun k hk => by have := spr_bd hk; rw [h.lp] at this; omega
  rw [asg_wy (T := T) h.la h.row hkb, ← h.lt, lft_start fun x hx => (h.tb x hx).1]

/-! ### orders -/
abbrev fcI (n : Nat) : Int := ((fct n : Nat) : Int)
theorem fcI_succ {x : Int} (h : 1 ≤ x) : x * fcI (x - 1).toNat = fcI x.toNat := by
  obtain ⟨n, rfl⟩ : ∃ n : Nat, x = ((n + 1 : Nat) : Int) := ⟨(x - 1).toNat, by omega⟩
  rw [show ((((n + 1 : Nat) : Int) - 1).toNat) = n by omega, Int.toNat_natCast]
  show _ = (((n + 1) * fct n : Nat) : Int)
  rw [Int.natCast_mul]
theorem fcI_pos (n : Nat) : 0 < fcI n := by
  induction n with
  | zero => decide
  | succ n ih =>
    have := fcI_succ (x := ((n + 1 : Nat) : Int)) (by omega)
    rw [Int.toNat_natCast, show ((((n + 1 : Nat) : Int) - 1).toNat) = n by omega] at this
    rw [← this]
    exact Int.mul_pos (by omega) ih
theorem sum_set1 : ∀ {ns : List Int} {i : Nat} {y : Int}, i < ns.length → (ns.set i y).sum = ns.sum - ns.getD i 0 + y
  | x :: ns, 0, y, _ => by rw [List.set_cons_zero, List.sum_cons, List.sum_cons, List.getD_cons_zero]; omega
  | x :: ns, i + 1, y, h => by
    rw [List.set_cons_succ, List.sum_cons, List.sum_cons, List.getD_cons_succ, sum_set1 (by rw [List.length_cons] at h; omega)]; omega
theorem sum_mul_r {f : Int → Int} {c : Int} : ∀ {l : List Int}, (l.map fun x => f x * c).sum = (l.map f).sum * c
  | [] => (Int.zero_mul c).symm
  | x :: l => by rw [List.map_cons, List.map_cons, List.sum_cons, List.sum_cons, sum_mul_r, Int.add_mul]
abbrev poolO (a b : Int) (cs : List Int) : Option Od := some (.pl [.int a, .int b] (cs.map .int))
def IsPool (o : Option Od) : Prop := ∃ a b cs, o = poolO a b cs
theorem pool_ok (ns : List Int) : ∃ o x, fn__law_pool [vv (.scr ns)] = some (o, [x]) ∧ IsPool (some o) := by
  unfold fn__law_pool s__law_pool
  walk_at "evc"
  have e1 : cutD (ns.map D.int) none (some 1) = (ns.take 1).map .int := by
    have h := DL.cutD_to (xs := ns.map D.int) (k := 1)
    rw [← List.map_take] at h; exact h
  have e2 : cutD (ns.map D.int) none (some 63) = (ns.take 63).map .int := by
    have h := DL.cutD_to (xs := ns.map D.int) (k := 63)
    rw [← List.map_take] at h; exact h
  rw [e1]
  walk_at "evc"
  rw [DL.sumB_s]
  walk_at "evc"
  rw [e2]
  walk_at "evc"
  obtain ⟨e', h, z, x, rfl⟩ := forD_go (tg := tgn 2) (body := L1__law_pool) (fun _ e => ∃ z x, e = [vv (.scr ns), vv (.int z), x])
    (ds := (ns.take 63).map D.int) (e := [vv (.scr ns), vv (.int ((ns.take 1).sum.fmod 1000003 + ns.length + 1)), none]) ⟨_, _, rfl⟩ (by
    rintro i d e hd ⟨z, x, rfl⟩
    rw [List.getElem?_map] at hd
    obtain ⟨c, -, rfl⟩ := map_some hd
    unfold L1__law_pool
    walk_at "evc"
    exact ⟨_, rfl, _, _, rfl⟩)
  rw [h]
  walk_at "evc"
  rw [e2]
  walk_at "evc"
  have hl : (ns.take 63).length ≤ 63 := by rw [List.length_take]; omega
  rw [lcD_filt (p := fun c => decide ((10 : Int) ^ 18 ≤ if c < 0 then -c else c)) (f := fun c : Int => D.int (if c < 0 then -c else c)) (by omega) (fun c hc => by
    unfold C1t__law_pool C1e__law_pool
    by_cases q : (10 : Int) ^ 18 ≤ if c < 0 then -c else c
    · walk_at "evc"
    · walk_at "evc")]
  walk_at "evc"
  exact ⟨_, _, rfl, z, 0, ((ns.take 63).filter fun c => decide ((10 : Int) ^ 18 ≤ if c < 0 then -c else c)).map fun c : Int => if c < 0 then -c else c, by unfold poolO; rw [List.map_map]; rfl⟩
theorem draw_ok {o : Option Od} {n : Int} (ho : IsPool o) (h1 : 0 < n) (h2 : n < 1000000000000000000000000000000000) :
    ∃ r o', fn__law_draw [o, vv (.int n)] = some (.fd (.val (.int r)), [o', vv (.int n)]) ∧ IsPool o' ∧ 0 ≤ r ∧ r < n := by
  obtain ⟨a, b, cs, rfl⟩ := ho
  unfold fn__law_draw s__law_draw poolO
  walk_at "evc"
  cases cs with
  | nil =>
    rw [show decide ((0 : Int) < (([] : List Int).length : Nat)) = false from by decide]
    walk_at "evc"
    exact ⟨_, _, rfl, ⟨a, b + 1, [], rfl⟩, Int.fmod_nonneg_of_pos _ h1, Int.fmod_lt_of_pos _ h1⟩
  | cons x cs =>
    rw [show decide ((0 : Int) < ((x :: cs).length : Nat)) = true from decide_eq_true (by rw [List.length_cons]; omega)]
    walk_at "evc"
    unfold L1__law_draw
    walk_at "evc"
    by_cases hz : x.fdiv n = 0
    · walk_at "evc"
      have hp : popL (D.int (x.fdiv n) :: cs.map D.int) [.int 0] = some (D.int (x.fdiv n), cs.map D.int) := by
        unfold popL
        dsimp only
        rw [if_pos (by omega), DL.seqIx_s (by decide) (by rw [List.length_cons]; omega)]
        rfl
      rw [hp]
      walk_at "evc"
      exact ⟨_, _, rfl, ⟨a, b + 1, cs, rfl⟩, Int.fmod_nonneg_of_pos _ h1, Int.fmod_lt_of_pos _ h1⟩
    · walk_at "evc"
      exact ⟨_, _, rfl, ⟨a, b + 1, _ :: cs, rfl⟩, Int.fmod_nonneg_of_pos _ h1, Int.fmod_lt_of_pos _ h1⟩

/-! ### the law's table of kinds -/
theorem wide_ok {p : List Int} (h1 : 1 ≤ p.length) (h8 : p.length ≤ 8) (hb : ∀ x ∈ p, 0 ≤ x) (hs : p.sum ≤ 60) : ∃ r, fn__law_wide [vv (tupI p)] = some (.fd (.val (.lst ((spr p 0).map .int))), r) := by
  unfold fn__law_wide s__law_wide
  walk_at "evc"
  obtain ⟨e', h, x1, x2, rfl, hx⟩ := forD_go (tg := tgn 2) (body := L1__law_wide)
    (fun i e => ∃ x1 x2, e = [vv (tupI p), x1, x2] ∧ (i = 0 ∧ x1 = vl ((spr (p.take i) 0).map .int) ∨ x1 = vv (.lst ((spr (p.take i) 0).map .int))))
    (ds := rgN 0 p.length) (e := [vv (tupI p), vl [], none]) ⟨_, _, rfl, .inl ⟨rfl, rfl⟩⟩ (by
    rintro i d e hd ⟨x1, x2, rfl, hx⟩
    obtain ⟨hi, rfl⟩ := rgN_at0 hd
    obtain ⟨x, ex, h0, hx60, es, hl⟩ := spread_turn h8 hb hs hi
    have hm := mulL_one (x := (i : Int)) h0 (by omega)
    have hat : (p.map D.int)[i]? = some (.int x) := by rw [List.getElem?_map, ex]; rfl
    rw [es]
    generalize spr (p.take i) 0 = L at *
    have hl2 : (List.replicate x.toNat (i : Int)).length ≤ 60 := by rw [List.length_replicate]; omega
    generalize List.replicate x.toNat (i : Int) = R at *
    unfold L1__law_wide
    rcases hx with ⟨-, rfl⟩ | rfl
    · walk_at "evc"
      rw [hat]
      walk_at "evc"
      rw [hm]
      walk_at "evc"
      exact ⟨_, rfl, _, _, rfl, .inr rfl⟩
    · walk_at "evc"
      rw [hat]
      walk_at "evc"
      rw [hm]
      walk_at "evc"
      exact ⟨_, rfl, _, _, rfl, .inr rfl⟩)
  rw [rgN_len] at hx
  have hx : x1 = vv (.lst ((spr p 0).map .int)) := by
    rcases hx with ⟨h0, -⟩ | hx
    · omega
    · rw [List.take_length] at hx; exact hx
  subst hx
  rw [h]
  walk_at "evc"
  exact ⟨_, rfl⟩
theorem rgN_rgL (n : Nat) : rgN 0 n = (rgL 0 n).map .int := by
  rw [rgN_0]
  unfold rgL
  rw [List.map_map, show ((n : Int) - 0).toNat = n by omega]
  exact List.map_congr_left fun i _ => by show D.int (i : Int) = D.int (0 + (i : Int)); rw [Int.zero_add]
theorem krows_ok {P T : Nat} {p t : List Int} {al : List (List Int)} (h : Kn P T p t al) (hs : p.sum ≤ 60) : ∃ r, fn__law_kind_rows [vv (tupI p), vv (tupI t), vv (rowsD al)] = some (.fd (.val (rowsD (kRows p t al))), r) := by
  have hp0 : ∀ x ∈ p, 0 ≤ x := fun x hx => (h.pb x hx).1
  have ht0 : ∀ x ∈ t, 0 ≤ x := fun x hx => (h.tb x hx).1
  have hts : t.sum ≤ 60 := by have := h.sum; omega
  obtain ⟨r1, w1⟩ := wide_ok (by rw [h.lp]; exact h.h1) (by rw [h.lp]; exact h.h8) hp0 hs
  obtain ⟨r2, w2⟩ := wide_ok (by rw [h.lt]; exact h.t1) (by rw [h.lt]; exact h.t8) ht0 hts
  have hkb : ∀ k ∈ spr p 0, 0 ≤ k ∧ k < (P : Int) := fun k hk => by have := spr_bd hk; rw [h.lp] at this; omega
  have hl1 : ((spr p 0).length : Int) ≤ 60 := by rw [spr_len hp0]; exact hs
  have hl2 : ((spr t 0).length : Int) ≤ 60 := by rw [spr_len ht0]; exact hts
  have hla := h.la
  have hal : ∀ r ∈ al, r.length ≤ 8 := fun r hr => by have := (h.row r hr).len; have := h.t8; omega
  have hal8 : al.length ≤ 8 := by have := h.h8; omega
  unfold kRows
  generalize spr p 0 = W at *
  generalize spr t 0 = V at *
  have hin : ∀ (x4 : Option Od) (k : Int), 0 ≤ k → k < (P : Int) → lcD [4] (tgn 4) C1t__law_kind_rows C1e__law_kind_rows ((rgL 0 (V.length : Int)).map .int) [] [vv (tupI p), vv (tupI t), vv (rowsD al), vv (.lst (V.map .int)), none, vv (.int k)] =
      some ((kRow (fun j => V.getD j.toNat 0) V.length (al.getD k.toNat [])).map .int, [vv (tupI p), vv (tupI t), vv (rowsD al), vv (.lst (V.map .int)), none, vv (.int k)]) := fun x4 k k0 k1 => by
    have hat := tups_at (l := al) (k := k) k0 (by omega)
    have hrl := hal _ (getD_mem (l := al) (k := k) k0 (by omega))
    generalize al.getD k.toNat [] = R at *
    exact lcD_filt (vs := [4]) (tg := tgn 4) (ft := C1t__law_kind_rows) (fe := C1e__law_kind_rows) (enc := D.int) (xs := rgL 0 (V.length : Int)) (p := fun j => decide (V.getD j.toNat 0 ∈ R)) (f := D.int) (by rw [rgL_len]; omega) (fun x hx => by
      have hxb := rgL_mem0.mp hx
      have hvx := int_at (l := V) (k := x) hxb.1 hxb.2
      generalize V.getD x.toNat 0 = v at *
      unfold C1t__law_kind_rows C1e__law_kind_rows
      by_cases c : v ∈ R
      · walk_at "evc"
        rw [hvx]
        walk_at "evc"
        rw [hat]
        walk_at "evc"
      · walk_at "evc"
        rw [hvx]
        walk_at "evc"
        rw [hat]
        walk_at "evc")
  have hout := lcD_mapS (vs := [5]) (tg := tgn 5) (ft := mr true) (fe := C2e__law_kind_rows) (enc := D.int) (xs := W) (f := fun k => tupI (kRow (fun j => V.getD j.toNat 0) V.length (al.getD k.toNat []))) (e := [vv (tupI p), vv (tupI t), vv (rowsD al), vv (.lst (V.map .int)), none, none]) (by omega) (fun x hx => by
    have hb := hkb x hx
    have hi := hin none x hb.1 hb.2
    have hll : (kRow (fun j => V.getD j.toNat 0) V.length (al.getD x.toNat [])).length ≤ 60 := by
      have := List.length_filter_le (fun j : Int => decide (V.getD j.toNat 0 ∈ al.getD x.toNat [])) (rgL 0 (V.length : Int))
      rw [rgL_len] at this
      exact Nat.le_trans this (by omega)
    generalize kRow (fun j => V.getD j.toNat 0) V.length (al.getD x.toNat []) = RR at *
    generalize hrg : (rgL 0 (V.length : Int)).map D.int = RG at *
    have hrgN : rgN 0 V.length = RG := by rw [← hrg]; exact rgN_rgL _
    unfold C2e__law_kind_rows
    walk_at "evc"
    rw [hrgN, hi]
    walk_at "evc")
  unfold fn__law_kind_rows s__law_kind_rows
  walk_at "evc"
  rw [w2]
  walk_at "evc"
  rw [w1]
  walk_at "evc"
  rw [hout]
  walk_at "evc"
  rw [show (List.map (fun k => tupI (kRow (fun j => V.getD j.toNat 0) V.length (al.getD k.toNat []))) W) = (W.map fun k => kRow (fun j => V.getD j.toNat 0) V.length (al.getD k.toNat [])).map tupI from by rw [List.map_map]; rfl]
  exact ⟨_, rfl⟩

theorem dstep_len {found : List (List Int)} {row : List Int} {m : Nat} (h : row.length ≤ m) : (dstep found row).length ≤ found.length * m := by
  unfold dstep
  exact flat_len fun x _ => by
    rw [List.length_map]
    exact Nat.le_trans (List.length_filter_le _ _) h
theorem sortTL_dls {rs : List (List Int)} (hr : Rows rs) (hl1 : 1 ≤ rs.length) (hl : rs.length ≤ 60) : sortTL [.lst ((rs.foldl dstep [[]]).map tupI)] = some (.fd (.lst ((tsort (dls rs)).map tupI))) := by
  have e : rs.foldl dstep [[]] = dls rs := rfl
  rw [e]
  show (toTups ((dls rs).map tupI)).bind (fun ts => if okTL ts = true then some (Od.fd (.lst ((tsort ts).map tupI))) else none) = _
  rw [toTups_s]
  exact if_pos (okTL_mk (d := rs.length) hl1 fun t ht => by
    obtain ⟨h1, h2, h3⟩ := dls_mem.mp ht
    refine ⟨h1, fun x hx => ?_⟩
    obtain ⟨i, hi, rfl⟩ := List.mem_iff_getElem.mp hx
    have := (hr.row _ (List.getElem_mem (l := rs) (n := i) (by omega))).bd _ (h3 i _ rs[i] (List.getElem?_eq_getElem hi) (List.getElem?_eq_getElem (by omega)))
    omega)
/-- the list that sorted gives -/
def srtZ (rs : List (List Int)) : List (List Int) := if (dls rs).length ≤ 1 then dls rs else tsort (dls rs)
theorem srtZ_len {rs : List (List Int)} : (srtZ rs).length = (dls rs).length := by
  unfold srtZ
  by_cases c : (dls rs).length ≤ 1
  · rw [if_pos c]
  · rw [if_neg c, (tsort_perm (dls rs)).length_eq]
theorem sortTZ_dls {rs : List (List Int)} (hr : Rows rs ∨ rs = []) (hl : rs.length ≤ 60) : sortTZ [.lst ((dls rs).map tupI)] = some (.fd (.lst ((srtZ rs).map tupI))) := by
  show (if ((dls rs).map tupI).length ≤ 1 then _ else _) = _
  rw [List.length_map]
  unfold srtZ
  by_cases c : (dls rs).length ≤ 1
  · rw [if_pos c, if_pos c]
  · rw [if_neg c, if_neg c]
    rcases hr with hr | rfl
    · refine sortTL_dls hr ?_ hl
      cases rs with
      | nil => exact absurd (show (1 : Nat) ≤ 1 by decide) c
      | cons a b => rw [List.length_cons]; omega
    · exact absurd (show (1 : Nat) ≤ 1 by decide) c
theorem all_ok {rs : List (List Int)} (hR : Rows rs ∨ rs = []) (hr : ∀ r ∈ rs, r.length ≤ 12) (hl : rs.length ≤ 12) (hc : ∀ i, capA 1 (rs.take i) ≤ 50000) : ∃ r, fn__law_all [vv (rowsD rs)] = some (.fd (.lst ((srtZ rs).map tupI)), r) := by
  have hsort := sortTZ_dls hR (by omega)
  have hb : ∀ i, i ≤ rs.length → ((rs.take i).foldl dstep [[]]).length ≤ capA 1 (rs.take i) := by
    intro i
    induction i with
    | zero => intro _; exact Nat.le_refl _
    | succ i ih =>
      intro h
      have h1 := ih (by omega)
      rw [List.take_succ_eq_append_getElem (by omega), List.foldl_append, capA_snoc]
      have h3 := dstep_len (found := (rs.take i).foldl dstep [[]]) (row := rs[i]) (m := rs[i].length) (Nat.le_refl _)
      exact Nat.le_trans h3 (Nat.mul_le_mul_right _ h1)
  have hb2 : ∀ i, i < rs.length → ((rs.take i).foldl dstep [[]]).length ≤ 50000 := fun i hi => Nat.le_trans (hb i (by omega)) (hc i)
  unfold fn__law_all s__law_all
  walk_at "evc"
  obtain ⟨e', h, x1, x2, x3, x4, rfl, h1⟩ := forD_go (tg := tgn 2) (body := L1__law_all)
    (fun i e => ∃ x1 x2 x3 x4, e = [vv (rowsD rs), x1, x2, x3, x4, none] ∧ (i = 0 ∧ x1 = vl (((rs.take i).foldl dstep [[]]).map tupI) ∨ x1 = vv (.lst (((rs.take i).foldl dstep [[]]).map tupI))))
    (ds := rs.map tupI) (e := [vv (rowsD rs), vl [.tup []], none, none, none, none]) ⟨_, _, _, _, rfl, .inl ⟨rfl, rfl⟩⟩ (by
    rintro i d e hd ⟨x1, x2, x3, x4, rfl, h1⟩
    have hi : i < rs.length := by
      have := (List.getElem?_eq_some_iff.mp hd).1
      rwa [List.length_map] at this
    rw [List.getElem?_map] at hd
    obtain ⟨row, hrow, rfl⟩ := map_some hd
    have hrl := hr row (List.mem_of_getElem? hrow)
    have hn := hb2 i hi
    have es : (rs.take (i + 1)).foldl dstep [[]] = dstep ((rs.take i).foldl dstep [[]]) row := by
      rw [List.take_succ_eq_append_getElem hi, List.foldl_append]
      rw [List.getElem?_eq_getElem hi] at hrow
      rw [Option.some.inj hrow]; rfl
    have hlen : ∀ t ∈ (rs.take i).foldl dstep [[]], t.length ≤ 1000 := fun t ht => by
      have := dfold_len ht
      rw [List.length_take] at this; omega
    rw [es]
    generalize (rs.take i).foldl dstep [[]] = found at hn h1 hlen ⊢
    have inner : ∃ e', forD (tgn 4) L2__law_all (found.map tupI) [vv (rowsD rs), vv (.lst (found.map tupI)), vv (tupI row), vl [], x4, none] = some (.nx, e') ∧ ∃ x4, e' = [vv (rowsD rs), vv (.lst (found.map tupI)), vv (tupI row), vl ((dstep found row).map tupI), x4, none] := by
      obtain ⟨e', h, x4, rfl⟩ := forD_go (tg := tgn 4) (body := L2__law_all)
        (fun j e => ∃ x4, e = [vv (rowsD rs), vv (.lst (found.map tupI)), vv (tupI row), vl ((dstep (found.take j) row).map tupI), x4, none])
        (ds := found.map tupI) (e := [vv (rowsD rs), vv (.lst (found.map tupI)), vv (tupI row), vl [], x4, none]) ⟨_, rfl⟩ (by
        rintro j d e hd ⟨x4, rfl⟩
        have hj : j < found.length := by
          have := (List.getElem?_eq_some_iff.mp hd).1
          rwa [List.length_map] at this
        rw [List.getElem?_map] at hd
        obtain ⟨told, ht, rfl⟩ := map_some hd
        have e2 : dstep (found.take (j + 1)) row = dstep (found.take j) row ++ (row.filter fun x => decide (x ∉ told)).map fun x => told ++ [x] := by
          rw [List.take_succ_eq_append_getElem hj]
          rw [List.getElem?_eq_getElem hj] at ht
          unfold dstep
          rw [List.flatMap_append, Option.some.inj ht]
          simp
        have h4 := dstep_len (found := found.take j) (row := row) (m := 12) (by omega)
        rw [List.length_take] at h4
        have h5 := List.length_filter_le (fun x => decide (x ∉ told)) row
        have h6 : told.length ≤ 1000 := hlen told (List.mem_of_getElem? ht)
        rw [e2]
        unfold L2__law_all
        walk_at "evc"
        rw [lcD_filt (p := fun x => decide (x ∉ told)) (f := fun x => tupI (told ++ [x])) (by omega) (fun x hx => by
          unfold C1t__law_all C1e__law_all
          by_cases c : x ∈ told
          · walk_at "evc"
          · walk_at "evc")]
        walk_at "evc"
        refine ⟨_, rfl, vv (tupI told), ?_⟩
        rw [List.map_append, List.map_map]
        rfl)
      rw [List.length_map, List.take_length] at h
      exact ⟨_, h, _, rfl⟩
    obtain ⟨e', h, y4, rfl⟩ := inner
    unfold L1__law_all
    rcases h1 with ⟨_, rfl⟩ | rfl
    all_goals
      walk_at "evc"
      rw [h]
      walk_at "evc"
      exact ⟨_, rfl, _, _, _, _, rfl, .inr rfl⟩)
  rw [h]
  rw [List.length_map, List.take_length] at h1
  rcases h1 with ⟨h0, rfl⟩ | rfl
  · have e : rs.foldl dstep [[]] = dls rs := rfl
    rw [e]
    walk_at "evc"
    rw [hsort]
    walk_at "evc"
    exact ⟨_, rfl⟩
  · have e : rs.foldl dstep [[]] = dls rs := rfl
    rw [e]
    walk_at "evc"
    rw [hsort]
    walk_at "evc"
    exact ⟨_, rfl⟩

/-! ### all but the own names: less and more by signs -/
def wyU (al : List (List Int)) : List Int → List Int → Nat → Int
  | [], _, f => fcI f
  | k :: ks, l, f => ((al.getD k.toNat []).map fun x => l.getD x.toNat 0 * wyU al ks (lessL l x.toNat) f).sum
theorem wyU_0 {al : List (List Int)} : ∀ {ks l : List Int}, wyU al ks l 0 = wy al ks l
  | [], _ => rfl
  | k :: ks, l => by
    unfold wyU wy
    congr 1
    exact List.map_congr_left fun x _ => by rw [wyU_0]
def oth (K : Nat) : List (List Int) := (rgL 0 K).map fun k => (rgL 0 K).filter fun x => !decide (x = k)
theorem oth_at {K : Nat} {k : Int} (h1 : 0 ≤ k) (h2 : k < (K : Int)) : (oth K).getD k.toNat [] = (rgL 0 K).filter fun x => !decide (x = k) := by
  unfold oth rgL
  rw [List.map_map, List.getD_eq_getElem?_getD, List.getElem?_map, List.getElem?_range (by omega), Option.map_some, Option.getD_some]
  refine List.filter_congr fun x _ => ?_
  have e : (fun i : Nat => 0 + (i : Int)) k.toNat = k := by show 0 + ((k.toNat : Nat) : Int) = k; omega
  rw [e]
theorem less_less {l : List Int} {i j : Nat} (hi : i < l.length) (hj : j < l.length) : lessL (lessL l i) j = lessL (lessL l j) i := by
  by_cases c : i = j
  · rw [c]
  · unfold lessL
    rw [show (l.set i (l.getD i 0 - 1)).getD j 0 = l.getD j 0 by rw [List.getD_eq_getElem?_getD, List.getElem?_set_ne c, List.getD_eq_getElem?_getD],
      show (l.set j (l.getD j 0 - 1)).getD i 0 = l.getD i 0 by rw [List.getD_eq_getElem?_getD, List.getElem?_set_ne (Ne.symm c), List.getD_eq_getElem?_getD], List.set_comm _ _ c]
theorem mul_less {l : List Int} {i j : Nat} (hi : i < l.length) (hj : j < l.length) : l.getD i 0 * (lessL l i).getD j 0 = l.getD j 0 * (lessL l j).getD i 0 := by
  rw [less_getD hi, less_getD hj]
  by_cases c : j = i
  · subst c; rfl
  · rw [if_neg c, if_neg (Ne.symm c), Int.mul_comm]
theorem sum_mul_l {α : Type} {f : α → Int} {c : Int} : ∀ {l : List α}, (l.map fun x => c * f x).sum = c * (l.map f).sum
  | [] => (Int.mul_zero c).symm
  | x :: l => by rw [List.map_cons, List.map_cons, List.sum_cons, List.sum_cons, sum_mul_l, Int.mul_add]
theorem sum_addG {α : Type} {f g : α → Int} : ∀ {row : List α}, (row.map fun x => f x + g x).sum = (row.map f).sum + (row.map g).sum
  | [] => rfl
  | x :: row => by rw [List.map_cons, List.map_cons, List.map_cons, List.sum_cons, List.sum_cons, List.sum_cons, sum_addG]; omega
theorem sum_swap {α β : Type} {F : α → β → Int} : ∀ {a : List α} {b : List β}, (a.map fun x => (b.map fun y => F x y).sum).sum = (b.map fun y => (a.map fun x => F x y).sum).sum
  | [], b => by
    show (0 : Int) = _
    induction b with
    | nil => rfl
    | cons y b ih => rw [List.map_cons, List.sum_cons, ← ih]; rfl
  | x :: a, b => by
    rw [List.map_cons, List.sum_cons, sum_swap, ← sum_addG]
    congr 1
/-- numbers left of K kinds -/
structure Lf (K : Nat) (l : List Int) : Prop where
  len : l.length = K
  nn : ∀ i, 0 ≤ l.getD i 0
theorem Lf.less {K i : Nat} {l : List Int} (h : Lf K l) (hi : i < K) (hp : 0 < l.getD i 0) : Lf K (lessL l i) := ⟨by rw [List.length_set]; exact h.len, fun j => by
  rw [less_getD (by rw [h.len]; exact hi)]
  by_cases d : j = i
  · rw [if_pos d]; omega
  · rw [if_neg d]; exact h.nn j⟩
theorem less_sum {l : List Int} {i : Nat} (hi : i < l.length) : (lessL l i).sum = l.sum - 1 := by rw [sum_set1 hi]; omega
theorem sum_all {K : Nat} {l : List Int} (h : l.length = K) : ((rgL 0 (K : Int)).map fun x => l.getD x.toNat 0).sum = l.sum := by
  rw [← h, rgL_getD]
/-- one more who may get anything -/
theorem wyU_free {al : List (List Int)} {K : Nat} (hal : ∀ r ∈ al, ∀ x ∈ r, 0 ≤ x ∧ x < (K : Int)) (hl0 : ∀ n : Nat, al.getD n [] ∈ al ∨ al.getD n [] = []) : ∀ {ks l : List Int} {f : Nat}, Lf K l → l.sum = ((ks.length + f + 1 : Nat) : Int) →
    ((rgL 0 (K : Int)).map fun x => l.getD x.toNat 0 * wyU al ks (lessL l x.toNat) f).sum = wyU al ks l (f + 1)
  | [], l, f, h, hs => by
    show ((rgL 0 (K : Int)).map fun x => l.getD x.toNat 0 * fcI f).sum = fcI (f + 1)
    rw [sum_mul_r, sum_all h.len, hs]
    have := fcI_succ (x := ((f + 1 : Nat) : Int)) (by omega)
    rw [Int.toNat_natCast, show ((((f + 1 : Nat) : Int) - 1).toNat) = f by omega] at this
    rw [← this, List.length_nil, Nat.zero_add]
  | k :: ks, l, f, h, hs => by
    show ((rgL 0 (K : Int)).map fun x => l.getD x.toNat 0 * ((al.getD k.toNat []).map fun y => (lessL l x.toNat).getD y.toNat 0 * wyU al ks (lessL (lessL l x.toNat) y.toNat) f).sum).sum = ((al.getD k.toNat []).map fun y => l.getD y.toNat 0 * wyU al ks (lessL l y.toNat) (f + 1)).sum
    have hrow : ∀ y ∈ al.getD k.toNat [], 0 ≤ y ∧ y < (K : Int) := fun y hy => by
      rcases hl0 k.toNat with h1 | h1
      · exact hal _ h1 y hy
      · rw [h1] at hy; exact absurd hy List.not_mem_nil
    generalize al.getD k.toNat [] = row at *
    rw [show ((rgL 0 (K : Int)).map fun x => l.getD x.toNat 0 * (row.map fun y => (lessL l x.toNat).getD y.toNat 0 * wyU al ks (lessL (lessL l x.toNat) y.toNat) f).sum) =
      (rgL 0 (K : Int)).map fun x => (row.map fun y => l.getD x.toNat 0 * ((lessL l x.toNat).getD y.toNat 0 * wyU al ks (lessL (lessL l x.toNat) y.toNat) f)).sum from List.map_congr_left fun x _ => sum_mul_l.symm, sum_swap]
    congr 1
    refine List.map_congr_left fun y hy => ?_
    have hy2 := hrow y hy
    have hyl : y.toNat < l.length := by rw [h.len]; omega
    rw [show ((rgL 0 (K : Int)).map fun x => l.getD x.toNat 0 * ((lessL l x.toNat).getD y.toNat 0 * wyU al ks (lessL (lessL l x.toNat) y.toNat) f)) =
      (rgL 0 (K : Int)).map fun x => l.getD y.toNat 0 * ((lessL l y.toNat).getD x.toNat 0 * wyU al ks (lessL (lessL l y.toNat) x.toNat) f) from List.map_congr_left fun x hx => by
        have hx2 := rgL_mem0.mp hx
        have hxl : x.toNat < l.length := by rw [h.len]; omega
        rw [less_less hxl hyl, ← Int.mul_assoc, ← Int.mul_assoc, mul_less hxl hyl], sum_mul_l]
    by_cases c : 0 < l.getD y.toNat 0
    · rw [wyU_free hal hl0 (ks := ks) (h.less (by omega) c) (by rw [less_sum hyl, hs, List.length_cons]; omega)]
    · have : l.getD y.toNat 0 = 0 := by have := h.nn y.toNat; omega
      rw [this, Int.zero_mul, Int.zero_mul]
def gSg : List Int → List Int → Nat → Int
  | [], _, f => fcI f
  | k :: ks, l, f => gSg ks l (f + 1) - l.getD k.toNat 0 * gSg ks (lessL l k.toNat) f
theorem sum_but {f : Int → Int} {k : Int} : ∀ {l : List Int}, l.Nodup → k ∈ l → ((l.filter fun x => !decide (x = k)).map f).sum = (l.map f).sum - f k
  | x :: l, hn, hk => by
    obtain ⟨h1, h2⟩ := List.nodup_cons.mp hn
    rw [List.filter_cons, List.map_cons, List.sum_cons]
    by_cases c : x = k
    · subst c
      rw [if_neg (by simp), List.filter_eq_self.mpr fun y hy => by
        have : y ≠ x := fun e => h1 (by rw [← e]; exact hy)
        simp [this]]
      omega
    · have hk2 : k ∈ l := (List.mem_cons.mp hk).elim (fun e => absurd e.symm c) id
      rw [if_pos (by simp [c]), List.map_cons, List.sum_cons, sum_but h2 hk2]; omega
theorem oth_len (K : Nat) : (oth K).length = K := by unfold oth; rw [List.length_map, rgL_len]; omega
theorem oth_in {K : Nat} : ∀ r ∈ oth K, ∀ x ∈ r, 0 ≤ x ∧ x < (K : Int) := fun r hr x hx => by
  obtain ⟨k, -, rfl⟩ := List.mem_map.mp hr
  exact rgL_mem0.mp (List.mem_filter.mp hx).1
theorem getD_or {K : Nat} (n : Nat) : (oth K).getD n [] ∈ oth K ∨ (oth K).getD n [] = [] := by
  by_cases c : n < (oth K).length
  · left; rw [List.getD_eq_getElem?_getD, List.getElem?_eq_getElem c]; exact List.getElem_mem c
  · right; rw [List.getD_eq_getElem?_getD, List.getElem?_eq_none (by omega)]; rfl
theorem wyU_g {K : Nat} : ∀ {ks l : List Int} {f : Nat}, (∀ k ∈ ks, 0 ≤ k ∧ k < (K : Int)) → Lf K l → l.sum = ((ks.length + f : Nat) : Int) → wyU (oth K) ks l f = gSg ks l f
  | [], _, _, _, _, _ => rfl
  | k :: ks, l, f, hk, h, hs => by
    have hb := hk k List.mem_cons_self
    have hk2 : ∀ x ∈ ks, 0 ≤ x ∧ x < (K : Int) := fun x hx => hk x (List.mem_cons_of_mem _ hx)
    have hkl : k.toNat < l.length := by rw [h.len]; omega
    rw [List.length_cons] at hs
    show (((oth K).getD k.toNat []).map fun x => l.getD x.toNat 0 * wyU (oth K) ks (lessL l x.toNat) f).sum = gSg ks l (f + 1) - l.getD k.toNat 0 * gSg ks (lessL l k.toNat) f
    rw [oth_at hb.1 hb.2, sum_but (f := fun x => l.getD x.toNat 0 * wyU (oth K) ks (lessL l x.toNat) f) (rgL_nd0 K) (rgL_mem0.mpr hb), wyU_free oth_in getD_or h (by rw [hs]; omega), wyU_g hk2 h (by rw [hs]; omega)]
    congr 1
    by_cases c : 0 < l.getD k.toNat 0
    · rw [wyU_g hk2 (h.less (by omega) c) (by rw [less_sum hkl, hs]; omega)]
    · have : l.getD k.toNat 0 = 0 := by have := h.nn k.toNat; omega
      rw [this, Int.zero_mul, Int.zero_mul]

/-! ### sums by numbers -/
def sumN : Nat → (Nat → Int) → Int
  | 0, _ => 0
  | n + 1, f => sumN n f + f n
theorem sumN_congr {f g : Nat → Int} : ∀ {n : Nat}, (∀ j, j < n → f j = g j) → sumN n f = sumN n g
  | 0, _ => rfl
  | n + 1, h => by
    unfold sumN
    rw [sumN_congr fun j hj => h j (by omega), h n (by omega)]
theorem sumN_add {f g : Nat → Int} : ∀ {n : Nat}, sumN n (fun j => f j + g j) = sumN n f + sumN n g
  | 0 => rfl
  | n + 1 => by
    show sumN n (fun j => f j + g j) + (f n + g n) = (sumN n f + f n) + (sumN n g + g n)
    rw [sumN_add]; omega
theorem sumN_mul {f : Nat → Int} {c : Int} : ∀ {n : Nat}, sumN n (fun j => c * f j) = c * sumN n f
  | 0 => (Int.mul_zero c).symm
  | n + 1 => by unfold sumN; rw [sumN_mul, Int.mul_add]
theorem sumN_front {f : Nat → Int} : ∀ {n : Nat}, sumN (n + 1) f = f 0 + sumN n fun j => f (j + 1)
  | 0 => by show 0 + f 0 = f 0 + 0; omega
  | n + 1 => by
    show sumN (n + 1) f + f (n + 1) = _
    rw [sumN_front]
    show _ = f 0 + (sumN n (fun j => f (j + 1)) + f (n + 1))
    omega
theorem sumN_rev {f : Nat → Int} : ∀ {n : Nat}, sumN (n + 1) (fun a => f (n - a)) = sumN (n + 1) f
  | 0 => rfl
  | n + 1 => by
    rw [sumN_front]
    show f (n + 1 - 0) + sumN (n + 1) (fun j => f (n + 1 - (j + 1))) = sumN (n + 1) f + f (n + 1)
    rw [sumN_congr (g := fun j => f (n - j)) fun j _ => by rw [show n + 1 - (j + 1) = n - j by omega], sumN_rev, Nat.sub_zero]; omega
theorem sumN_zero : ∀ {n : Nat}, sumN n (fun _ => 0) = 0
  | 0 => rfl
  | n + 1 => by unfold sumN; rw [sumN_zero]; rfl
def sg (j : Nat) : Int := if j % 2 = 0 then 1 else -1
theorem sg_succ (j : Nat) : sg (j + 1) = - sg j := by
  unfold sg
  by_cases c : j % 2 = 0
  · rw [if_pos c, if_neg (by omega)]
  · rw [if_neg c, if_pos (by omega)]; rfl
theorem sg_add (i : Nat) : ∀ j : Nat, sg (i + j) = sg i * sg j
  | 0 => by show sg i = sg i * 1; rw [Int.mul_one]
  | j + 1 => by rw [← Nat.add_assoc, sg_succ, sg_succ, sg_add i j, Int.mul_neg]
def bin : Nat → Nat → Nat
  | _, 0 => 1
  | 0, _ + 1 => 0
  | n + 1, j + 1 => bin n j + bin n (j + 1)
theorem bin_big : ∀ {n j : Nat}, n < j → bin n j = 0
  | 0, 0, h => absurd h (by omega)
  | 0, j + 1, _ => rfl
  | n + 1, 0, h => absurd h (by omega)
  | n + 1, j + 1, h => by
    show bin n j + bin n (j + 1) = 0
    rw [bin_big (by omega), bin_big (by omega)]
theorem bin_0 (n : Nat) : bin n 0 = 1 := by cases n <;> rfl
theorem bin_step : ∀ (n j : Nat), bin n (j + 1) * (j + 1) = bin n j * (n - j)
  | 0, j => by show 0 * (j + 1) = _; rw [Nat.zero_mul, Nat.zero_sub, Nat.mul_zero]
  | n + 1, 0 => by
    show (bin n 0 + bin n 1) * 1 = bin (n + 1) 0 * (n + 1)
    have h : bin n 1 * 1 = bin n 0 * n := bin_step n 0
    rw [bin_0] at h
    rw [bin_0, bin_0]
    omega
  | n + 1, j + 1 => by
    show (bin n (j + 1) + bin n (j + 2)) * (j + 2) = (bin n j + bin n (j + 1)) * (n + 1 - (j + 1))
    have h1 := bin_step n j
    have h2 := bin_step n (j + 1)
    rw [show n + 1 - (j + 1) = n - j by omega, Nat.add_mul, Nat.add_mul, ← h1]
    have h2' : bin n (j + 2) * (j + 2) = bin n (j + 1) * (n - (j + 1)) := h2
    rw [h2']
    by_cases c : j + 1 ≤ n
    · rw [show n - j = n - (j + 1) + 1 by omega, ← Nat.mul_add, ← Nat.mul_add]
      congr 1; omega
    · rw [bin_big (n := n) (j := j + 1) (by omega)]; omega
def dsc : Nat → Nat → Nat
  | _, 0 => 1
  | y, j + 1 => y * dsc (y - 1) j
theorem dsc_back : ∀ (j y : Nat), dsc y (j + 1) = dsc y j * (y - j)
  | 0, y => by show y * 1 = 1 * (y - 0); omega
  | j + 1, y => by
    show y * dsc (y - 1) (j + 1) = y * dsc (y - 1) j * (y - (j + 1))
    rw [dsc_back j (y - 1), show y - 1 - j = y - (j + 1) by omega, Nat.mul_assoc]
/-- how many ways so many can draw j names of y -/
def cc (n y j : Nat) : Int := ((bin n j * dsc y j : Nat) : Int)
theorem cc_0 (n y : Nat) : cc n y 0 = 1 := by
  unfold cc; rw [bin_0]; rfl
theorem cc_big {n y j : Nat} (h : n < j) : cc n y j = 0 := by unfold cc; rw [bin_big h, Nat.zero_mul]; rfl
theorem cc_succ (n y j : Nat) (hy : 0 < y) : cc (n + 1) y (j + 1) = cc n y (j + 1) + (y : Int) * cc n (y - 1) j := by
  unfold cc
  show (((bin n j + bin n (j + 1)) * dsc y (j + 1) : Nat) : Int) = _
  rw [← Int.natCast_mul, ← Int.natCast_add]
  congr 1
  rw [Nat.add_mul, Nat.add_comm]
  congr 1
  show bin n j * (y * dsc (y - 1) j) = y * (bin n j * dsc (y - 1) j)
  rw [Nat.mul_left_comm]
theorem cc_none (n j : Nat) : cc (n + 1) 0 j = cc n 0 j := by
  cases j with
  | zero => rw [cc_0, cc_0]
  | succ j =>
    unfold cc
    rw [show dsc 0 (j + 1) = 0 from Nat.zero_mul _, Nat.mul_zero, Nat.mul_zero]
theorem cc_own {s j : Nat} (h : j < s) : cc s s (j + 1) * ((j : Int) + 1) = cc s s j * ((s : Int) - j) * ((s : Int) - j) := by
  unfold cc
  have h1 := bin_step s j
  rw [show (s : Int) - j = ((s - j : Nat) : Int) by omega, show (j : Int) + 1 = ((j + 1 : Nat) : Int) by omega, ← Int.natCast_mul, ← Int.natCast_mul, ← Int.natCast_mul]
  congr 1
  rw [dsc_back, Nat.mul_right_comm, h1, Nat.mul_assoc, Nat.mul_assoc, Nat.mul_assoc]
  congr 1
  rw [Nat.mul_left_comm]
theorem gS_set {i : Nat} {z : Int} : ∀ {ks l : List Int} {f : Nat}, (∀ k ∈ ks, k.toNat ≠ i) → gSg ks (l.set i z) f = gSg ks l f
  | [], _, _, _ => rfl
  | k :: ks, l, f, h => by
    have hk := h k List.mem_cons_self
    have h2 : ∀ x ∈ ks, x.toNat ≠ i := fun x hx => h x (List.mem_cons_of_mem _ hx)
    show gSg ks (l.set i z) (f + 1) - (l.set i z).getD k.toNat 0 * gSg ks (lessL (l.set i z) k.toNat) f = gSg ks l (f + 1) - l.getD k.toNat 0 * gSg ks (lessL l k.toNat) f
    have e1 : (l.set i z).getD k.toNat 0 = l.getD k.toNat 0 := by rw [List.getD_eq_getElem?_getD, List.getElem?_set_ne (Ne.symm hk), List.getD_eq_getElem?_getD]
    have e2 : lessL (l.set i z) k.toNat = (lessL l k.toNat).set i z := by
      unfold lessL
      rw [e1, List.set_comm _ _ (Ne.symm hk)]
    rw [e1, e2, gS_set h2, gS_set h2]
theorem gS_block {k : Int} {ks : List Int} (hks : ∀ x ∈ ks, x.toNat ≠ k.toNat) : ∀ {n y : Nat} {l : List Int} {f : Nat}, k.toNat < l.length → l.getD k.toNat 0 = (y : Int) →
    gSg (List.replicate n k ++ ks) l f = sumN (n + 1) fun j => sg j * cc n y j * gSg ks l (f + n - j)
  | 0, y, l, f, hk, hy => by
    show gSg ks l f = 0 + sg 0 * cc 0 y 0 * gSg ks l (f + 0 - 0)
    rw [cc_0, show sg 0 = 1 from rfl, Int.one_mul, Int.one_mul, Int.zero_add]; rfl
  | n + 1, y, l, f, hk, hy => by
    rw [List.replicate_succ, List.cons_append]
    show gSg (List.replicate n k ++ ks) l (f + 1) - l.getD k.toNat 0 * gSg (List.replicate n k ++ ks) (lessL l k.toNat) f = _
    rw [gS_block hks (n := n) (y := y) hk hy, hy]
    have ext : sumN (n + 1) (fun j => sg j * cc n y j * gSg ks l (f + 1 + n - j)) = sumN (n + 1 + 1) (fun j => sg j * cc n y j * gSg ks l (f + (n + 1) - j)) := by
      show _ = sumN (n + 1) (fun j => sg j * cc n y j * gSg ks l (f + (n + 1) - j)) + sg (n + 1) * cc n y (n + 1) * gSg ks l (f + (n + 1) - (n + 1))
      rw [cc_big (n := n) (j := n + 1) (by omega), Int.mul_zero, Int.zero_mul, Int.add_zero]
      exact sumN_congr fun j _ => by rw [show f + 1 + n - j = f + (n + 1) - j by omega]
    rw [ext]
    by_cases c : y = 0
    · subst c
      rw [show ((0 : Nat) : Int) = 0 from rfl, Int.zero_mul, Int.sub_zero]
      exact sumN_congr fun j _ => by rw [cc_none]
    · rw [gS_block hks (n := n) (y := y - 1) (l := lessL l k.toNat) (by rw [List.length_set]; exact hk) (by rw [less_getD hk, if_pos rfl, hy]; omega),
        sumN_front, sumN_front (f := fun j => sg j * cc (n + 1) y j * gSg ks l (f + (n + 1) - j)), cc_0, cc_0, Int.add_sub_assoc, ← sumN_mul]
      congr 1
      rw [Int.sub_eq_add_neg, show - sumN (n + 1) (fun j => (y : Int) * (sg j * cc n (y - 1) j * gSg ks (lessL l k.toNat) (f + n - j))) = sumN (n + 1) fun j => (-1) * ((y : Int) * (sg j * cc n (y - 1) j * gSg ks (lessL l k.toNat) (f + n - j))) by
        rw [sumN_mul (c := (-1 : Int))]; omega, ← sumN_add]
      refine sumN_congr fun j _ => ?_
      unfold lessL
      rw [gS_set hks, cc_succ n y j (by omega), sg_succ, show f + (n + 1) - (j + 1) = f + n - j by omega, Int.mul_add, Int.add_mul]
      congr 1
      rw [Int.neg_mul, Int.neg_mul, Int.one_mul, Int.neg_mul]
      congr 1
      rw [← Int.mul_assoc, ← Int.mul_assoc, ← Int.mul_assoc, Int.mul_comm (y : Int) (sg j)]
/-- what is less and more by signs of the families yet to come -/
def tS : List Nat → Nat → Int
  | [], f => fcI f
  | s :: r, f => sumN (s + 1) fun j => sg j * cc s s j * tS r (f + s - j)
theorem gS_t : ∀ {ns : List Int} {k : Nat} {l : List Int} {f : Nat}, (∀ x ∈ ns, 0 ≤ x) → (∀ i, i < ns.length → k + i < l.length ∧ l.getD (k + i) 0 = ns.getD i 0) → gSg (spr ns k) l f = tS (ns.map Int.toNat) f
  | [], _, _, _, _, _ => rfl
  | x :: ns, k, l, f, h0, hl => by
    have hx := h0 x List.mem_cons_self
    have h1 := hl 0 (by rw [List.length_cons]; omega)
    rw [Nat.add_zero, List.getD_cons_zero] at h1
    show gSg (List.replicate x.toNat (k : Int) ++ spr ns (k + 1)) l f = sumN (x.toNat + 1) fun j => sg j * cc x.toNat x.toNat j * tS (ns.map Int.toNat) (f + x.toNat - j)
    rw [gS_block (fun y hy => by have := spr_bd hy; omega) (n := x.toNat) (y := x.toNat) (by rw [Int.toNat_natCast]; exact h1.1) (by rw [Int.toNat_natCast, h1.2]; omega)]
    refine sumN_congr fun j _ => ?_
    rw [gS_t (ns := ns) (k := k + 1) (fun y hy => h0 y (List.mem_cons_of_mem _ hy)) fun i hi => by
      have := hl (i + 1) (by rw [List.length_cons]; omega)
      rw [List.getD_cons_succ] at this
      rw [show k + 1 + i = k + (i + 1) by omega]; exact this]
theorem wy_fam {ns : List Int} (h0 : ∀ x ∈ ns, 0 ≤ x) : wy (oth ns.length) (spr ns 0) ns = tS (ns.map Int.toNat) 0 := by
  have hn : ∀ i, 0 ≤ ns.getD i 0 := fun i => by
    by_cases c : i < ns.length
    · rw [List.getD_eq_getElem?_getD, List.getElem?_eq_getElem c]; exact h0 _ (List.getElem_mem c)
    · rw [List.getD_eq_getElem?_getD, List.getElem?_eq_none (by omega)]; exact Int.le_refl 0
  rw [← wyU_0, wyU_g (K := ns.length) (fun k hk => by have := spr_bd hk; omega) ⟨rfl, hn⟩ (by rw [← spr_len (k := 0) h0]; rfl), gS_t h0 fun i hi => ⟨by omega, by rw [Nat.zero_add]⟩]

/-! ### one family that is half, or more -/
def ctK (k : Int) (ks : List Int) : Nat := (ks.filter fun x => decide (x = k)).length
theorem ctK_cons {k a : Int} {ks : List Int} : ctK k (a :: ks) = ctK k ks + if a = k then 1 else 0 := by
  unfold ctK
  rw [List.filter_cons]
  by_cases c : a = k
  · rw [if_pos (decide_eq_true c), if_pos c]; rfl
  · rw [if_neg (by rw [decide_eq_false c]; exact Bool.false_ne_true), if_neg c]; rfl
theorem sum_nn {f : Int → Int} (h : ∀ x, 0 ≤ f x) : ∀ l : List Int, 0 ≤ (l.map f).sum
  | [] => Int.le_refl 0
  | x :: l => by have := sum_nn h l; have := h x; rw [List.map_cons, List.sum_cons]; omega
theorem rest_nn {K : Nat} {l : List Int} {k : Int} (h : Lf K l) (h0 : 0 ≤ k) (h1 : k < (K : Int)) : l.getD k.toNat 0 ≤ l.sum := by
  have h2 := sum_but (f := fun x => l.getD x.toNat 0) (rgL_nd0 K) (rgL_mem0.mpr ⟨h0, h1⟩)
  rw [sum_all h.len] at h2
  have h3 := sum_nn (f := fun x => l.getD x.toNat 0) (fun x => h.nn _) ((rgL 0 (K : Int)).filter fun x => !decide (x = k))
  omega
theorem sum_none {f : Int → Int} : ∀ {l : List Int}, (∀ x ∈ l, f x = 0) → (l.map f).sum = 0
  | [], _ => rfl
  | x :: l, h => by rw [List.map_cons, List.sum_cons, h x List.mem_cons_self, sum_none fun y hy => h y (List.mem_cons_of_mem _ hy)]; rfl
theorem less_other {l : List Int} {x k : Int} (hx : x.toNat < l.length) (h : ¬ x.toNat = k.toNat) : (lessL l x.toNat).getD k.toNat 0 = l.getD k.toNat 0 := by
  rw [less_getD hx, if_neg (fun e => h e.symm)]
theorem less_own {l : List Int} {x : Int} (hx : x.toNat < l.length) : (lessL l x.toNat).getD x.toNat 0 = l.getD x.toNat 0 - 1 := by
  rw [less_getD hx, if_pos rfl]
theorem wy_zero {K : Nat} {k : Int} (hk0 : 0 ≤ k) (hk1 : k < (K : Int)) : ∀ {ks l : List Int}, (∀ x ∈ ks, 0 ≤ x ∧ x < (K : Int)) → Lf K l → l.sum - l.getD k.toNat 0 < (ctK k ks : Int) → wy (oth K) ks l = 0
  | [], l, _, h, hs => by
    have := rest_nn h hk0 hk1
    rw [show ctK k [] = 0 from rfl] at hs
    omega
  | a :: ks, l, hb, h, hs => by
    have ha := hb a List.mem_cons_self
    have hb2 : ∀ x ∈ ks, 0 ≤ x ∧ x < (K : Int) := fun x hx => hb x (List.mem_cons_of_mem _ hx)
    rw [ctK_cons] at hs
    unfold wy
    rw [oth_at ha.1 ha.2]
    refine sum_none fun x hx => ?_
    obtain ⟨hx1, hx2⟩ := List.mem_filter.mp hx
    have hxb := rgL_mem0.mp hx1
    have hxa : x ≠ a := by simpa using hx2
    have hxl : x.toNat < l.length := by rw [h.len]; omega
    by_cases c : 0 < l.getD x.toNat 0
    · rw [wy_zero hk0 hk1 hb2 (h.less (by omega) c) ?_, Int.mul_zero]
      rw [less_sum hxl]
      by_cases d : x = k
      · subst d
        rw [less_own hxl]
        rw [if_neg (Ne.symm hxa)] at hs
        omega
      · rw [less_other hxl (by omega)]
        by_cases e : a = k
        · rw [if_pos e] at hs; omega
        · rw [if_neg e] at hs; omega
    · have : l.getD x.toNat 0 = 0 := by have := h.nn x.toNat; omega
      rw [this, Int.zero_mul]
theorem sum_single {f : Int → Int} {k : Int} : ∀ {l : List Int}, l.Nodup → k ∈ l → (∀ x ∈ l, x ≠ k → f x = 0) → (l.map f).sum = f k
  | x :: l, hn, hk, h => by
    obtain ⟨h1, h2⟩ := List.nodup_cons.mp hn
    rw [List.map_cons, List.sum_cons]
    by_cases c : x = k
    · subst c
      rw [sum_none fun y hy => h y (List.mem_cons_of_mem _ hy) fun e => h1 (by rw [← e]; exact hy)]; omega
    · have hk2 : k ∈ l := (List.mem_cons.mp hk).elim (fun e => absurd e.symm c) id
      rw [sum_single h2 hk2 fun y hy => h y (List.mem_cons_of_mem _ hy), h x List.mem_cons_self c]; omega
theorem ctK_le {k : Int} {ks : List Int} : ctK k ks ≤ ks.length := List.length_filter_le _ _
theorem wy_half {K : Nat} {k : Int} (hk0 : 0 ≤ k) (hk1 : k < (K : Int)) : ∀ {ks l : List Int} {c d : Nat}, (∀ x ∈ ks, 0 ≤ x ∧ x < (K : Int)) → Lf K l → ctK k ks = c → l.sum - l.getD k.toNat 0 = c → ks.length = c + d → l.getD k.toNat 0 = d → wy (oth K) ks l = fcI c * fcI d
  | [], l, c, d, _, h, h1, h2, h3, h4 => by
    have : c = 0 := h1.symm
    subst this
    rw [List.length_nil] at h3
    rw [show d = 0 by omega]; rfl
  | a :: ks, l, c, d, hb, h, h1, h2, h3, h4 => by
    have ha := hb a List.mem_cons_self
    have hb2 : ∀ x ∈ ks, 0 ≤ x ∧ x < (K : Int) := fun x hx => hb x (List.mem_cons_of_mem _ hx)
    rw [ctK_cons] at h1
    rw [List.length_cons] at h3
    have hkl : k.toNat < l.length := by rw [h.len]; omega
    unfold wy
    rw [oth_at ha.1 ha.2]
    by_cases e : a = k
    · subst e
      rw [if_pos rfl] at h1
      have hval : ((rgL 0 (K : Int)).filter fun x => !decide (x = a)).map (fun x => l.getD x.toNat 0 * wy (oth K) ks (lessL l x.toNat)) = ((rgL 0 (K : Int)).filter fun x => !decide (x = a)).map fun x => l.getD x.toNat 0 * (fcI (c - 1) * fcI d) :=
        List.map_congr_left fun x hx => by
          obtain ⟨hx1, hx2⟩ := List.mem_filter.mp hx
          have hxb := rgL_mem0.mp hx1
          have hxa : x ≠ a := by simpa using hx2
          have hxl : x.toNat < l.length := by rw [h.len]; omega
          by_cases cc : 0 < l.getD x.toNat 0
          · have ho := less_other (l := l) (x := x) (k := a) hxl (by omega)
            rw [wy_half hk0 hk1 (c := c - 1) (d := d) hb2 (h.less (by omega) cc) (by omega) (by rw [less_sum hxl, ho]; omega) (by omega) (by rw [ho]; exact h4)]
          · have : l.getD x.toNat 0 = 0 := by have := h.nn x.toNat; omega
            rw [this, Int.zero_mul, Int.zero_mul]
      rw [hval, sum_mul_r, sum_but (f := fun x => l.getD x.toNat 0) (rgL_nd0 K) (rgL_mem0.mpr ⟨hk0, hk1⟩), sum_all h.len, h2, ← Int.mul_assoc]
      congr 1
      have := fcI_succ (x := (c : Int)) (by omega)
      rw [Int.toNat_natCast, show (((c : Nat) : Int) - 1).toNat = c - 1 by omega] at this
      exact this
    · rw [if_neg e] at h1
      have hcl := ctK_le (k := k) (ks := ks)
      have hd : 1 ≤ d := by omega
      have hmem : k ∈ (rgL 0 (K : Int)).filter fun x => !decide (x = a) := List.mem_filter.mpr ⟨rgL_mem0.mpr ⟨hk0, hk1⟩, by simp [Ne.symm e]⟩
      rw [sum_single (k := k) ((rgL_nd0 K).sublist List.filter_sublist) hmem fun x hx hxk => by
        obtain ⟨hx1, hx2⟩ := List.mem_filter.mp hx
        have hxb := rgL_mem0.mp hx1
        have hxl : x.toNat < l.length := by rw [h.len]; omega
        by_cases cc : 0 < l.getD x.toNat 0
        · rw [wy_zero hk0 hk1 hb2 (h.less (by omega) cc) (by rw [less_sum hxl, less_other hxl (by omega)]; omega), Int.mul_zero]
        · have : l.getD x.toNat 0 = 0 := by have := h.nn x.toNat; omega
          rw [this, Int.zero_mul]]
      have ho := less_own (l := l) (x := k) hkl
      rw [wy_half hk0 hk1 (c := c) (d := d - 1) hb2 (h.less (by omega) (by omega)) (by omega) (by rw [less_sum hkl, ho]; omega) (by omega) (by rw [ho]; omega), h4, Int.mul_left_comm]
      congr 1
      have := fcI_succ (x := (d : Int)) (by omega)
      rw [Int.toNat_natCast, show (((d : Nat) : Int) - 1).toNat = d - 1 by omega] at this
      exact this

/-! ### how many ways so many of a family draw their own names -/
def ownI (s : Nat) (n : Nat) : List Int := (List.range n).map fun j => cc s s j
theorem ownI_len (s n : Nat) : (ownI s n).length = n := by unfold ownI; rw [List.length_map, List.length_range]
theorem ownI_succ (s n : Nat) : ownI s (n + 1) = ownI s n ++ [cc s s n] := by
  unfold ownI; rw [List.range_succ, List.map_append]; rfl
theorem ownI_at {s n j : Nat} (h : j < n) : (ownI s n).getD j 0 = cc s s j := by
  unfold ownI
  rw [List.getD_eq_getElem?_getD, List.getElem?_map, List.getElem?_range h]; rfl
theorem own_turn {s i : Nat} {x0 x2 : Option Od} (hi : i < s) (hs : s ≤ 400) (h0 : x0 = vv (.int (s : Nat))) :
    ∃ y2, for1 (tgn 2) L1_own_names (.int (i : Nat)) [x0, vl ((ownI s (i + 1)).map .int), x2] = some (.nx, [x0, vl ((ownI s (i + 2)).map .int), y2]) := by
  subst h0
  have hl := ownI_len s (i + 1)
  have hlast : ((ownI s (i + 1)).map D.int)[i]? = some (.int (cc s s i)) := by
    rw [List.getElem?_map]
    unfold ownI
    rw [List.getElem?_map, List.getElem?_range (by omega)]; rfl
  have he := cc_own (s := s) (j := i) hi
  have hdiv : (cc s s i * ((s : Int) - i) * ((s : Int) - i)).fdiv ((i : Int) + 1) = cc s s (i + 1) := by
    rw [← he, Int.fdiv_eq_ediv_of_nonneg _ (by omega)]
    exact Int.mul_ediv_cancel _ (by omega)
  rw [show ownI s (i + 2) = ownI s (i + 1) ++ [cc s s (i + 1)] from ownI_succ s (i + 1)]
  generalize ownI s (i + 1) = L at *
  generalize cc s s (i + 1) = z at *
  generalize cc s s i = q at *
  have hat : atI (L.map D.int) (-1) = some (.int q) := by
    unfold atI ixN
    rw [if_neg (by omega), if_pos (by rw [List.length_map, hl]; omega), Option.bind_some, List.length_map, hl, show (-1 + ((i + 1 : Nat) : Int)).toNat = i by omega]
    exact hlast
  unfold L1_own_names
  walk_at "evc"
  rw [hat]
  walk_at "evc"
  rw [hdiv]
  exact ⟨_, rfl⟩
theorem own_ok {s : Nat} (hs : s ≤ 400) : ∃ r, fn_own_names [vv (.int (s : Nat))] = some (.fd (.lst ((ownI s (s + 1)).map .int)), r) := by
  obtain ⟨e', h, x2, rfl⟩ := forD_go (tg := tgn 2) (body := L1_own_names)
    (fun i e => ∃ x2, e = [vv (.int (s : Nat)), vl ((ownI s (i + 1)).map .int), x2])
    (ds := rgN 0 s) (e := [vv (.int (s : Nat)), vl ((ownI s 1).map .int), none]) ⟨none, rfl⟩ (by
    rintro i d e hd ⟨x2, rfl⟩
    obtain ⟨hi, rfl⟩ := rgN_at0 hd
    obtain ⟨y2, hst⟩ := own_turn (x0 := vv (.int (s : Nat))) (x2 := x2) hi hs rfl
    exact ⟨_, hst, y2, rfl⟩)
  rw [rgN_len] at h
  have e1 : (ownI s 1).map D.int = [.int 1] := by
    unfold ownI
    show [D.int (cc s s 0)] = _
    rw [cc_0]
  rw [e1] at h
  unfold fn_own_names s_own_names
  walk_at "evc"
  rw [h]
  walk_at "evc"
  exact ⟨_, rfl⟩
/-! ### products of rows of numbers, told by what they come to -/
def phi (V : Nat → Int) (L : List Int) : Int := sumN L.length fun k => V k * L.getD k 0
theorem phi_set {V : Nat → Int} {L : List Int} {i : Nat} {y : Int} (h : i < L.length) : phi V (L.set i y) = phi V L + V i * (y - L.getD i 0) := by
  unfold phi
  rw [List.length_set]
  have key : ∀ n, n ≤ L.length → sumN n (fun k => V k * (L.set i y).getD k 0) = sumN n (fun k => V k * L.getD k 0) + if i < n then V i * (y - L.getD i 0) else 0 := by
    intro n
    induction n with
    | zero => intro _; rw [if_neg (by omega)]; rfl
    | succ n ih =>
      intro hn
      show sumN n _ + V n * (L.set i y).getD n 0 = (sumN n (fun k => V k * L.getD k 0) + V n * L.getD n 0) + _
      rw [ih (by omega)]
      by_cases c : n = i
      · subst c
        rw [if_neg (by omega), if_pos (by omega), show (L.set n y).getD n 0 = y by rw [List.getD_eq_getElem?_getD, List.getElem?_set_self h]; rfl, Int.mul_sub]; omega
      · rw [show (L.set i y).getD n 0 = L.getD n 0 by rw [List.getD_eq_getElem?_getD, List.getElem?_set_ne (Ne.symm c), List.getD_eq_getElem?_getD]]
        by_cases d : i < n
        · rw [if_pos d, if_pos (by omega)]; omega
        · rw [if_neg d, if_neg (by omega)]; omega
  rw [key L.length (Nat.le_refl _), if_pos h]
theorem phi_zero {V : Nat → Int} {n : Nat} : phi V (List.replicate n 0) = 0 := by
  unfold phi
  rw [sumN_congr (g := fun _ => 0) fun j hj => by
    rw [List.getD_eq_getElem?_getD, List.getElem?_replicate]
    split
    · exact Int.mul_zero _
    · exact Int.mul_zero _]
  exact sumN_zero
theorem cc_blw {s : Nat} (hs : s ≤ 400) : ∀ j, 0 ≤ cc s s j ∧ cc s s j < ((2 ^ (18 * j + 1) : Nat) : Int)
  | 0 => by rw [cc_0]; exact ⟨by decide, by decide⟩
  | j + 1 => by
    obtain ⟨h1, h2⟩ := cc_blw hs j
    by_cases c : j < s
    · have e := cc_own c
      have h0 : 0 ≤ cc s s (j + 1) := by unfold cc; omega
      refine ⟨h0, ?_⟩
      have a1 : cc s s (j + 1) ≤ cc s s (j + 1) * ((j : Int) + 1) := by
        have := Int.mul_le_mul_of_nonneg_left (a := (1 : Int)) (b := (j : Int) + 1) (by omega) h0
        rwa [Int.mul_one] at this
      have a2 : cc s s j * ((s : Int) - j) * ((s : Int) - j) ≤ cc s s j * 262144 := by
        rw [Int.mul_assoc]
        refine Int.mul_le_mul_of_nonneg_left ?_ h1
        exact Int.le_trans (Int.mul_le_mul (show (s : Int) - j ≤ 512 by omega) (show (s : Int) - j ≤ 512 by omega) (by omega) (by decide)) (by decide)
      have a3 : ((2 ^ (18 * (j + 1) + 1) : Nat) : Int) = ((2 ^ (18 * j + 1) : Nat) : Int) * 262144 := by
        rw [show 18 * (j + 1) + 1 = (18 * j + 1) + 18 by omega, Nat.pow_add, Int.natCast_mul]; rfl
      rw [a3]
      omega
    · rw [cc_big (by omega)]
      exact ⟨by decide, by have := Nat.two_pow_pos (18 * (j + 1) + 1); omega⟩
theorem cc_lt {s j : Nat} (hs : s ≤ 400) (hj : j ≤ s) : 0 ≤ cc s s j ∧ cc s s j < ((2 ^ 7201 : Nat) : Int) := by
  obtain ⟨h1, h2⟩ := cc_blw hs j
  refine ⟨h1, Int.lt_of_lt_of_le h2 ?_⟩
  have := Nat.pow_le_pow_right (n := 2) (by decide) (show 18 * j + 1 ≤ 7201 by omega)
  exact Int.ofNat_le.mpr this

theorem getD_setI {l : List Int} {i j : Nat} {y : Int} (h : i < l.length) : (l.set i y).getD j 0 = if j = i then y else l.getD j 0 := by
  rw [List.getD_eq_getElem?_getD, List.getElem?_set]
  by_cases c : j = i
  · subst c; rw [if_pos rfl, if_pos h, if_pos rfl]; rfl
  · rw [if_neg (Ne.symm c), if_neg c, List.getD_eq_getElem?_getD]
theorem ints_at {L : List Int} {i : Nat} (h : i < L.length) : (L.map D.int)[i]? = some (.int (L.getD i 0)) := by
  rw [List.getElem?_map, List.getElem?_eq_getElem h, List.getD_eq_getElem?_getD, List.getElem?_eq_getElem h]; rfl
theorem sau_inner {i M : Nat} {w A : Int} {own L : List Int} {x0 x1 x2 x3 x4 x8 x9 x10 x11 x12 x13 : Option Od} (hM : L.length = M) (hi : i + own.length ≤ M) (hA : 0 ≤ A) (hL : ∀ k, 0 ≤ L.getD k 0 ∧ L.getD k 0 ≤ (i : Int) * A)
    (hw0 : 0 ≤ w) (hw : w < ((2 ^ 57680 : Nat) : Int)) (ho : ∀ j, j < own.length → 0 ≤ own.getD j 0 ∧ own.getD j 0 < ((2 ^ 7201 : Nat) : Int) ∧ w * own.getD j 0 ≤ A) :
    ∃ L' y8 y9, forD (tgt (tgc (tgn 8) (tgc (tgn 9) tgz))) L3_families_many (enD 0 (own.map .int)) [x0, x1, x2, x3, x4, vl (L.map .int), vv (.int (i : Nat)), vv (.int w), x8, x9, x10, x11, x12, x13] =
      some (.nx, [x0, x1, x2, x3, x4, vl (L'.map .int), vv (.int (i : Nat)), vv (.int w), y8, y9, x10, x11, x12, x13]) ∧ L'.length = M ∧ (∀ k, 0 ≤ L'.getD k 0 ∧ L'.getD k 0 ≤ ((i : Int) + 1) * A) ∧
      ∀ V, phi V L' = phi V L + sumN own.length fun j => V (i + j) * (w * own.getD j 0) := by
  obtain ⟨e', h, L', y8, y9, rfl, h1, h2, h3⟩ := forD_go (tg := tgt (tgc (tgn 8) (tgc (tgn 9) tgz))) (body := L3_families_many)
    (fun j e => ∃ L' y8 y9, e = [x0, x1, x2, x3, x4, vl (L'.map .int), vv (.int (i : Nat)), vv (.int w), y8, y9, x10, x11, x12, x13] ∧ L'.length = M ∧ (∀ k, 0 ≤ L'.getD k 0 ∧ L'.getD k 0 ≤ ((i : Int) + if k < i + j then 1 else 0) * A) ∧
      ∀ V, phi V L' = phi V L + sumN j fun j => V (i + j) * (w * own.getD j 0))
    (ds := enD 0 (own.map .int)) (e := [x0, x1, x2, x3, x4, vl (L.map .int), vv (.int (i : Nat)), vv (.int w), x8, x9, x10, x11, x12, x13]) ⟨L, x8, x9, rfl, hM, fun k => by
      obtain ⟨a, b⟩ := hL k
      refine ⟨a, Int.le_trans b (Int.mul_le_mul_of_nonneg_right (by split <;> omega) hA)⟩, fun V => by show _ = _ + 0; omega⟩ (by
    rintro j d e hd ⟨L1, y8, y9, rfl, h1, h2, h3⟩
    obtain ⟨z, e1, rfl⟩ := enD_at _ _ _ _ hd
    have hj : j < own.length := by
      have := (List.getElem?_eq_some_iff.mp e1).1
      rwa [List.length_map] at this
    rw [ints_at hj] at e1
    obtain rfl := Option.some.inj e1
    obtain ⟨o1, o2, o3⟩ := ho j hj
    have hij : i + j < L1.length := by omega
    have hat := ints_at hij
    have hmw : mulW (.int w) (.int (own.getD j 0)) = some (.int (w * own.getD j 0)) := DL.mulW_b (a := 57680) (b := 7201) (by omega) (by omega) (by decide) (by decide) (by decide)
    have hset : (L1.map D.int).set (i + j) (.int (L1.getD (i + j) 0 + w * own.getD j 0)) = (L1.set (i + j) (L1.getD (i + j) 0 + w * own.getD j 0)).map .int := List.map_set.symm
    refine ⟨_, ?_, L1.set (i + j) (L1.getD (i + j) 0 + w * own.getD j 0), vv (.int ((0 + j : Nat) : Int)), vv (.int (own.getD j 0)), rfl, by rw [List.length_set]; exact h1, fun k => ?_, fun V => ?_⟩
    · rw [← hset]
      generalize own.getD j 0 = q at *
      generalize L1.getD (i + j) 0 = r at *
      unfold L3_families_many
      walk_at "evc"
      have e2 : ((i : Nat) : Int) + ((0 + j : Nat) : Int) = ((i + j : Nat) : Int) := by omega
      rw [DL.gsau_s (ds := L1.map .int) (z := ((i + j : Nat) : Int)) (x := r) (y := w * q) rfl (by rw [← e2]; simp only [Nat.zero_add]; rfl) (by omega) (by rw [Int.toNat_natCast]; exact hat) hmw]
      rw [Int.toNat_natCast]
      simp only [Nat.zero_add]
      rfl
    · rw [getD_setI hij]
      obtain ⟨a, b⟩ := h2 k
      by_cases c : k = i + j
      · subst c
        rw [if_pos rfl, if_pos (by omega)]
        rw [if_neg (by omega)] at b
        have := Int.mul_nonneg hw0 o1
        rw [Int.add_mul, Int.one_mul]
        rw [Int.add_zero] at b
        omega
      · rw [if_neg c]
        refine ⟨a, Int.le_trans b (Int.mul_le_mul_of_nonneg_right ?_ hA)⟩
        by_cases d : k < i + j
        · rw [if_pos d, if_pos (by omega)]; omega
        · rw [if_neg d]; split <;> omega
    · rw [phi_set hij, h3 V]
      show _ = phi V L + (sumN j (fun j => V (i + j) * (w * own.getD j 0)) + V (i + j) * (w * own.getD j 0))
      rw [show L1.getD (i + j) 0 + w * own.getD j 0 - L1.getD (i + j) 0 = w * own.getD j 0 by omega]
      omega)
  rw [enD_len, List.length_map] at h2 h3
  refine ⟨L', y8, y9, h, h1, fun k => ?_, h3⟩
  obtain ⟨a, b⟩ := h2 k
  refine ⟨a, Int.le_trans b (Int.mul_le_mul_of_nonneg_right (by split <;> omega) hA)⟩

theorem sau_outer {n s M : Nat} {A : Int} {W : List Int} {x0 x1 x2 x3 x6 x7 x8 x9 x10 x11 x12 x13 : Option Od} (hs : s ≤ 400) (hW : W.length = n + 1) (hM : M = n + 1 + s) (hn : n ≤ 400) (hA : 0 ≤ A)
    (hw : ∀ k, 0 ≤ W.getD k 0 ∧ W.getD k 0 < ((2 ^ 57680 : Nat) : Int) ∧ ∀ j, j ≤ s → W.getD k 0 * cc s s j ≤ A) :
    ∃ L' y6 y7 y8 y9, forD (tgt (tgc (tgn 6) (tgc (tgn 7) tgz))) L2_families_many (enD 0 (W.map .int)) [x0, x1, x2, x3, vl ((ownI s (s + 1)).map .int), vl ((List.replicate M (0 : Int)).map .int), x6, x7, x8, x9, x10, x11, x12, x13] =
      some (.nx, [x0, x1, x2, x3, vv (.lst ((ownI s (s + 1)).map .int)), vl (L'.map .int), y6, y7, y8, y9, x10, x11, x12, x13]) ∧ L'.length = M ∧ (∀ k, 0 ≤ L'.getD k 0 ∧ L'.getD k 0 ≤ ((n : Int) + 1) * A) ∧
      ∀ V, phi V L' = sumN (n + 1) fun i => sumN (s + 1) fun j => V (i + j) * (W.getD i 0 * cc s s j) := by
  have hol := ownI_len s (s + 1)
  obtain ⟨e', h, x4, L', y6, y7, y8, y9, rfl, h4, h1, h2, h3⟩ := forD_go (tg := tgt (tgc (tgn 6) (tgc (tgn 7) tgz))) (body := L2_families_many)
    (fun i e => ∃ x4 L' y6 y7 y8 y9, e = [x0, x1, x2, x3, x4, vl (L'.map .int), y6, y7, y8, y9, x10, x11, x12, x13] ∧ (i = 0 ∧ x4 = vl ((ownI s (s + 1)).map .int) ∨ x4 = vv (.lst ((ownI s (s + 1)).map .int))) ∧ L'.length = M ∧ (∀ k, 0 ≤ L'.getD k 0 ∧ L'.getD k 0 ≤ (i : Int) * A) ∧
      ∀ V, phi V L' = sumN i fun i => sumN (s + 1) fun j => V (i + j) * (W.getD i 0 * cc s s j))
    (ds := enD 0 (W.map .int)) (e := [x0, x1, x2, x3, vl ((ownI s (s + 1)).map .int), vl ((List.replicate M (0 : Int)).map .int), x6, x7, x8, x9, x10, x11, x12, x13]) ⟨_, List.replicate M 0, x6, x7, x8, x9, rfl, .inl ⟨rfl, rfl⟩, List.length_replicate, fun k => by
      have e : (List.replicate M (0 : Int)).getD k 0 = 0 := by
        rw [List.getD_eq_getElem?_getD, List.getElem?_replicate]
        split <;> rfl
      rw [e, show ((0 : Nat) : Int) = 0 from rfl, Int.zero_mul]
      exact ⟨Int.le_refl 0, Int.le_refl 0⟩, fun V => phi_zero⟩ (by
    rintro i d e hd ⟨x4, L1, y6, y7, y8, y9, rfl, h4, h1, h2, h3⟩
    obtain ⟨z, e1, rfl⟩ := enD_at _ _ _ _ hd
    have hi : i < W.length := by
      have := (List.getElem?_eq_some_iff.mp e1).1
      rwa [List.length_map] at this
    rw [ints_at hi] at e1
    obtain rfl := Option.some.inj e1
    obtain ⟨w0, w1, w2⟩ := hw i
    obtain ⟨L2, z8, z9, g1, g2, g3, g4⟩ := sau_inner (i := i) (M := M) (w := W.getD i 0) (A := A) (own := ownI s (s + 1)) (L := L1) (x0 := x0) (x1 := x1) (x2 := x2) (x3 := x3) (x4 := vv (.lst ((ownI s (s + 1)).map .int))) (x8 := y8) (x9 := y9) (x10 := x10) (x11 := x11) (x12 := x12) (x13 := x13) h1 (by omega) hA h2 w0 w1 (fun j hj => by
      have hj2 : j ≤ s := by omega
      rw [ownI_at (by omega)]
      obtain ⟨c1, c2⟩ := cc_lt hs hj2
      exact ⟨c1, c2, w2 j hj2⟩)
    refine ⟨_, ?_, _, L2, vv (.int ((0 + i : Nat) : Int)), vv (.int (W.getD i 0)), z8, z9, rfl, .inr rfl, g2, fun k => by have := g3 k; rw [Int.natCast_add]; exact this, fun V => ?_⟩
    · simp only [Nat.zero_add]
      have en := enD_eq (enc := D.int) (xs := ownI s (s + 1)) (k := 0)
      rw [en] at g1
      generalize W.getD i 0 = w at *
      generalize ownI s (s + 1) = own at *
      unfold L2_families_many
      rcases h4 with ⟨-, rfl⟩ | rfl
      · walk_at "evc"
        rw [g1]
      · walk_at "evc"
        rw [g1]
    · rw [g4 V, h3 V, hol]
      show _ = sumN i _ + sumN (s + 1) fun j => V (i + j) * (W.getD i 0 * cc s s j)
      congr 1
      exact sumN_congr fun j hj => by rw [ownI_at hj])
  rw [enD_len, List.length_map, hW] at h2 h3 h4
  refine ⟨L', y6, y7, y8, y9, ?_, h1, h2, h3⟩
  rcases h4 with ⟨h0, -⟩ | rfl
  · omega
  · exact h

/-- sizes of families -/
structure Sz (ns : List Int) : Prop where
  h1 : 1 ≤ ns.length
  h8 : ns.length ≤ 8
  b : ∀ x ∈ ns, 1 ≤ x ∧ x ≤ 1000000000000000000000000000000
def nT (ns : List Int) (t : Nat) : Nat := ((ns.take t).map Int.toNat).sum
theorem nT_succ {ns : List Int} {t : Nat} (h : t < ns.length) : nT ns (t + 1) = nT ns t + (ns.getD t 0).toNat := by
  unfold nT
  rw [List.take_succ_eq_append_getElem h, List.map_append, List.sum_append, List.getD_eq_getElem?_getD, List.getElem?_eq_getElem h]
  simp
theorem nT_sum : ∀ {ns : List Int} {t : Nat}, (∀ x ∈ ns, 0 ≤ x) → ((nT ns t : Nat) : Int) ≤ ns.sum
  | [], t, _ => by unfold nT; rw [List.take_nil]; exact Int.le_refl 0
  | x :: ns, 0, h => by
    have h1 := nT_sum (ns := ns) (t := 0) fun y hy => h y (List.mem_cons_of_mem _ hy)
    have h2 := h x List.mem_cons_self
    unfold nT at h1 ⊢
    rw [List.take_zero] at h1 ⊢
    rw [List.sum_cons]; omega
  | x :: ns, t + 1, h => by
    have h1 := nT_sum (ns := ns) (t := t) fun y hy => h y (List.mem_cons_of_mem _ hy)
    have h2 := h x List.mem_cons_self
    unfold nT at h1 ⊢
    rw [List.take_succ_cons, List.map_cons, List.sum_cons, List.sum_cons]; omega
/-- the ways behind t families -/
structure Wys (ns : List Int) (t : Nat) (W : List Int) : Prop where
  len : W.length = nT ns t + 1
  bd : ∀ k, 0 ≤ W.getD k 0 ∧ W.getD k 0 < ((2 ^ (1 + 7210 * t) : Nat) : Int)
  val : phi (fun k => sg k * tS ((ns.drop t).map Int.toNat) (nT ns t - k)) W = tS (ns.map Int.toNat) 0
theorem Wys.zero {ns : List Int} : Wys ns 0 [1] := ⟨rfl, fun k => by
  cases k with
  | zero => exact ⟨by decide, by decide⟩
  | succ k => exact ⟨Int.le_refl 0, by show (0 : Int) < ((2 ^ (1 + 7210 * 0) : Nat) : Int); decide⟩, by
  show 0 + sg 0 * tS ((ns.drop 0).map Int.toNat) (nT ns 0 - 0) * 1 = _
  rw [List.drop_zero, show sg 0 = 1 from rfl, Int.one_mul, Int.mul_one, Int.zero_add]; rfl⟩
theorem pow_mono {a b : Nat} (h : a ≤ b) : ((2 ^ a : Nat) : Int) ≤ ((2 ^ b : Nat) : Int) := Int.ofNat_le.mpr (Nat.pow_le_pow_right (by decide) h)
theorem Wys.step {ns W L : List Int} {t : Nat} (h : Wys ns t W) (ht : t < ns.length) (hn : nT ns t ≤ 400) (hl : L.length = nT ns t + 1 + (ns.getD t 0).toNat)
    (hb : ∀ k, 0 ≤ L.getD k 0 ∧ L.getD k 0 ≤ ((nT ns t : Int) + 1) * (((2 ^ (1 + 7210 * t) : Nat) : Int) * ((2 ^ 7201 : Nat) : Int)))
    (hv : ∀ V, phi V L = sumN (nT ns t + 1) fun i => sumN ((ns.getD t 0).toNat + 1) fun j => V (i + j) * (W.getD i 0 * cc (ns.getD t 0).toNat (ns.getD t 0).toNat j)) : Wys ns (t + 1) L := by
  refine ⟨by rw [hl, nT_succ ht]; omega, fun k => ?_, ?_⟩
  · obtain ⟨a, b⟩ := hb k
    refine ⟨a, Int.lt_of_le_of_lt b ?_⟩
    rw [show 1 + 7210 * (t + 1) = 9 + (1 + 7210 * t + 7201) by omega, Nat.pow_add 2 9, Nat.pow_add 2 (1 + 7210 * t), Int.natCast_mul, Int.natCast_mul]
    have hp : 0 < ((2 ^ (1 + 7210 * t) : Nat) : Int) * ((2 ^ 7201 : Nat) : Int) := Int.mul_pos (by have := Nat.two_pow_pos (1 + 7210 * t); omega) (by have := Nat.two_pow_pos 7201; omega)
    generalize ((2 ^ (1 + 7210 * t) : Nat) : Int) * ((2 ^ 7201 : Nat) : Int) = A at *
    have : ((nT ns t : Int) + 1) * A < ((2 ^ 9 : Nat) : Int) * A := Int.mul_lt_mul_of_pos_right (show (nT ns t : Int) + 1 < ((2 ^ 9 : Nat) : Int) by have : ((2 ^ 9 : Nat) : Int) = 512 := rfl; omega) hp
    exact this
  · have hd : ns.drop t = ns.getD t 0 :: ns.drop (t + 1) := by
      rw [List.drop_eq_getElem_cons ht, List.getD_eq_getElem?_getD, List.getElem?_eq_getElem ht]; rfl
    have hval := h.val
    rw [hd, List.map_cons] at hval
    rw [hv, ← hval]
    unfold phi
    rw [h.len]
    refine sumN_congr fun i hi => ?_
    show _ = sg i * (sumN ((ns.getD t 0).toNat + 1) fun j => sg j * cc (ns.getD t 0).toNat (ns.getD t 0).toNat j * tS ((ns.drop (t + 1)).map Int.toNat) (nT ns t - i + (ns.getD t 0).toNat - j)) * W.getD i 0
    rw [Int.mul_assoc, Int.mul_comm _ (W.getD i 0), ← Int.mul_assoc, ← sumN_mul]
    refine sumN_congr fun j hj => ?_
    rw [sg_add, nT_succ ht, show nT ns t + (ns.getD t 0).toNat - (i + j) = nT ns t - i + (ns.getD t 0).toNat - j by omega]
    generalize cc (ns.getD t 0).toNat (ns.getD t 0).toNat j = c
    generalize tS ((ns.drop (t + 1)).map Int.toNat) (nT ns t - i + (ns.getD t 0).toNat - j) = T
    generalize W.getD i 0 = w
    generalize sg i = a
    generalize sg j = b
    ac_rfl

theorem fam_turn {ns W : List Int} {t : Nat} {x0 x1 x2 x3 x4 x5 x6 x7 x8 x9 x10 x11 x12 x13 : Option Od} (hS : Sz ns) (hsum : ns.sum ≤ 400) (ht : t < ns.length) (hW : Wys ns t W) (hx : x2 = vl (W.map .int) ∨ x2 = vv (.lst (W.map .int))) :
    ∃ L y4 y5 y6 y7 y8 y9, for1 (tgn 3) L1_families_many (.int (ns.getD t 0)) [x0, x1, x2, x3, x4, x5, x6, x7, x8, x9, x10, x11, x12, x13] =
      some (.nx, [x0, x1, vv (.lst (L.map .int)), vv (.int (ns.getD t 0)), y4, y5, y6, y7, y8, y9, x10, x11, x12, x13]) ∧ Wys ns (t + 1) L := by
  have h0 : ∀ x ∈ ns, 0 ≤ x := fun x hx => by have := hS.b x hx; omega
  have hmem : ns.getD t 0 ∈ ns := by rw [List.getD_eq_getElem?_getD, List.getElem?_eq_getElem ht]; exact List.getElem_mem ht
  have hs1 := hS.b _ hmem
  have hn := nT_sum (t := t) h0
  have hn2 := nT_sum (t := t + 1) h0
  rw [nT_succ ht] at hn2
  have h8 := hS.h8
  obtain ⟨s, hs⟩ : ∃ s : Nat, ns.getD t 0 = (s : Int) := ⟨(ns.getD t 0).toNat, by omega⟩
  have hst := Wys.step (L := []) hW ht
  clear hst
  have hstep := fun (L : List Int) (hl) (hb) (hv) => Wys.step (L := L) hW ht (by omega) hl hb hv
  rw [hs] at hn2 hstep ⊢
  rw [Int.toNat_natCast] at hn2 hstep
  have hA : (0 : Int) ≤ ((2 ^ (1 + 7210 * t) : Nat) : Int) * ((2 ^ 7201 : Nat) : Int) := Int.mul_nonneg (Int.natCast_nonneg _) (Int.natCast_nonneg _)
  obtain ⟨L, y6, y7, y8, y9, g, l1, l2, l3⟩ := sau_outer (n := nT ns t) (s := s) (M := nT ns t + 1 + s) (A := ((2 ^ (1 + 7210 * t) : Nat) : Int) * ((2 ^ 7201 : Nat) : Int)) (W := W) (x0 := x0) (x1 := x1) (x2 := vv (.lst (W.map .int))) (x3 := vv (.int (s : Nat))) (x6 := x6) (x7 := x7) (x8 := x8) (x9 := x9) (x10 := x10) (x11 := x11) (x12 := x12) (x13 := x13)
    (by omega) hW.len rfl (by omega) hA (fun k => by
      obtain ⟨a, b⟩ := hW.bd k
      refine ⟨a, Int.lt_of_lt_of_le b (pow_mono (by omega)), fun j hj => ?_⟩
      obtain ⟨c1, c2⟩ := cc_lt (s := s) (by omega) hj
      exact Int.mul_le_mul (Int.le_of_lt b) (Int.le_of_lt c2) c1 (Int.natCast_nonneg _))
  obtain ⟨r, ho⟩ := own_ok (s := s) (by omega)
  have hwl := hW.len
  have hmo := DL.mulO_1 (x := 0) (k := ((W.length : Nat) : Int) + (s : Int)) (by omega) (by omega)
  rw [show (((W.length : Nat) : Int) + (s : Int)).toNat = nT ns t + 1 + s by omega] at hmo
  refine ⟨L, vv (.lst ((ownI s (s + 1)).map .int)), vv (.lst (L.map .int)), y6, y7, y8, y9, ?_, hstep L l1 l2 l3⟩
  have en := enD_eq (enc := D.int) (xs := W) (k := 0)
  rw [en] at g
  have hwn : W.length ≤ 401 := by omega
  clear hstep hA l2 l3 hW en
  generalize ownI s (s + 1) = own at *
  generalize nT ns t + 1 + s = M at *
  generalize List.replicate M (0 : Int) = Z at *
  unfold L1_families_many
  rcases hx with rfl | rfl
  · walk_at "evc"
    rw [ho]
    walk_at "evc"
    rw [hmo]
    walk_at "evc"
    rw [g]
    walk_at "evc"
  · walk_at "evc"
    rw [ho]
    walk_at "evc"
    rw [hmo]
    walk_at "evc"
    rw [g]
    walk_at "evc"
theorem fcI_lt : ∀ {a : Nat}, a ≤ 402 → fcI a < ((2 ^ (9 * a + 1) : Nat) : Int)
  | 0, _ => by decide
  | a + 1, h => by
    have h1 := fcI_lt (a := a) (by omega)
    have h2 := fcI_succ (x := ((a + 1 : Nat) : Int)) (by omega)
    rw [Int.toNat_natCast, show ((((a + 1 : Nat) : Int) - 1).toNat) = a by omega] at h2
    rw [← h2, show 9 * (a + 1) + 1 = 9 + (9 * a + 1) by omega, Nat.pow_add, Int.natCast_mul]
    have h3 := fcI_pos a
    have h4 : ((a + 1 : Nat) : Int) * fcI a ≤ ((2 ^ 9 : Nat) : Int) * fcI a := Int.mul_le_mul_of_nonneg_right (show ((a + 1 : Nat) : Int) ≤ 512 by omega) (by omega)
    have h5 : ((2 ^ 9 : Nat) : Int) * fcI a < ((2 ^ 9 : Nat) : Int) * ((2 ^ (9 * a + 1) : Nat) : Int) := Int.mul_lt_mul_of_pos_left h1 (by decide)
    omega
theorem liI_s {i j : Int} {g : Int → Int → D} : liI g (.int i) (.int j) = some (g i j) := rfl
theorem tot_turn {W : List Int} {N a : Nat} {tot : Int} {x0 x1 x3 x4 x5 x6 x7 x8 x9 x12 x13 : Option Od} (hl : W.length = N + 1) (hN : N ≤ 400) (ha : a ≤ N) (hw : ∀ k, 0 ≤ W.getD k 0 ∧ W.getD k 0 < ((2 ^ 57681 : Nat) : Int)) :
    ∃ y13, for1 (tgn 12) L4_families_many (.int (a : Nat)) [x0, x1, vv (.lst (W.map .int)), x3, x4, x5, x6, x7, x8, x9, vv (.int tot), vv (.int (fcI a)), x12, x13] =
      some (.nx, [x0, x1, vv (.lst (W.map .int)), x3, x4, x5, x6, x7, x8, x9, vv (.int (tot + sg (N - a) * (W.getD (N - a) 0 * fcI a))), vv (.int (fcI (a + 1))), vv (.int (a : Nat)), y13]) := by
  have hat := ints_at (L := W) (i := N - a) (by omega)
  obtain ⟨w0, w1⟩ := hw (N - a)
  have hf := fcI_lt (a := a) (by omega)
  have hp := fcI_pos a
  have hf2 : fcI a < ((2 ^ 3700 : Nat) : Int) := Int.lt_of_lt_of_le hf (pow_mono (by omega))
  have hm1 : mulW (.int (W.getD (N - a) 0)) (.int (fcI a)) = some (.int (W.getD (N - a) 0 * fcI a)) := DL.mulW_b (a := 57681) (b := 3700) (by omega) (by omega) (by decide) (by decide) (by decide)
  have hm2 : mulW (.int (-W.getD (N - a) 0)) (.int (fcI a)) = some (.int (-W.getD (N - a) 0 * fcI a)) := DL.mulW_b (a := 57681) (b := 3700) (by omega) (by omega) (by decide) (by decide) (by decide)
  have hsu : fcI (a + 1) = fcI a * ((a : Int) + 1) := by
    have h2 := fcI_succ (x := ((a + 1 : Nat) : Int)) (by omega)
    rw [Int.toNat_natCast, show ((((a + 1 : Nat) : Int) - 1).toNat) = a by omega] at h2
    rw [← h2, Int.mul_comm]; rfl
  have hidx : ((W.length : Nat) : Int) - 1 - (a : Int) = ((N - a : Nat) : Int) := by omega
  have hfm : (((N - a : Nat) : Int)).fmod 2 = (((N - a) % 2 : Nat) : Int) := by rw [Int.fmod_eq_emod_of_nonneg _ (by decide)]; omega
  have hmul : mulD (.int (fcI a)) (.int ((a : Int) + 1)) = some (.int (fcI a * ((a : Int) + 1))) := DL.mulD_r (by omega) (by omega)
  rw [hsu]
  generalize hF : fcI a = F at *
  generalize hv : W.getD (N - a) 0 = w at *
  clear hf hf2 w1
  unfold sg
  by_cases c : (N - a) % 2 = 0
  · rw [if_pos c, Int.one_mul]
    rw [c] at hfm
    unfold L4_families_many
    walk_at "evc"
    rw [hidx]
    walk_at "evc"
    rw [hat]
    walk_at "evc"
    rw [hm1]
    walk_at "evc"
    rw [liI_s]
    walk_at "evc"
    try rw [hmul]
    try walk_at "evc"
    exact ⟨_, rfl⟩
  · rw [if_neg c]
    rw [show (N - a) % 2 = 1 by omega] at hfm
    unfold L4_families_many
    walk_at "evc"
    rw [hidx]
    walk_at "evc"
    rw [hat]
    walk_at "evc"
    rw [hm2]
    walk_at "evc"
    rw [liI_s, show -w * F = -1 * (w * F) by rw [Int.neg_mul, Int.neg_mul, Int.one_mul]]
    walk_at "evc"
    try rw [hmul]
    try walk_at "evc"
    exact ⟨_, rfl⟩

theorem check_sizes_ok {ns : List Int} (h : Sz ns) : ∃ r, fn_check_sizes [vv (tupI ns)] = some (.fd (.val .non), r) := by
  have c := counts_ok (a := 1) h.h1 h.h8 h.b
  unfold fn_check_sizes s_check_sizes
  walk_at "evc"
  rw [c]
  walk_at "evc"
  exact ⟨_, rfl⟩
def totS (W : List Int) (N a : Nat) : Int := sumN a fun b => sg (N - b) * (W.getD (N - b) 0 * fcI b)
theorem tot_all {ns W : List Int} (hW : Wys ns ns.length W) : totS W (nT ns ns.length) (nT ns ns.length + 1) = tS (ns.map Int.toNat) 0 := by
  have h := hW.val
  unfold phi at h
  rw [hW.len] at h
  rw [← h, ← sumN_rev]
  unfold totS
  refine sumN_congr fun a ha => ?_
  rw [List.drop_length]
  dsimp only
  rw [show nT ns ns.length - (nT ns ns.length - a) = a by omega]
  show sg _ * (W.getD _ 0 * fcI a) = sg _ * fcI a * W.getD _ 0
  rw [Int.mul_assoc, Int.mul_comm (fcI a)]
theorem fam_loop {ns : List Int} {x1 : Option Od} (hS : Sz ns) (hsum : ns.sum ≤ 400) : ∃ (W : List Int) (y3 y4 y5 y6 y7 y8 y9 : Option Od), forD (tgn 3) L1_families_many (ns.map .int) [vv (tupI ns), x1, vl [.int 1], none, none, none, none, none, none, none, none, none, none, none] =
    some (.nx, [vv (tupI ns), x1, vv (.lst (W.map .int)), y3, y4, y5, y6, y7, y8, y9, none, none, none, none]) ∧ Wys ns ns.length W := by
  obtain ⟨e', h, W, x2, y3, y4, y5, y6, y7, y8, y9, rfl, hW, hx⟩ := forD_go (tg := tgn 3) (body := L1_families_many)
    (fun i e => ∃ (W : List Int) (x2 y3 y4 y5 y6 y7 y8 y9 : Option Od), e = [vv (tupI ns), x1, x2, y3, y4, y5, y6, y7, y8, y9, none, none, none, none] ∧ Wys ns i W ∧ ((i = 0 ∧ x2 = vl (W.map .int)) ∨ x2 = vv (.lst (W.map .int))))
    (ds := ns.map .int) (e := [vv (tupI ns), x1, vl [.int 1], none, none, none, none, none, none, none, none, none, none, none]) ⟨[1], _, _, _, _, _, _, _, _, rfl, Wys.zero, .inl ⟨rfl, rfl⟩⟩ (by
    rintro i d e hd ⟨W, x2, y3, y4, y5, y6, y7, y8, y9, rfl, hW, hx⟩
    rw [List.getElem?_map] at hd
    obtain ⟨z, hz, rfl⟩ := map_some hd
    have hi : i < ns.length := (List.getElem?_eq_some_iff.mp hz).1
    have hz2 : ns.getD i 0 = z := by rw [List.getD_eq_getElem?_getD, hz]; rfl
    obtain ⟨L, w4, w5, w6, w7, w8, w9, g, hL⟩ := fam_turn (x0 := vv (tupI ns)) (x1 := x1) (x2 := x2) (x3 := y3) (x4 := y4) (x5 := y5) (x6 := y6) (x7 := y7) (x8 := y8) (x9 := y9) (x10 := none) (x11 := none) (x12 := none) (x13 := none) hS hsum hi hW (by
      rcases hx with ⟨-, h⟩ | h
      · exact .inl h
      · exact .inr h)
    rw [hz2] at g
    exact ⟨_, g, L, _, _, _, _, _, _, _, _, rfl, hL, .inr rfl⟩)
  rw [List.length_map] at hW hx
  rcases hx with ⟨h0, -⟩ | rfl
  · have := hS.h1; omega
  · exact ⟨W, y3, y4, y5, y6, y7, y8, y9, h, hW⟩
theorem Wys.N {ns : List Int} (hS : Sz ns) (hsum : ns.sum ≤ 400) : nT ns ns.length ≤ 400 := by
  have := nT_sum (ns := ns) (t := ns.length) fun x hx => by have := hS.b x hx; omega
  omega
theorem Wys.all {ns W : List Int} (hS : Sz ns) (hW : Wys ns ns.length W) : ∀ k, 0 ≤ W.getD k 0 ∧ W.getD k 0 < ((2 ^ 57681 : Nat) : Int) := fun k => by
  have := hW.bd k
  exact ⟨this.1, Int.lt_of_lt_of_le this.2 (pow_mono (by have := hS.h8; omega))⟩
theorem fmany_v {ns : List Int} {m : Int} (hS : Sz ns) (hsum : ns.sum ≤ 400) (h1 : 1 ≤ m) (h2 : m ≤ 1000000000000000000000000000000) : ∃ r, fn_families_many [vv (tupI ns), vv (.int m)] = some (.fd (.val (.int (tS (ns.map Int.toNat) 0 % m))), r) := by
  obtain ⟨r1, c1⟩ := check_sizes_ok hS
  obtain ⟨r2, c2⟩ := number_ok h1 h2
  obtain ⟨r3, c3⟩ := many_ok hsum
  obtain ⟨W, y3, y4, y5, y6, y7, y8, y9, g, hW⟩ := fam_loop (x1 := vv (.int m)) hS hsum
  have hN := Wys.N hS hsum
  have hlen := hW.len
  have hwb := hW.all hS
  have htot := tot_all hW
  clear hW
  generalize nT ns ns.length = N at *
  generalize tS (ns.map Int.toNat) 0 = T at *
  obtain ⟨e', hl, y12, y13, rfl⟩ := forD_go (tg := tgn 12) (body := L4_families_many)
    (fun i e => ∃ y12 y13, e = [vv (tupI ns), vv (.int m), vv (.lst (W.map .int)), y3, y4, y5, y6, y7, y8, y9, vv (.int (totS W N i)), vv (.int (fcI i)), y12, y13])
    (ds := rgN 0 W.length) (e := [vv (tupI ns), vv (.int m), vv (.lst (W.map .int)), y3, y4, y5, y6, y7, y8, y9, vv (.int 0), vv (.int 1), none, none]) ⟨none, none, rfl⟩ (by
    rintro i d e hd ⟨y12, y13, rfl⟩
    obtain ⟨hi, rfl⟩ := rgN_at0 hd
    obtain ⟨w13, hst⟩ := tot_turn (W := W) (N := N) (a := i) (tot := totS W N i) (x0 := vv (tupI ns)) (x1 := vv (.int m)) (x3 := y3) (x4 := y4) (x5 := y5) (x6 := y6) (x7 := y7) (x8 := y8) (x9 := y9) (x12 := y12) (x13 := y13) hlen hN (by omega) hwb
    exact ⟨_, hst, _, _, rfl⟩)
  rw [rgN_len] at hl
  have e1 : totS W N W.length = T := by rw [hlen]; exact htot
  rw [e1] at hl
  unfold fn_families_many s_families_many
  walk_at "evc"
  rw [c1]
  walk_at "evc"
  rw [c2]
  walk_at "evc"
  rw [DL.sumB_t]
  walk_at "evc"
  rw [c3]
  walk_at "evc"
  rw [g]
  walk_at "evc"
  rw [hl]
  walk_at "evc"
  rw [Int.fmod_eq_emod_of_nonneg _ (by omega)]
  exact ⟨_, rfl⟩

def oddS : List D := [.non, .tup [], .lst [.int 1, .int 1], .tup [.int 0, .int 1], .tup [.bl true, .int 1], .tup (List.replicate 9 (.int 1)), .int 0, .str "11", deepD 35]
theorem sizes_no : ∀ d ∈ oddS, ∃ r, fn_check_sizes [vv d] = some (exO 34, r) := by
  intro d hd
  unfold oddS at hd
  simp only [List.mem_cons, List.not_mem_nil, or_false] at hd
  rcases hd with rfl | rfl | rfl | rfl | rfl | rfl | rfl | rfl | rfl <;> exact ⟨_, rfl⟩
theorem fmany_x1 {d x : D} (hd : d ∈ oddS) : ∃ r, fn_families_many [vv d, vv x] = some (exO 34, r) := by
  obtain ⟨r, h⟩ := sizes_no d hd
  clear hd
  unfold fn_families_many s_families_many
  walk_at "evc"
  rw [h]
  walk_at "evc"
  exact ⟨_, rfl⟩
theorem fmany_x2 {ns : List Int} {d : D} (hS : Sz ns) (hd : d ∈ deepD 35 :: badM) : ∃ r, fn_families_many [vv (tupI ns), vv d] = some (exO 31, r) := by
  obtain ⟨r, h⟩ := number_no d hd
  obtain ⟨r1, c1⟩ := check_sizes_ok hS
  clear hd
  unfold fn_families_many s_families_many
  walk_at "evc"
  rw [c1]
  walk_at "evc"
  rw [h]
  walk_at "evc"
  exact ⟨_, rfl⟩
theorem fmany_x3 {ns : List Int} {m : Int} (hS : Sz ns) (hsum : 400 < ns.sum) (h1 : 1 ≤ m) (h2 : m ≤ 1000000000000000000000000000000) : ∃ r, fn_families_many [vv (tupI ns), vv (.int m)] = some (exF 32 "most" (.int 400), r) := by
  obtain ⟨r1, c1⟩ := check_sizes_ok hS
  obtain ⟨r2, c2⟩ := number_ok h1 h2
  obtain ⟨r3, c3⟩ := many_no hsum
  unfold fn_families_many s_families_many
  walk_at "evc"
  rw [c1]
  walk_at "evc"
  rw [c2]
  walk_at "evc"
  rw [DL.sumB_t]
  walk_at "evc"
  rw [c3]
  walk_at "evc"
  exact ⟨_, rfl⟩
theorem said_x1 {d x : D} (hd : d ∈ oddS) : ∃ r, fn__law_said [vv d, vv x] = some (.fd (.val (.str "sizes")), r) := by
  obtain ⟨r, h⟩ := fmany_x1 (x := x) hd
  clear hd
  unfold fn__law_said s__law_said
  walk_at "evc"
  rw [h]
  walk_at "evc"
  exact ⟨_, rfl⟩
theorem said_x2 {ns : List Int} {d : D} (hS : Sz ns) (hd : d ∈ deepD 35 :: badM) : ∃ r, fn__law_said [vv (tupI ns), vv d] = some (.fd (.val (.str "number")), r) := by
  obtain ⟨r, h⟩ := fmany_x2 hS hd
  clear hd
  unfold fn__law_said s__law_said
  walk_at "evc"
  rw [h]
  walk_at "evc"
  exact ⟨_, rfl⟩
theorem said_x3 {ns : List Int} {m : Int} (hS : Sz ns) (hsum : 400 < ns.sum) (h1 : 1 ≤ m) (h2 : m ≤ 1000000000000000000000000000000) : ∃ r, fn__law_said [vv (tupI ns), vv (.int m)] = some (.fd (.val (.tup [.str "many", .int 400])), r) := by
  obtain ⟨r, h⟩ := fmany_x3 hS hsum h1 h2
  unfold fn__law_said s__law_said
  walk_at "evc"
  rw [h]
  walk_at "evc"
  exact ⟨_, rfl⟩
theorem said_v {ns : List Int} {m : Int} (hS : Sz ns) (hsum : ns.sum ≤ 400) (h1 : 1 ≤ m) (h2 : m ≤ 1000000000000000000000000000000) : ∃ r, fn__law_said [vv (tupI ns), vv (.int m)] = some (.fd (.val (.int (tS (ns.map Int.toNat) 0 % m))), r) := by
  obtain ⟨r, h⟩ := fmany_v hS hsum h1 h2
  generalize tS (ns.map Int.toNat) 0 % m = n at *
  unfold fn__law_said s__law_said
  walk_at "evc"
  rw [h]
  walk_at "evc"
  exact ⟨_, rfl⟩

theorem rgL_lt0 (n : Nat) : (rgL 0 n).Pairwise (· < ·) := by
  unfold rgL
  exact List.pairwise_map.mpr (List.pairwise_lt_range.imp fun h => by omega)
theorem oth_row (K : Nat) : ∀ r ∈ oth K, Row K r := fun r hr => by
  obtain ⟨k, hk, rfl⟩ := List.mem_map.mp hr
  exact ⟨(rgL_lt0 K).filter _, fun x hx => rgL_mem0.mp ((List.mem_filter.mp hx).1)⟩
theorem Sz.kn {ns : List Int} (h : Sz ns) : Kn ns.length ns.length ns ns (oth ns.length) :=
  ⟨h.h1, h.h8, h.h1, h.h8, rfl, rfl, oth_len _, oth_row _, fun x hx => by have := h.b x hx; omega, fun x hx => by have := h.b x hx; omega, rfl⟩
theorem families_ok {ns : List Int} (h : Sz ns) : ∃ r, fn_families [vv (tupI ns)] = some (kO ns ns (oth ns.length), r) := by
  obtain ⟨r, hc⟩ := check_sizes_ok h
  obtain ⟨r2, hi⟩ := init_ok h.kn
  have h1 := h.h1
  have h8 := h.h8
  have hin : ∀ (x3 : Option Od) (k : Int) (e : DL.Env), e = [vv (tupI ns), vv (.lst ((rgL 0 ns.length).map .int)), none, vv (.int k)] → lcD [2] (tgn 2) C1t_families C1e_families ((rgL 0 ns.length).map .int) [] e = some (((rgL 0 ns.length).filter fun x => !decide (x = k)).map .int, e) := fun x3 k e he => by
    subst he
    exact lcD_filt (vs := [2]) (tg := tgn 2) (ft := C1t_families) (fe := C1e_families) (enc := D.int) (xs := rgL 0 ns.length) (p := fun x => !decide (x = k)) (f := D.int) (by rw [rgL_len]; omega) (fun x hx => by
      unfold C1t_families C1e_families
      by_cases c : x = k
      · walk_at "evc"
      · walk_at "evc")
  have hout : ∀ (e : DL.Env), e = [vv (tupI ns), vv (.lst ((rgL 0 ns.length).map .int)), none, none] → lcD [3] (tgn 3) (mr true) C2e_families ((rgL 0 ns.length).map .int) [] e = some ((oth ns.length).map tupI, e) := fun e he => by
    subst he
    unfold oth
    rw [List.map_map]
    exact lcD_mapS (vs := [3]) (tg := tgn 3) (ft := mr true) (fe := C2e_families) (enc := D.int) (xs := rgL 0 ns.length) (f := fun k => tupI ((rgL 0 ns.length).filter fun x => !decide (x = k))) (by rw [rgL_len]; omega) (fun x hx => by
      have hl := List.length_filter_le (fun y : Int => !decide (y = x)) (rgL 0 ns.length)
      rw [rgL_len] at hl
      have hi := hin none x _ rfl
      generalize (rgL 0 ns.length).map D.int = RR at *
      unfold C2e_families
      walk_at "evc"
      rw [hi]
      walk_at "evc")
  unfold fn_families s_families
  walk_at "evc"
  rw [hc]
  walk_at "evc"
  rw [hout _ rfl]
  walk_at "evc"
  rw [hi]
  walk_at "evc"
  exact ⟨_, rfl⟩
theorem kmany_v {ns : List Int} {m : Int} (hS : Sz ns) (h1 : 1 ≤ m) (h2 : m ≤ 1000000000000000000000000000000) (hs : ns.sum ≤ 60) (hst : stN ns ≤ 5000) : ∃ r, fn_kinds_many [vv (kD ns ns (oth ns.length)), vv (.int m)] = some (.fd (.val (.int (tS (ns.map Int.toNat) 0 % m))), r) := by
  obtain ⟨r, h⟩ := many_v hS.kn h1 h2 hs hst
  rw [cntK_eq hS.kn, wy_fam fun x hx => by have := hS.b x hx; omega] at h
  exact ⟨r, h⟩
theorem mixedN_ok {o : Option Od} {ns : List Int} (ho : IsPool o) (hn : ns.length ≤ 1000) :
    ∃ (p : List Int) (o' : Option Od), fn__law_mixed [o, vv (.lst (ns.map .int))] = some (.fd (.lst (p.map .int)), [o', vv (.lst (ns.map .int))]) ∧ IsPool o' ∧ p.Perm ns := by
  unfold fn__law_mixed s__law_mixed
  walk_at "evc"
  obtain ⟨out, e', h, o', ys, xs, rfl, rfl, ho', hp, hl⟩ := lcD_inv (vs := [3]) (tg := tgn 3) (ft := mr true) (fe := C1e__law_mixed)
    (fun i acc e => ∃ (o : Option Od) (ys xs : List Int), e = [o, vv (.lst (ns.map .int)), vl (xs.map .int), none] ∧ acc = ys.map D.int ∧ IsPool o ∧ (ys ++ xs).Perm ns ∧ ys.length = i)
    (ds := rgN 0 ns.length) (e := [o, vv (.lst (ns.map .int)), vl (ns.map .int), none]) ⟨o, [], ns, rfl, rfl, ho, List.Perm.refl _, rfl⟩ (by rw [rgN_len]; omega) (by
    rintro i d acc e hd ⟨o, ys, xs, rfl, rfl, ho, hp, hl⟩
    obtain ⟨hi, rfl⟩ := rgN_at0 hd
    have hl2 : ys.length + xs.length = ns.length := by
      have := hp.length_eq
      rw [List.length_append] at this
      omega
    obtain ⟨r, o', h1, ho', h2, h3⟩ := draw_ok (n := (xs.length : Int)) ho (by omega) (by omega)
    obtain ⟨a, b, cs, rfl⟩ := ho
    unfold C1e__law_mixed
    unfold poolO at *
    walk_at "evc"
    rw [h1]
    walk_at "evc"
    have hx : (xs.map D.int)[r.toNat]? = some (.int (xs[r.toNat]'(by omega))) := by
      rw [List.getElem?_map, List.getElem?_eq_getElem (by omega)]; rfl
    rw [hx]
    walk_at "evc"
    refine ⟨_, _, rfl, o', ys ++ [xs[r.toNat]'(by omega)], xs.eraseIdx r.toNat, by rw [DL.map_eraseIdx], by simp, ho', ?_, by simp [hl]⟩
    refine List.Perm.trans ?_ hp
    rw [List.append_assoc]
    refine List.Perm.append_left _ ?_
    exact perm_erase (by omega)
    )
  rw [h]
  walk_at "evc"
  refine ⟨ys, o', rfl, ho', ?_⟩
  rw [rgN_len] at hl
  have h2 := hp.length_eq
  rw [List.length_append] at h2
  have : xs = [] := List.length_eq_zero_iff.mp (by omega)
  rw [this, List.append_nil] at hp
  exact hp

theorem modm {a b m : Int} : (a % m * b) % m = (a * b) % m := by
  rw [Int.mul_emod, Int.emod_emod_of_dvd _ (Int.dvd_refl m), ← Int.mul_emod]
theorem fcI_turn (i : Nat) : fcI (i + 2) = fcI (i + 1) * ((i : Int) + 2) := by
  have := fcI_succ (x := ((i + 2 : Nat) : Int)) (by omega)
  rw [Int.toNat_natCast, show ((((i + 2 : Nat) : Int) - 1).toNat) = i + 1 by omega] at this
  rw [← this, Int.mul_comm, Int.natCast_add]; rfl
theorem orders_m {n m : Int} (h0 : 0 ≤ n) (h1 : n ≤ 400) (m1 : 1 ≤ m) (m2 : m ≤ 1000000000000000000000000000000) : ∃ r, fn__law_orders [vv (.int n), vv (.int m)] = some (.fd (.val (.int (fcI n.toNat % m))), r) := by
  have fm : ∀ x : Int, x.fmod m = x % m := fun x => Int.fmod_eq_emod_of_nonneg _ (by omega)
  unfold fn__law_orders s__law_orders
  walk_at "evc"
  rw [fm]
  obtain ⟨e', h, x3, rfl⟩ := forD_go (tg := tgn 3) (body := L1__law_orders)
    (fun i e => ∃ x3, e = [vv (.int n), vv (.int m), vv (.int (fcI (i + 1) % m)), x3])
    (ds := rgN 2 (n + 1 - 2).toNat) (e := [vv (.int n), vv (.int m), vv (.int (1 % m)), none]) ⟨none, rfl⟩ (by
    rintro i d e hd ⟨x3, rfl⟩
    obtain ⟨hi, rfl⟩ := rgN_at hd
    rw [fcI_turn, show (2 : Int) + (i : Nat) = (i : Int) + 2 by omega, ← modm]
    have hm1 := Int.emod_nonneg (fcI (i + 1)) (b := m) (by omega)
    have hm2 := Int.emod_lt_of_pos (fcI (i + 1)) (b := m) (by omega)
    generalize fcI (i + 1) % m = S at *
    have hm : mulD (.int S) (.int ((i : Int) + 2)) = some (.int (S * ((i : Int) + 2))) := DL.mulD_r (by omega) (by omega)
    unfold L1__law_orders
    walk_at "evc"
    try rw [hm]
    try walk_at "evc"
    rw [fm]
    exact ⟨_, rfl, _, rfl⟩)
  rw [rgN_len] at h
  have e : fcI ((n + 1 - 2).toNat + 1) = fcI n.toNat := by
    by_cases c : n = 0
    · subst c; rfl
    · rw [show (n + 1 - 2).toNat + 1 = n.toNat by omega]
  rw [e] at h
  rw [h]
  walk_at "evc"
  exact ⟨_, rfl⟩

theorem perm_sum {p q : List Int} (h : p.Perm q) : p.sum = q.sum := by
  induction h with
  | nil => rfl
  | cons x _ ih => rw [List.sum_cons, List.sum_cons, ih]
  | swap x y l => simp only [List.sum_cons]; omega
  | trans _ _ a b => rw [a, b]
theorem ctK_append {k : Int} {a b : List Int} : ctK k (a ++ b) = ctK k a + ctK k b := by unfold ctK; rw [List.filter_append, List.length_append]
theorem ctK_rep {k x : Int} {n : Nat} : ctK k (List.replicate n x) = if x = k then n else 0 := by
  unfold ctK
  by_cases c : x = k
  · rw [List.filter_eq_self.mpr (fun a ha => by rw [(List.mem_replicate.mp ha).2]; exact decide_eq_true c), if_pos c, List.length_replicate]
  · rw [List.filter_eq_nil_iff.mpr (fun a ha => by rw [(List.mem_replicate.mp ha).2, decide_eq_false c]; exact Bool.false_ne_true), if_neg c]; rfl
theorem ctK_none {k : Int} {l : List Int} (h : ∀ x ∈ l, x ≠ k) : ctK k l = 0 := by
  unfold ctK
  rw [List.filter_eq_nil_iff.mpr (fun a ha => by rw [decide_eq_false (h a ha)]; exact Bool.false_ne_true)]; rfl
theorem ctK_spr : ∀ {ns : List Int} {b i : Nat}, ctK ((b + i : Nat) : Int) (spr ns b) = (ns.getD i 0).toNat
  | [], b, i => rfl
  | x :: ns, b, 0 => by
    show ctK _ (List.replicate x.toNat (b : Int) ++ spr ns (b + 1)) = x.toNat
    rw [ctK_append, ctK_rep, if_pos (by omega), ctK_none (fun y hy => by have := spr_bd hy; omega)]; rfl
  | x :: ns, b, i + 1 => by
    show ctK _ (List.replicate x.toNat (b : Int) ++ spr ns (b + 1)) = (ns.getD i 0).toNat
    rw [ctK_append, ctK_rep, if_neg (by omega), Nat.zero_add, show b + (i + 1) = b + 1 + i by omega]
    exact ctK_spr
theorem Sz.nn {ns : List Int} (h : Sz ns) : ∀ x ∈ ns, 0 ≤ x := fun x hx => by have := h.b x hx; omega
theorem Sz.lf {ns : List Int} (h : Sz ns) : Lf ns.length ns := ⟨rfl, fun i => by
  by_cases c : i < ns.length
  · rw [List.getD_eq_getElem?_getD, List.getElem?_eq_getElem c]; exact h.nn _ (List.getElem_mem c)
  · rw [List.getD_eq_getElem?_getD, List.getElem?_eq_none (by omega)]; exact Int.le_refl 0⟩
theorem tS_half {ns : List Int} {S : Int} (hS : Sz ns) (hm : S ∈ ns) (hs : ns.sum = 2 * S) : tS (ns.map Int.toNat) 0 = fcI S.toNat * fcI S.toNat := by
  have h0 := hS.nn
  have hS1 := hS.b _ hm
  obtain ⟨k, hk, hg1⟩ := List.getElem_of_mem hm
  have hg : ns.getD k 0 = S := by rw [List.getD_eq_getElem?_getD, List.getElem?_eq_getElem hk, ← hg1]; rfl
  rw [← wy_fam h0]
  have hkb : ∀ x ∈ spr ns 0, 0 ≤ x ∧ x < ((ns.length : Nat) : Int) := fun x hx => by have := spr_bd hx; omega
  have hl := spr_len (k := 0) h0
  refine wy_half (k := (k : Int)) (by omega) (by omega) hkb hS.lf ?_ (by rw [Int.toNat_natCast, hg]; omega) (by omega) (by rw [Int.toNat_natCast, hg]; omega)
  have := ctK_spr (ns := ns) (b := 0) (i := k)
  rw [hg, Nat.zero_add] at this
  exact this
theorem tS_over {ns : List Int} {y : Int} (hS : Sz (ns ++ [y])) (hs : ns.sum < y) : tS ((ns ++ [y]).map Int.toNat) 0 = 0 := by
  have h0 := hS.nn
  have hy := hS.b y (List.mem_append_right _ List.mem_cons_self)
  have hg : (ns ++ [y]).getD ns.length 0 = y := by rw [List.getD_eq_getElem?_getD, List.getElem?_append_right (Nat.le_refl _), Nat.sub_self]; rfl
  have hll : (ns ++ [y]).length = ns.length + 1 := by rw [List.length_append]; rfl
  have hsm : (ns ++ [y]).sum = ns.sum + y := by rw [List.sum_append]; simp
  rw [← wy_fam h0]
  have hkb : ∀ x ∈ spr (ns ++ [y]) 0, 0 ≤ x ∧ x < (((ns ++ [y]).length : Nat) : Int) := fun x hx => by have := spr_bd hx; omega
  refine wy_zero (k := ((ns.length : Nat) : Int)) (by omega) (by omega) hkb hS.lf ?_
  have := ctK_spr (ns := ns ++ [y]) (b := 0) (i := ns.length)
  rw [hg, Nat.zero_add] at this
  rw [Int.toNat_natCast, hg, this, hsm]
  omega
theorem sum_le_mul {b : Int} : ∀ {l : List Int}, (∀ x ∈ l, 1 ≤ x ∧ x ≤ b) → l.sum ≤ b * l.length ∧ (l.length : Int) ≤ l.sum
  | [], _ => by simp
  | x :: l, h => by
    obtain ⟨h1, h2⟩ := sum_le_mul (l := l) fun y hy => h y (List.mem_cons_of_mem _ hy)
    have h3 := h x List.mem_cons_self
    rw [List.sum_cons, List.length_cons]
    have : b * ((l.length + 1 : Nat) : Int) = b * (l.length : Int) + b := by rw [Int.natCast_add, Int.mul_add]; simp
    rw [this]
    omega
theorem parts_ok {o x1 : Option Od} (ho : IsPool o) {n : Nat} (hn : n ≤ 3) : ∃ (ps : List Int) (o' : Option Od), lcD [3] (tgn 3) (mr true) C1e__law_half_right (rgN 0 n) [] [o, x1, none, none, none, none] = some (ps.map .int, [o', x1, none, none, none, none]) ∧ IsPool o' ∧ ps.length = n ∧ ∀ x ∈ ps, 1 ≤ x ∧ x ≤ 60 := by
  obtain ⟨out, e', h, o', ys, rfl, rfl, ho', hl, hb⟩ := lcD_inv (vs := [3]) (tg := tgn 3) (ft := mr true) (fe := C1e__law_half_right)
    (fun i acc e => ∃ (o : Option Od) (ys : List Int), e = [o, x1, none, none, none, none] ∧ acc = ys.map D.int ∧ IsPool o ∧ ys.length = i ∧ ∀ x ∈ ys, 1 ≤ x ∧ x ≤ 60)
    (ds := rgN 0 n) (e := [o, x1, none, none, none, none]) ⟨o, [], rfl, rfl, ho, rfl, fun x hx => absurd hx List.not_mem_nil⟩ (by rw [rgN_len]; omega) (by
    rintro i d acc e hd ⟨o, ys, rfl, rfl, ho, hl, hb⟩
    obtain ⟨r, o', h1, ho', h2, h3⟩ := draw_ok (n := 60) ho (by decide) (by decide)
    obtain ⟨a, b, cs, rfl⟩ := ho
    unfold C1e__law_half_right
    unfold poolO at *
    walk_at "evc"
    rw [h1]
    walk_at "evc"
    refine ⟨_, _, rfl, o', ys ++ [1 + r], rfl, by simp, ho', by simp [hl], fun x hx => ?_⟩
    rcases List.mem_append.mp hx with hx | hx
    · exact hb x hx
    · rw [List.mem_singleton.mp hx]; omega)
  rw [rgN_len] at hl
  exact ⟨ys, o', h, ho', hl, hb⟩
theorem half_ok {o : Option Od} {m : Int} (ho : IsPool o) (m1 : 1 ≤ m) (m2 : m ≤ 1000000000000000000000000000000) : ∃ o', fn__law_half_right [o, vv (.int m)] = some (.fd (.val (.bl true)), [o', vv (.int m)]) ∧ IsPool o' := by
  obtain ⟨r1, o1, d1, ho1, h11, h12⟩ := draw_ok (n := 3) ho (by decide) (by decide)
  obtain ⟨ps, o2, hl, ho2, hlen, hb⟩ := parts_ok (x1 := vv (.int m)) ho1 (n := (1 + r1).toNat) (by omega)
  obtain ⟨hs1, hs2⟩ := sum_le_mul hb
  obtain ⟨p, o3, hm, ho3, hp⟩ := mixedN_ok (ns := ps ++ [ps.sum]) ho2 (by rw [List.length_append, List.length_singleton]; omega)
  have hpl := hp.length_eq
  rw [List.length_append, List.length_singleton] at hpl
  have hps := perm_sum hp
  rw [List.sum_append] at hps
  have hps2 : p.sum = 2 * ps.sum := by simp at hps; omega
  have hbp : ∀ x ∈ p, 1 ≤ x ∧ x ≤ 1000000000000000000000000000000 := fun x hx => by
    rcases List.mem_append.mp (hp.mem_iff.mp hx) with hx | hx
    · have := hb x hx; omega
    · rw [List.mem_singleton.mp hx]; omega
  have hSz : Sz p := ⟨by omega, by omega, hbp⟩
  obtain ⟨q1, s1⟩ := said_v (m := m) hSz (by omega) m1 m2
  rw [tS_half (S := ps.sum) hSz (hp.mem_iff.mpr (List.mem_append_right _ List.mem_cons_self)) hps2] at s1
  obtain ⟨q2, g1⟩ := orders_m (n := ps.sum) (m := m) (by omega) (by omega) m1 m2
  have fm : ∀ x : Int, x.fmod m = x % m := fun x => Int.fmod_eq_emod_of_nonneg _ (by omega)
  generalize fcI ps.sum.toNat = F at *
  rw [Int.mul_emod] at s1
  have f1 := Int.emod_nonneg F (b := m) (by omega)
  have f2 := Int.emod_lt_of_pos F (b := m) (by omega)
  generalize F % m = Q at *
  have f3 : Q < ((2 ^ 100 : Nat) : Int) := Int.lt_of_lt_of_le f2 (Int.le_trans m2 (by decide +kernel))
  have hmw : mulW (.int Q) (.int Q) = some (.int (Q * Q)) := DL.mulW_b (a := 100) (b := 100) (by omega) (by omega) (by decide) (by decide) (by decide)
  have hpl8 : p.length ≤ 8 := by omega
  have hpsl : ps.length ≤ 8 := by omega
  clear f3
  refine ⟨o3, ?_, ho3⟩
  by_cases c : 4 * ps.sum < 400
  · have hSz2 : Sz (p ++ [1 + 2 * ps.sum]) := ⟨by rw [List.length_append, List.length_singleton]; omega, by rw [List.length_append, List.length_singleton]; omega, fun x hx => by
      rcases List.mem_append.mp hx with hx | hx
      · exact hbp x hx
      · rw [List.mem_singleton.mp hx]; omega⟩
    obtain ⟨q3, s3⟩ := said_v (m := m) hSz2 (by rw [List.sum_append]; simp; omega) m1 m2
    rw [tS_over hSz2 (by omega), Int.zero_emod] at s3
    obtain ⟨a0, b0, c0, rfl⟩ := ho
    obtain ⟨a1, b1, c1, rfl⟩ := ho1
    obtain ⟨a2, b2, c2, rfl⟩ := ho2
    obtain ⟨a3, b3, c3, rfl⟩ := ho3
    clear hbp hb hSz hSz2 hp
    unfold fn__law_half_right s__law_half_right
    unfold poolO at *
    walk_at "evc"
    rw [d1]
    walk_at "evc"
    rw [hl]
    walk_at "evc"
    rw [DL.sumB_s]
    walk_at "evc"
    rw [hm]
    walk_at "evc"
    rw [DL.sumB_s]
    walk_at "evc"
    rw [g1]
    walk_at "evc"
    rw [s1]
    walk_at "evc"
    rw [hmw]
    walk_at "evc"
    rw [fm]
    walk_at "evc"
    rw [DL.sumB_s]
    walk_at "evc"
    rw [DL.sumB_s]
    walk_at "evc"
    rw [s3]
    walk_at "evc"
  · obtain ⟨a0, b0, c0, rfl⟩ := ho
    obtain ⟨a1, b1, c1, rfl⟩ := ho1
    obtain ⟨a2, b2, c2, rfl⟩ := ho2
    obtain ⟨a3, b3, c3, rfl⟩ := ho3
    clear hbp hb hSz hp
    unfold fn__law_half_right s__law_half_right
    unfold poolO at *
    walk_at "evc"
    rw [d1]
    walk_at "evc"
    rw [hl]
    walk_at "evc"
    rw [DL.sumB_s]
    walk_at "evc"
    rw [hm]
    walk_at "evc"
    rw [DL.sumB_s]
    walk_at "evc"
    rw [g1]
    walk_at "evc"
    rw [s1]
    walk_at "evc"
    rw [hmw]
    walk_at "evc"
    rw [fm]
    walk_at "evc"
    rw [DL.sumB_s]
    walk_at "evc"

theorem bs_own_turn {s i : Nat} {x0 x1 x4 x5 x6 x7 x8 x9 x10 : Option Od} (hi : i < s) (hs : s ≤ 400) :
    for1 (tgn 4) L2__law_by_signs (.int (i : Nat)) [x0, x1, vv (.int (s : Nat)), vl ((ownI s (i + 1)).map .int), x4, x5, x6, x7, x8, x9, x10] =
      some (.nx, [x0, x1, vv (.int (s : Nat)), vl ((ownI s (i + 2)).map .int), vv (.int (i : Nat)), x5, x6, x7, x8, x9, x10]) := by
  have hl := ownI_len s (i + 1)
  have hlast : ((ownI s (i + 1)).map D.int)[i]? = some (.int (cc s s i)) := by
    rw [List.getElem?_map]
    unfold ownI
    rw [List.getElem?_map, List.getElem?_range (by omega)]; rfl
  have he := cc_own (s := s) (j := i) hi
  have hdiv : (cc s s i * ((s : Int) - i) * ((s : Int) - i)).fdiv ((i : Int) + 1) = cc s s (i + 1) := by
    rw [← he, Int.fdiv_eq_ediv_of_nonneg _ (by omega)]
    exact Int.mul_ediv_cancel _ (by omega)
  rw [show ownI s (i + 2) = ownI s (i + 1) ++ [cc s s (i + 1)] from ownI_succ s (i + 1)]
  generalize ownI s (i + 1) = L at *
  generalize cc s s (i + 1) = z at *
  generalize cc s s i = q at *
  unfold L2__law_by_signs
  walk_at "evc"
  try rw [hlast]
  try walk_at "evc"
  rw [hdiv]
theorem bs_own {s : Nat} {x0 x1 x4 x5 x6 x7 x8 x9 x10 : Option Od} (hs : s ≤ 400) :
    ∃ y4, forD (tgn 4) L2__law_by_signs (rgN 0 s) [x0, x1, vv (.int (s : Nat)), vl [.int 1], x4, x5, x6, x7, x8, x9, x10] =
      some (.nx, [x0, x1, vv (.int (s : Nat)), vl ((ownI s (s + 1)).map .int), y4, x5, x6, x7, x8, x9, x10]) := by
  obtain ⟨e', h, y4, rfl⟩ := forD_go (tg := tgn 4) (body := L2__law_by_signs)
    (fun i e => ∃ y4, e = [x0, x1, vv (.int (s : Nat)), vl ((ownI s (i + 1)).map .int), y4, x5, x6, x7, x8, x9, x10])
    (ds := rgN 0 s) (e := [x0, x1, vv (.int (s : Nat)), vl ((ownI s 1).map .int), x4, x5, x6, x7, x8, x9, x10]) ⟨_, rfl⟩ (by
    rintro i d e hd ⟨y4, rfl⟩
    obtain ⟨hi, rfl⟩ := rgN_at0 hd
    exact ⟨_, bs_own_turn hi hs, _, rfl⟩)
  rw [rgN_len] at h
  have e1 : (ownI s 1).map D.int = [.int 1] := by
    unfold ownI
    show [D.int (cc s s 0)] = _
    rw [cc_0]
  rw [e1] at h
  exact ⟨y4, h⟩
theorem bs_inner {i M : Nat} {A : Int} {own W L : List Int} {x0 x1 x2 x6 x7 x8 x9 x10 : Option Od} (hx : x1 = vl (W.map .int) ∨ x1 = vv (.lst (W.map .int))) (hiW : i < W.length) (hM : L.length = M) (hi : i + own.length ≤ M) (hA : 0 ≤ A) (hL : ∀ k, 0 ≤ L.getD k 0 ∧ L.getD k 0 ≤ (i : Int) * A)
    (hw0 : 0 ≤ W.getD i 0) (hw : W.getD i 0 < ((2 ^ 57680 : Nat) : Int)) (ho : ∀ j, j < own.length → 0 ≤ own.getD j 0 ∧ own.getD j 0 < ((2 ^ 7201 : Nat) : Int) ∧ W.getD i 0 * own.getD j 0 ≤ A) :
    ∃ L' y6, forD (tgn 6) L4__law_by_signs (rgN 0 own.length) [x0, x1, x2, vl (own.map .int), vv (.int (i : Nat)), vl (L.map .int), x6, x7, x8, x9, x10] =
      some (.nx, [x0, x1, x2, vl (own.map .int), vv (.int (i : Nat)), vl (L'.map .int), y6, x7, x8, x9, x10]) ∧ L'.length = M ∧ (∀ k, 0 ≤ L'.getD k 0 ∧ L'.getD k 0 ≤ ((i : Int) + 1) * A) ∧
      ∀ V, phi V L' = phi V L + sumN own.length fun j => V (i + j) * (W.getD i 0 * own.getD j 0) := by
  have hatW := ints_at hiW
  obtain ⟨e', h, L', y6, rfl, h1, h2, h3⟩ := forD_go (tg := tgn 6) (body := L4__law_by_signs)
    (fun j e => ∃ L' y6, e = [x0, x1, x2, vl (own.map .int), vv (.int (i : Nat)), vl (L'.map .int), y6, x7, x8, x9, x10] ∧ L'.length = M ∧ (∀ k, 0 ≤ L'.getD k 0 ∧ L'.getD k 0 ≤ ((i : Int) + if k < i + j then 1 else 0) * A) ∧
      ∀ V, phi V L' = phi V L + sumN j fun j => V (i + j) * (W.getD i 0 * own.getD j 0))
    (ds := rgN 0 own.length) (e := [x0, x1, x2, vl (own.map .int), vv (.int (i : Nat)), vl (L.map .int), x6, x7, x8, x9, x10]) ⟨L, x6, rfl, hM, fun k => by
      obtain ⟨a, b⟩ := hL k
      refine ⟨a, Int.le_trans b (Int.mul_le_mul_of_nonneg_right (by split <;> omega) hA)⟩, fun V => by show _ = _ + 0; omega⟩ (by
    rintro j d e hd ⟨L1, y6, rfl, h1, h2, h3⟩
    obtain ⟨hj, rfl⟩ := rgN_at0 hd
    obtain ⟨o1, o2, o3⟩ := ho j hj
    have hij : i + j < L1.length := by omega
    have hat := ints_at hij
    have hato := ints_at hj
    have hmw : mulW (.int (W.getD i 0)) (.int (own.getD j 0)) = some (.int (W.getD i 0 * own.getD j 0)) := DL.mulW_b (a := 57680) (b := 7201) (by omega) (by omega) (by decide) (by decide) (by decide)
    have hset : (L1.map D.int).set (i + j) (.int (L1.getD (i + j) 0 + W.getD i 0 * own.getD j 0)) = (L1.set (i + j) (L1.getD (i + j) 0 + W.getD i 0 * own.getD j 0)).map .int := List.map_set.symm
    refine ⟨_, ?_, L1.set (i + j) (L1.getD (i + j) 0 + W.getD i 0 * own.getD j 0), vv (.int (j : Nat)), rfl, by rw [List.length_set]; exact h1, fun k => ?_, fun V => ?_⟩
    · rw [← hset]
      generalize own.getD j 0 = q at *
      generalize L1.getD (i + j) 0 = r at *
      generalize W.getD i 0 = w at *
      have e2 : ((i : Nat) : Int) + ((j : Nat) : Int) = ((i + j : Nat) : Int) := by omega
      unfold L4__law_by_signs
      rcases hx with rfl | rfl
      · walk_at "evc"
        rw [e2]
        walk_at "evc"
        rw [hat]
        walk_at "evc"
        rw [hatW]
        walk_at "evc"
        rw [hato]
        walk_at "evc"
        rw [hmw]
        walk_at "evc"
        rw [show ((i : Int) + (j : Int)).toNat = i + j by omega]
      · walk_at "evc"
        rw [e2]
        walk_at "evc"
        rw [hat]
        walk_at "evc"
        rw [hatW]
        walk_at "evc"
        rw [hato]
        walk_at "evc"
        rw [hmw]
        walk_at "evc"
        rw [show ((i : Int) + (j : Int)).toNat = i + j by omega]
    · rw [getD_setI hij]
      obtain ⟨a, b⟩ := h2 k
      by_cases c : k = i + j
      · subst c
        rw [if_pos rfl, if_pos (by omega)]
        rw [if_neg (by omega)] at b
        have := Int.mul_nonneg hw0 o1
        rw [Int.add_mul, Int.one_mul]
        rw [Int.add_zero] at b
        omega
      · rw [if_neg c]
        refine ⟨a, Int.le_trans b (Int.mul_le_mul_of_nonneg_right ?_ hA)⟩
        by_cases d : k < i + j
        · rw [if_pos d, if_pos (by omega)]; omega
        · rw [if_neg d]; split <;> omega
    · rw [phi_set hij, h3 V]
      show _ = phi V L + (sumN j (fun j => V (i + j) * (W.getD i 0 * own.getD j 0)) + V (i + j) * (W.getD i 0 * own.getD j 0))
      rw [show L1.getD (i + j) 0 + W.getD i 0 * own.getD j 0 - L1.getD (i + j) 0 = W.getD i 0 * own.getD j 0 by omega]
      omega)
  rw [rgN_len] at h2 h3
  refine ⟨L', y6, h, h1, fun k => ?_, h3⟩
  obtain ⟨a, b⟩ := h2 k
  refine ⟨a, Int.le_trans b (Int.mul_le_mul_of_nonneg_right (by split <;> omega) hA)⟩
theorem bs_outer {n s M : Nat} {A : Int} {W : List Int} {x0 x1 x2 x4 x6 x7 x8 x9 x10 : Option Od} (hx : x1 = vl (W.map .int) ∨ x1 = vv (.lst (W.map .int))) (hs : s ≤ 400) (hW : W.length = n + 1) (hM : M = n + 1 + s) (hn : n ≤ 400) (hA : 0 ≤ A)
    (hw : ∀ k, 0 ≤ W.getD k 0 ∧ W.getD k 0 < ((2 ^ 57680 : Nat) : Int) ∧ ∀ j, j ≤ s → W.getD k 0 * cc s s j ≤ A) :
    ∃ L' y4 y6, forD (tgn 4) L3__law_by_signs (rgN 0 W.length) [x0, x1, x2, vl ((ownI s (s + 1)).map .int), x4, vl ((List.replicate M (0 : Int)).map .int), x6, x7, x8, x9, x10] =
      some (.nx, [x0, x1, x2, vl ((ownI s (s + 1)).map .int), y4, vl (L'.map .int), y6, x7, x8, x9, x10]) ∧ L'.length = M ∧ (∀ k, 0 ≤ L'.getD k 0 ∧ L'.getD k 0 ≤ ((n : Int) + 1) * A) ∧
      ∀ V, phi V L' = sumN (n + 1) fun i => sumN (s + 1) fun j => V (i + j) * (W.getD i 0 * cc s s j) := by
  have hol := ownI_len s (s + 1)
  obtain ⟨e', h, L', y4, y6, rfl, h1, h2, h3⟩ := forD_go (tg := tgn 4) (body := L3__law_by_signs)
    (fun i e => ∃ L' y4 y6, e = [x0, x1, x2, vl ((ownI s (s + 1)).map .int), y4, vl (L'.map .int), y6, x7, x8, x9, x10] ∧ L'.length = M ∧ (∀ k, 0 ≤ L'.getD k 0 ∧ L'.getD k 0 ≤ (i : Int) * A) ∧
      ∀ V, phi V L' = sumN i fun i => sumN (s + 1) fun j => V (i + j) * (W.getD i 0 * cc s s j))
    (ds := rgN 0 W.length) (e := [x0, x1, x2, vl ((ownI s (s + 1)).map .int), x4, vl ((List.replicate M (0 : Int)).map .int), x6, x7, x8, x9, x10]) ⟨List.replicate M 0, x4, x6, rfl, List.length_replicate, fun k => by
      have e : (List.replicate M (0 : Int)).getD k 0 = 0 := by
        rw [List.getD_eq_getElem?_getD, List.getElem?_replicate]
        split <;> rfl
      rw [e, show ((0 : Nat) : Int) = 0 from rfl, Int.zero_mul]
      exact ⟨Int.le_refl 0, Int.le_refl 0⟩, fun V => phi_zero⟩ (by
    rintro i d e hd ⟨L1, y4, y6, rfl, h1, h2, h3⟩
    obtain ⟨hi, rfl⟩ := rgN_at0 hd
    obtain ⟨w0, w1, w2⟩ := hw i
    obtain ⟨L2, z6, g1, g2, g3, g4⟩ := bs_inner (i := i) (M := M) (A := A) (own := ownI s (s + 1)) (W := W) (L := L1) (x0 := x0) (x1 := x1) (x2 := x2) (x6 := y6) (x7 := x7) (x8 := x8) (x9 := x9) (x10 := x10) hx hi h1 (by omega) hA h2 w0 w1 (fun j hj => by
      have hj2 : j ≤ s := by omega
      rw [ownI_at (by omega)]
      obtain ⟨c1, c2⟩ := cc_lt hs hj2
      exact ⟨c1, c2, w2 j hj2⟩)
    refine ⟨_, ?_, L2, vv (.int (i : Nat)), z6, rfl, g2, fun k => by have := g3 k; rw [Int.natCast_add]; exact this, fun V => ?_⟩
    · generalize ownI s (s + 1) = own at *
      unfold L3__law_by_signs
      walk_at "evc"
      rw [g1]
    · rw [g4 V, h3 V, hol]
      show _ = sumN i _ + sumN (s + 1) fun j => V (i + j) * (W.getD i 0 * cc s s j)
      congr 1
      exact sumN_congr fun j hj => by rw [ownI_at hj])
  rw [rgN_len, hW] at h2 h3
  exact ⟨L', y4, y6, h, h1, h2, h3⟩

theorem bs_turn {ns W : List Int} {t : Nat} {x0 x1 x2 x3 x4 x5 x6 x7 x8 x9 x10 : Option Od} (hS : Sz ns) (hsum : ns.sum ≤ 400) (ht : t < ns.length) (hW : Wys ns t W) (hx : x1 = vl (W.map .int) ∨ x1 = vv (.lst (W.map .int))) :
    ∃ L y3 y4 y5 y6, for1 (tgn 2) L1__law_by_signs (.int (ns.getD t 0)) [x0, x1, x2, x3, x4, x5, x6, x7, x8, x9, x10] =
      some (.nx, [x0, vv (.lst (L.map .int)), vv (.int (ns.getD t 0)), y3, y4, y5, y6, x7, x8, x9, x10]) ∧ Wys ns (t + 1) L := by
  have h0 : ∀ x ∈ ns, 0 ≤ x := fun x hx => by have := hS.b x hx; omega
  have hmem : ns.getD t 0 ∈ ns := by rw [List.getD_eq_getElem?_getD, List.getElem?_eq_getElem ht]; exact List.getElem_mem ht
  have hs1 := hS.b _ hmem
  have hn := nT_sum (t := t) h0
  have hn2 := nT_sum (t := t + 1) h0
  rw [nT_succ ht] at hn2
  have h8 := hS.h8
  obtain ⟨s, hs⟩ : ∃ s : Nat, ns.getD t 0 = (s : Int) := ⟨(ns.getD t 0).toNat, by omega⟩
  have hstep := fun (L : List Int) (hl) (hb) (hv) => Wys.step (L := L) hW ht (by omega) hl hb hv
  rw [hs] at hn2 hstep ⊢
  rw [Int.toNat_natCast] at hn2 hstep
  have hA : (0 : Int) ≤ ((2 ^ (1 + 7210 * t) : Nat) : Int) * ((2 ^ 7201 : Nat) : Int) := Int.mul_nonneg (Int.natCast_nonneg _) (Int.natCast_nonneg _)
  obtain ⟨y4, ho⟩ := bs_own (s := s) (x0 := x0) (x1 := x1) (x4 := x4) (x5 := x5) (x6 := x6) (x7 := x7) (x8 := x8) (x9 := x9) (x10 := x10) (by omega)
  obtain ⟨L, z4, z6, g, l1, l2, l3⟩ := bs_outer (n := nT ns t) (s := s) (M := nT ns t + 1 + s) (A := ((2 ^ (1 + 7210 * t) : Nat) : Int) * ((2 ^ 7201 : Nat) : Int)) (W := W) (x0 := x0) (x1 := x1) (x2 := vv (.int (s : Nat))) (x4 := y4) (x6 := x6) (x7 := x7) (x8 := x8) (x9 := x9) (x10 := x10)
    hx (by omega) hW.len rfl (by omega) hA (fun k => by
      obtain ⟨a, b⟩ := hW.bd k
      refine ⟨a, Int.lt_of_lt_of_le b (pow_mono (by omega)), fun j hj => ?_⟩
      obtain ⟨c1, c2⟩ := cc_lt (s := s) (by omega) hj
      exact Int.mul_le_mul (Int.le_of_lt b) (Int.le_of_lt c2) c1 (Int.natCast_nonneg _))
  have hwl := hW.len
  have hmo := DL.mulO_1 (x := 0) (k := ((W.length : Nat) : Int) + (s : Int)) (by omega) (by omega)
  rw [show (((W.length : Nat) : Int) + (s : Int)).toNat = nT ns t + 1 + s by omega] at hmo
  refine ⟨L, vl ((ownI s (s + 1)).map .int), z4, vv (.lst (L.map .int)), z6, ?_, hstep L l1 l2 l3⟩
  have hwn : W.length ≤ 401 := by omega
  clear hstep hA l2 l3 hW
  generalize ownI s (s + 1) = own at *
  generalize nT ns t + 1 + s = M at *
  generalize List.replicate M (0 : Int) = Z at *
  unfold L1__law_by_signs
  rcases hx with rfl | rfl
  · walk_at "evc"
    rw [ho]
    walk_at "evc"
    rw [hmo]
    walk_at "evc"
    rw [g]
    walk_at "evc"
  · walk_at "evc"
    rw [ho]
    walk_at "evc"
    rw [hmo]
    walk_at "evc"
    rw [g]
    walk_at "evc"
theorem bs_tot {W : List Int} {N a : Nat} {tot : Int} {x0 x2 x3 x4 x5 x6 x9 x10 : Option Od} (hl : W.length = N + 1) (hN : N ≤ 400) (ha : a ≤ N) (hw : ∀ k, 0 ≤ W.getD k 0 ∧ W.getD k 0 < ((2 ^ 57681 : Nat) : Int)) :
    ∃ y10, for1 (tgn 9) L5__law_by_signs (.int (a : Nat)) [x0, vv (.lst (W.map .int)), x2, x3, x4, x5, x6, vv (.int tot), vv (.int (fcI a)), x9, x10] =
      some (.nx, [x0, vv (.lst (W.map .int)), x2, x3, x4, x5, x6, vv (.int (tot + sg (N - a) * (W.getD (N - a) 0 * fcI a))), vv (.int (fcI (a + 1))), vv (.int (a : Nat)), y10]) := by
  have hat := ints_at (L := W) (i := N - a) (by omega)
  obtain ⟨w0, w1⟩ := hw (N - a)
  have hf := fcI_lt (a := a) (by omega)
  have hp := fcI_pos a
  have hf2 : fcI a < ((2 ^ 3700 : Nat) : Int) := Int.lt_of_lt_of_le hf (pow_mono (by omega))
  have hm1 : mulW (.int (1 * W.getD (N - a) 0)) (.int (fcI a)) = some (.int (1 * W.getD (N - a) 0 * fcI a)) := DL.mulW_b (a := 57681) (b := 3700) (by omega) (by omega) (by decide) (by decide) (by decide)
  have hm2 : mulW (.int (-1 * W.getD (N - a) 0)) (.int (fcI a)) = some (.int (-1 * W.getD (N - a) 0 * fcI a)) := DL.mulW_b (a := 57681) (b := 3700) (by omega) (by omega) (by decide) (by decide) (by decide)
  have hsu : fcI (a + 1) = fcI a * ((a : Int) + 1) := by
    have h2 := fcI_succ (x := ((a + 1 : Nat) : Int)) (by omega)
    rw [Int.toNat_natCast, show ((((a + 1 : Nat) : Int) - 1).toNat) = a by omega] at h2
    rw [← h2, Int.mul_comm]; rfl
  have hidx : ((W.length : Nat) : Int) - 1 - (a : Int) = ((N - a : Nat) : Int) := by omega
  have hfm : (((N - a : Nat) : Int)).fmod 2 = (((N - a) % 2 : Nat) : Int) := by rw [Int.fmod_eq_emod_of_nonneg _ (by decide)]; omega
  have hmul : mulD (.int (fcI a)) (.int ((a : Int) + 1)) = some (.int (fcI a * ((a : Int) + 1))) := DL.mulD_r (by omega) (by omega)
  rw [hsu]
  generalize hF : fcI a = F at *
  generalize hv : W.getD (N - a) 0 = w at *
  clear hf hf2 w1
  unfold sg
  by_cases c : (N - a) % 2 = 0
  · rw [if_pos c, ← Int.mul_assoc]
    rw [c] at hfm
    unfold L5__law_by_signs
    walk_at "evc"
    rw [hidx]
    walk_at "evc"
    rw [hfm]
    walk_at "evc"
    rw [hat]
    walk_at "evc"
    rw [hm1]
    walk_at "evc"
    try rw [hmul]
    try walk_at "evc"
    exact ⟨_, rfl⟩
  · rw [if_neg c, ← Int.mul_assoc]
    rw [show (N - a) % 2 = 1 by omega] at hfm
    unfold L5__law_by_signs
    walk_at "evc"
    rw [hidx]
    walk_at "evc"
    rw [hfm]
    walk_at "evc"
    rw [hat]
    walk_at "evc"
    rw [hm2]
    walk_at "evc"
    try rw [hmul]
    try walk_at "evc"
    exact ⟨_, rfl⟩
theorem bs_loop {ns : List Int} (hS : Sz ns) (hsum : ns.sum ≤ 400) : ∃ (W : List Int) (y2 y3 y4 y5 y6 : Option Od), forD (tgn 2) L1__law_by_signs (ns.map .int) [vv (tupI ns), vl [.int 1], none, none, none, none, none, none, none, none, none] =
    some (.nx, [vv (tupI ns), vv (.lst (W.map .int)), y2, y3, y4, y5, y6, none, none, none, none]) ∧ Wys ns ns.length W := by
  obtain ⟨e', h, W, x1, y2, y3, y4, y5, y6, rfl, hW, hx⟩ := forD_go (tg := tgn 2) (body := L1__law_by_signs)
    (fun i e => ∃ (W : List Int) (x1 y2 y3 y4 y5 y6 : Option Od), e = [vv (tupI ns), x1, y2, y3, y4, y5, y6, none, none, none, none] ∧ Wys ns i W ∧ ((i = 0 ∧ x1 = vl (W.map .int)) ∨ x1 = vv (.lst (W.map .int))))
    (ds := ns.map .int) (e := [vv (tupI ns), vl [.int 1], none, none, none, none, none, none, none, none, none]) ⟨[1], _, _, _, _, _, _, rfl, Wys.zero, .inl ⟨rfl, rfl⟩⟩ (by
    rintro i d e hd ⟨W, x1, y2, y3, y4, y5, y6, rfl, hW, hx⟩
    rw [List.getElem?_map] at hd
    obtain ⟨z, hz, rfl⟩ := map_some hd
    have hi : i < ns.length := (List.getElem?_eq_some_iff.mp hz).1
    have hz2 : ns.getD i 0 = z := by rw [List.getD_eq_getElem?_getD, hz]; rfl
    obtain ⟨L, w3, w4, w5, w6, g, hL⟩ := bs_turn (x0 := vv (tupI ns)) (x1 := x1) (x2 := y2) (x3 := y3) (x4 := y4) (x5 := y5) (x6 := y6) (x7 := none) (x8 := none) (x9 := none) (x10 := none) hS hsum hi hW (by
      rcases hx with ⟨-, h⟩ | h
      · exact .inl h
      · exact .inr h)
    rw [hz2] at g
    exact ⟨_, g, L, _, _, _, _, _, _, rfl, hL, .inr rfl⟩)
  rw [List.length_map] at hW hx
  rcases hx with ⟨h0, -⟩ | rfl
  · have := hS.h1; omega
  · exact ⟨W, y2, y3, y4, y5, y6, h, hW⟩
theorem signs_v {ns : List Int} (hS : Sz ns) (hsum : ns.sum ≤ 400) : ∃ r, fn__law_by_signs [vv (tupI ns)] = some (.fd (.val (.int (tS (ns.map Int.toNat) 0))), r) := by
  obtain ⟨W, y2, y3, y4, y5, y6, g, hW⟩ := bs_loop hS hsum
  have hN := Wys.N hS hsum
  have hlen := hW.len
  have hwb := hW.all hS
  have htot := tot_all hW
  clear hW
  generalize nT ns ns.length = N at *
  generalize tS (ns.map Int.toNat) 0 = T at *
  obtain ⟨e', hl, y8, y9, y10, rfl, -⟩ := forD_go (tg := tgn 9) (body := L5__law_by_signs)
    (fun i e => ∃ y8 y9 y10, e = [vv (tupI ns), vv (.lst (W.map .int)), y2, y3, y4, y5, y6, vv (.int (totS W N i)), y8, y9, y10] ∧ y8 = vv (.int (fcI i)))
    (ds := rgN 0 W.length) (e := [vv (tupI ns), vv (.lst (W.map .int)), y2, y3, y4, y5, y6, vv (.int 0), vv (.int 1), none, none]) ⟨_, none, none, rfl, rfl⟩ (by
    rintro i d e hd ⟨y8, y9, y10, rfl, rfl⟩
    obtain ⟨hi, rfl⟩ := rgN_at0 hd
    obtain ⟨w10, hst⟩ := bs_tot (W := W) (N := N) (a := i) (tot := totS W N i) (x0 := vv (tupI ns)) (x2 := y2) (x3 := y3) (x4 := y4) (x5 := y5) (x6 := y6) (x9 := y9) (x10 := y10) hlen hN (by omega) hwb
    exact ⟨_, hst, _, _, _, rfl, rfl⟩)
  rw [rgN_len] at hl
  have e1 : totS W N W.length = T := by rw [hlen]; exact htot
  rw [e1] at hl
  unfold fn__law_by_signs s__law_by_signs
  walk_at "evc"
  rw [g]
  walk_at "evc"
  rw [hl]
  walk_at "evc"
  exact ⟨_, rfl⟩

theorem szs_a {o : Option Od} (ho : IsPool o) {n : Nat} (hn : n ≤ 8) : ∃ (ps : List Int) (o' : Option Od), lcD [2] (tgn 2) (mr true) C1e__law_many_right (rgN 0 n) [] [o, none, none, none, none] = some (ps.map .int, [o', none, none, none, none]) ∧ IsPool o' ∧ ps.length = n ∧ ∀ x ∈ ps, 1 ≤ x ∧ x ≤ 12 := by
  obtain ⟨out, e', h, o', ys, rfl, rfl, ho', hl, hb⟩ := lcD_inv (vs := [2]) (tg := tgn 2) (ft := mr true) (fe := C1e__law_many_right)
    (fun i acc e => ∃ (o : Option Od) (ys : List Int), e = [o, none, none, none, none] ∧ acc = ys.map D.int ∧ IsPool o ∧ ys.length = i ∧ ∀ x ∈ ys, 1 ≤ x ∧ x ≤ 12)
    (ds := rgN 0 n) (e := [o, none, none, none, none]) ⟨o, [], rfl, rfl, ho, rfl, fun x hx => absurd hx List.not_mem_nil⟩ (by rw [rgN_len]; omega) (by
    rintro i d acc e hd ⟨o, ys, rfl, rfl, ho, hl, hb⟩
    obtain ⟨r, o', h1, ho', h2, h3⟩ := draw_ok (n := 12) ho (by decide) (by decide)
    obtain ⟨a, b, cs, rfl⟩ := ho
    unfold C1e__law_many_right
    unfold poolO at *
    walk_at "evc"
    rw [h1]
    walk_at "evc"
    refine ⟨_, _, rfl, o', ys ++ [1 + r], rfl, by simp, ho', by simp [hl], fun x hx => ?_⟩
    rcases List.mem_append.mp hx with hx | hx
    · exact hb x hx
    · rw [List.mem_singleton.mp hx]; omega)
  rw [rgN_len] at hl
  exact ⟨ys, o', h, ho', hl, hb⟩
theorem szs_b {o x1 x3 : Option Od} (ho : IsPool o) : ∃ (ps : List Int) (o' : Option Od), lcD [2] (tgn 2) (mr true) C2e__law_many_right (rgN 0 3) [] [o, x1, none, x3, none] = some (ps.map .int, [o', x1, none, x3, none]) ∧ IsPool o' ∧ ps.length = 3 ∧ ∀ x ∈ ps, 1 ≤ x ∧ x ≤ 10 := by
  obtain ⟨out, e', h, o', ys, rfl, rfl, ho', hl, hb⟩ := lcD_inv (vs := [2]) (tg := tgn 2) (ft := mr true) (fe := C2e__law_many_right)
    (fun i acc e => ∃ (o : Option Od) (ys : List Int), e = [o, x1, none, x3, none] ∧ acc = ys.map D.int ∧ IsPool o ∧ ys.length = i ∧ ∀ x ∈ ys, 1 ≤ x ∧ x ≤ 10)
    (ds := rgN 0 3) (e := [o, x1, none, x3, none]) ⟨o, [], rfl, rfl, ho, rfl, fun x hx => absurd hx List.not_mem_nil⟩ (by rw [rgN_len]; omega) (by
    rintro i d acc e hd ⟨o, ys, rfl, rfl, ho, hl, hb⟩
    obtain ⟨r, o', h1, ho', h2, h3⟩ := draw_ok (n := 10) ho (by decide) (by decide)
    obtain ⟨a, b, cs, rfl⟩ := ho
    unfold C2e__law_many_right
    unfold poolO at *
    walk_at "evc"
    rw [h1]
    walk_at "evc"
    refine ⟨_, _, rfl, o', ys ++ [1 + r], rfl, by simp, ho', by simp [hl], fun x hx => ?_⟩
    rcases List.mem_append.mp hx with hx | hx
    · exact hb x hx
    · rw [List.mem_singleton.mp hx]; omega)
  rw [rgN_len] at hl
  exact ⟨ys, o', h, ho', hl, hb⟩
theorem stN_le {b : Nat} : ∀ {t : List Int}, (∀ x ∈ t, x ≤ (b : Int)) → stN t ≤ (b + 1) ^ t.length
  | [], _ => Nat.le_refl _
  | x :: t, h => by
    have h1 := stN_le (t := t) fun y hy => h y (List.mem_cons_of_mem _ hy)
    have h2 := h x List.mem_cons_self
    show (x.toNat + 1) * stN t ≤ (b + 1) ^ (t.length + 1)
    rw [Nat.pow_succ, Nat.mul_comm ((b + 1) ^ t.length)]
    exact Nat.mul_le_mul (by omega) h1
theorem eqD_int {i : Int} : eqD (.int i) (.int i) = some (.bl true) := by
  show (if (SeqAt.shaped (.int i) && SeqAt.shaped (.int i)) = true then some (D.bl (i == i)) else none) = _
  rw [beq_self_eq_true]; rfl
theorem manyr_ok {o : Option Od} (ho : IsPool o) : ∃ o', fn__law_many_right [o] = some (.fd (.val (.bl true)), [o']) ∧ IsPool o' := by
  obtain ⟨r1, o1, d1, ho1, h11, h12⟩ := draw_ok (n := 6) ho (by decide) (by decide)
  obtain ⟨ns, o2, l1, ho2, hlen, hb⟩ := szs_a ho1 (n := (3 + r1).toNat) (by omega)
  obtain ⟨r2, o3, d2, ho3, h21, h22⟩ := draw_ok (n := 1000000000000000000000000000000) ho2 (by decide) (by decide)
  obtain ⟨fw, o4, l2, ho4, hflen, hfb⟩ := szs_b (x1 := vv (tupI ns)) (x3 := vv (.int (1 + r2))) ho3
  obtain ⟨hs1, hs2⟩ := sum_le_mul hb
  obtain ⟨hf1, hf2⟩ := sum_le_mul hfb
  have hS : Sz ns := ⟨by omega, by omega, fun x hx => by have := hb x hx; omega⟩
  have hF : Sz fw := ⟨by omega, by omega, fun x hx => by have := hfb x hx; omega⟩
  have m1 : 1 ≤ 1 + r2 := by omega
  have m2 : 1 + r2 ≤ 1000000000000000000000000000000 := by omega
  obtain ⟨q1, s1⟩ := said_v hS (by omega) m1 m2
  obtain ⟨q2, s2⟩ := signs_v hS (by omega)
  obtain ⟨q3, s3⟩ := said_v hF (by omega) m1 m2
  obtain ⟨q4, s4⟩ := families_ok hF
  have s4x : noX fn_families [vv (tupI fw)] = some (kO fw fw (oth fw.length), q4) := by
    rw [DL.noX_k, s4]; rfl
  have hst : stN fw ≤ 5000 := by
    have h1 := stN_le (b := 10) fun x hx => (hfb x hx).2
    rw [hflen] at h1
    omega
  obtain ⟨q5, s5⟩ := kmany_v hF m1 m2 (by omega) hst
  have s5x := DL.noX_v s5
  have fm : ∀ x : Int, x.fmod (1 + r2) = x % (1 + r2) := fun x => Int.fmod_eq_emod_of_nonneg _ (by omega)
  have hpow : (10 : Int) ^ 30 = 1000000000000000000000000000000 := by decide +kernel
  have hz : 0 < 1 + r2 := by omega
  generalize tS (ns.map Int.toNat) 0 = T at *
  generalize tS (fw.map Int.toNat) 0 % (1 + r2) = T2 at *
  generalize oth fw.length = al at *
  simp -implicitDefEqProofs only [kO, kD, tupI, rowsD] at s1 s2 s3 s4x s5x
  have hnl : ns.length ≤ 8 := by omega
  refine ⟨o4, ?_, ho4⟩
  obtain ⟨a0, b0, c0, rfl⟩ := ho
  obtain ⟨a1, b1, c1, rfl⟩ := ho1
  obtain ⟨a2, b2, c2, rfl⟩ := ho2
  obtain ⟨a3, b3, c3, rfl⟩ := ho3
  obtain ⟨a4, b4, c4, rfl⟩ := ho4
  clear hb hfb hS hF hst
  unfold fn__law_many_right s__law_many_right
  unfold poolO at *
  walk_at "evc"
  rw [d1]
  walk_at "evc"
  rw [l1]
  walk_at "evc"
  rw [hpow, d2]
  walk_at "evc"
  rw [s1]
  walk_at "evc"
  rw [s2]
  walk_at "evc"
  rw [fm]
  walk_at "evc"
  rw [l2]
  walk_at "evc"
  rw [s4x]
  walk_at "evc"
  rw [s5x]
  walk_at "evc"
  rw [s3]
  walk_at "evc"

def restG : G :=
    (gif (tst (m2 ltD (fz (mcb (fun ds => (sumB ds).map fun d => .fd (.val d)) (acons (rd 3) anil))) (pu (pc (.int 7))))) (gseq (gst 5 (ov (m1 tupB (fz (mlc 12 [4] (itR1 (pu (plen (px 3)))) (tgn 4) (mr true) C3e_law)))))
    (gseq (gst 7 (ov (m1 (fun d => lenF (.val d)) (fz (mcl fn__law_all 1 (acons (fz (mcl fn__law_kind_rows 3 (acons (rd 3) (acons (rd 3) (acons (rd 5) anil))))) anil))))))
    (gseq (gst 8 (ov (mix (fz (mlst (acons (pu (pc (.int 1))) (acons (pu (pc (.int 2))) (acons (pu (p2 powD (pc (.int 10)) (pc (.int 30)))) (acons (m2 addD (pu (pc (.int 1))) (fz (mcb1 1 fn__law_draw 2 (acons (pu (pc (.int 1000))) anil)))) anil)))))) (fz (mcb1 1 fn__law_draw 2 (acons (pu (pc (.int 4))) anil))))))
    (gseq (gst 9 (mcl fn__law_said 2 (acons (rd 3) (acons (rd 8) anil))))
    (gif (mor (tst (m2 (neA eqCl eqNf fn_Kinds___eq__) (rd 9) (pu (p2 modD (p1 int1D (pd 7)) (pd 8))))) (tst (m1 (isiB "bool" tabT) (rd 9)))) (gret (ov (pu (pc (.bl false))))) gnx))))) gnx)
def tlE : G :=
    (gseq (gst 10 (ov (mix (fz (mlst (acons (pu (pc (.int 0))) (acons (pu (p1 negD (pc (.int 1)))) (acons (pu (p2 addI (p2 powD (pc (.int 10)) (pc (.int 30))) (pc (.int 1)))) (acons (pu (pc .non)) (acons (pu (pc (.bl true))) (acons (pu (pc (.str "7"))) (acons (mtup (acons (pu (pc (.int 7))) anil)) (acons (fz (mcl fn__law_deep 0 anil)) anil)))))))))) (fz (mcb1 1 fn__law_draw 2 (acons (pu (pc (.int 8))) anil))))))
    (gseq (gst 11 (ov (mix (fz (mlst (acons (pu (pc .non)) (acons (mtup anil) (acons (fz (mlst (acons (pu (pc (.int 1))) (acons (pu (pc (.int 1))) anil)))) (acons (mtup (acons (pu (pc (.int 0))) (acons (pu (pc (.int 1))) anil))) (acons (mtup (acons (pu (pc (.bl true))) (acons (pu (pc (.int 1))) anil))) (acons (m2 mulT (mtup (acons (pu (pc (.int 1))) anil)) (pu (pc (.int 9)))) (acons (pu (pc (.int 0))) (acons (pu (pc (.str "11"))) (acons (fz (mcl fn__law_deep 0 anil)) anil))))))))))) (fz (mcb1 1 fn__law_draw 2 (acons (pu (pc (.int 9))) anil))))))
    (gseq (gif (mor (tst (m2 (neA eqCl eqNf fn_Kinds___eq__) (fz (mcl fn__law_said 2 (acons (rd 11) (acons (rd 10) anil)))) (pu (pc (.str "sizes"))))) (tst (m2 (neA eqCl eqNf fn_Kinds___eq__) (fz (mcl fn__law_said 2 (acons (mtup (acons (pu (pc (.int 300))) (acons (pu (pc (.int 200))) anil))) (acons (rd 10) anil)))) (pu (pc (.str "number")))))) (gret (ov (pu (pc (.bl false))))) gnx)
    (gret (ov (vand (m2 (eqA eqCl eqNf fn_Kinds___eq__) (fz (mcl fn__law_said 2 (acons (mtup (acons (pu (pc (.int 201))) (acons (pu (pc (.int 200))) anil))) (acons (pu (pc (.int 7))) anil)))) (mtup (acons (pu (pc (.str "many"))) (acons (pu (pc (.int 400))) anil)))) (m2 (eqA eqCl eqNf fn_Kinds___eq__) (fz (mcl fn__law_said 2 (acons (mtup (acons (pu (pc (.int 5))) anil)) (acons (pu (pc (.int 7))) anil)))) (pu (pc (.int 0))))))))))
def tlC : G :=
    (gseq (gfor (itR1 (pu (pc (.int 3)))) (tgn 2) L1_law)
    (gseq (gif (mand (tst (m2 (eqA eqCl eqNf fn_Kinds___eq__) (fz (mcb1 1 fn__law_draw 2 (acons (pu (pc (.int 4))) anil))) (pu (pc (.int 0))))) (mnot (tst (fz (mcb1 1 fn__law_half_right 2 (acons (m2 addD (pu (pc (.int 1))) (fz (mcb1 1 fn__law_draw 2 (acons (pu (p2 powD (pc (.int 10)) (pc (.int 30)))) anil)))) anil)))))) (gret (ov (pu (pc (.bl false))))) gnx)
    tlE))
theorem mulT_one {a : D} {n : Nat} (h1 : 1 ≤ n) (h2 : n ≤ 1000) : mulT (.tup [a]) (.int (n : Nat)) = some (.tup (List.replicate n a)) := by
  show (if ([a] : List D) ≠ [] ∧ (1 : Int) ≤ (n : Nat) ∧ ((n : Nat) : Int) ≤ 1000 ∧ ([a] : List D).length ≤ 1000 then some (D.tup (List.replicate ((n : Nat) : Int).toNat [a]).flatten) else none) = _
  rw [if_pos ⟨(fun z => nomatch z), by omega, by omega, by simp⟩, Int.toNat_natCast]
  congr 2
  clear h1 h2
  induction n with
  | zero => rfl
  | succ n ih => rw [List.replicate_succ, List.flatten_cons, ih, List.replicate_succ]; rfl
theorem kRows_len {p t : List Int} {al : List (List Int)} : (kRows p t al).length = (spr p 0).length := by
  unfold kRows; rw [List.length_map]
theorem kRows_rows {P T : Nat} {p t : List Int} {al : List (List Int)} (h : Kn P T p t al) : Rows (kRows p t al) := ⟨fun r hr => by
  have e : (spr p 0).length = (spr t 0).length := by
    have e1 := spr_len (l := p) (k := 0) fun x hx => (h.pb x hx).1
    have e2 := spr_len (l := t) (k := 0) fun x hx => (h.tb x hx).1
    have := h.sum
    omega
  rw [kRows_len, e]
  unfold kRows at hr
  obtain ⟨k, -, rfl⟩ := List.mem_map.mp hr
  have hlt : (rgL 0 ((spr t 0).length : Int)).Pairwise (· < ·) := by
    unfold rgL
    exact List.pairwise_map.mpr (List.pairwise_lt_range.imp fun h => by omega)
  exact ⟨hlt.filter _, fun x hx => rgL_mem0.mp (List.mem_filter.mp hx).1⟩⟩
theorem due_ok {P T : Nat} {p t : List Int} {al : List (List Int)} (h : Kn P T p t al) (hs : p.sum ≤ 6) : ∃ (L : List (List Int)) (r : DL.Env), fn__law_all [vv (rowsD (kRows p t al))] = some (.fd (.lst (L.map tupI)), r) ∧ (L.length : Int) = wy al (spr p 0) t := by
  have hp0 : ∀ x ∈ p, 0 ≤ x := fun x hx => (h.pb x hx).1
  have hR := kRows_rows h
  have hl : (kRows p t al).length ≤ 6 := by
    have := spr_len (k := 0) hp0
    rw [kRows_len]; omega
  obtain ⟨r, ha⟩ := all_ok (rs := kRows p t al) (.inl hR) (fun r hr => by have := (hR.row r hr).len; omega) (by omega) (cap_rows hR (by omega))
  exact ⟨_, r, ha, by rw [srtZ_len]; exact dls_kinds h⟩

theorem deep_ok : ∃ r, fn__law_deep [] = some (.fd (.val (deepD 35)), r) := ⟨_, rfl⟩

theorem szs_c {x0 o x2 x3 x5 x7 x8 x9 x10 x11 : Option Od} (ho : IsPool o) {n : Nat} (hn : n ≤ 3) : ∃ (ps : List Int) (o' : Option Od), lcD [4] (tgn 4) (mr true) C1e_law (rgN 0 n) [] [x0, o, x2, x3, none, x5, none, x7, x8, x9, x10, x11] = some (ps.map .int, [x0, o', x2, x3, none, x5, none, x7, x8, x9, x10, x11]) ∧ IsPool o' ∧ ps.length = n ∧ ∀ x ∈ ps, 1 ≤ x ∧ x ≤ 3 := by
  obtain ⟨out, e', h, o', ys, rfl, rfl, ho', hl, hb⟩ := lcD_inv (vs := [4]) (tg := tgn 4) (ft := mr true) (fe := C1e_law)
    (fun i acc e => ∃ (o : Option Od) (ys : List Int), e = [x0, o, x2, x3, none, x5, none, x7, x8, x9, x10, x11] ∧ acc = ys.map D.int ∧ IsPool o ∧ ys.length = i ∧ ∀ x ∈ ys, 1 ≤ x ∧ x ≤ 3)
    (ds := rgN 0 n) (e := [x0, o, x2, x3, none, x5, none, x7, x8, x9, x10, x11]) ⟨o, [], rfl, rfl, ho, rfl, fun x hx => absurd hx List.not_mem_nil⟩ (by rw [rgN_len]; omega) (by
    rintro i d acc e hd ⟨o, ys, rfl, rfl, ho, hl, hb⟩
    obtain ⟨r, o', h1, ho', h2, h3⟩ := draw_ok (n := 3) ho (by decide) (by decide)
    obtain ⟨a, b, cs, rfl⟩ := ho
    unfold C1e_law
    unfold poolO at *
    walk_at "evc"
    rw [h1]
    walk_at "evc"
    refine ⟨_, _, rfl, o', ys ++ [1 + r], rfl, by simp, ho', by simp [hl], fun x hx => ?_⟩
    rcases List.mem_append.mp hx with hx | hx
    · exact hb x hx
    · rw [List.mem_singleton.mp hx]; omega)
  rw [rgN_len] at hl
  exact ⟨ys, o', h, ho', hl, hb⟩
theorem allow_ok {x0 x1 x2 x5 x7 x8 x9 x10 x11 : Option Od} {ns : List Int} (h8 : ns.length ≤ 8) :
    lcD [4] (tgn 4) (mr true) C3e_law (rgN 0 ns.length) [] [x0, x1, x2, vv (tupI ns), none, x5, none, x7, x8, x9, x10, x11] = some ((oth ns.length).map tupI, [x0, x1, x2, vv (tupI ns), none, x5, none, x7, x8, x9, x10, x11]) := by
  have hin : ∀ k : Int, lcD [6] (tgn 6) C2t_law C2e_law (rgN 0 ns.length) [] [x0, x1, x2, vv (tupI ns), vv (.int k), x5, none, x7, x8, x9, x10, x11] = some (((rgL 0 ns.length).filter fun x => !decide (x = k)).map .int, [x0, x1, x2, vv (tupI ns), vv (.int k), x5, none, x7, x8, x9, x10, x11]) := fun k => by
    rw [rgN_rgL]
    exact lcD_filt (vs := [6]) (tg := tgn 6) (ft := C2t_law) (fe := C2e_law) (enc := D.int) (xs := rgL 0 ns.length) (p := fun x => !decide (x = k)) (f := D.int) (by rw [rgL_len]; omega) (fun x hx => by
      unfold C2t_law C2e_law
      by_cases c : x = k
      · walk_at "evc"
      · walk_at "evc")
  have e1 : rgN 0 ns.length = (rgL 0 ns.length).map .int := rgN_rgL _
  unfold oth
  rw [List.map_map]
  have hout := lcD_mapS (vs := [4]) (tg := tgn 4) (ft := mr true) (fe := C3e_law) (e := [x0, x1, x2, vv (tupI ns), none, x5, none, x7, x8, x9, x10, x11]) (enc := D.int) (xs := rgL 0 ns.length) (f := fun k => tupI ((rgL 0 ns.length).filter fun x => !decide (x = k))) (by rw [rgL_len]; omega) (fun x hx => by
      have hl := List.length_filter_le (fun y : Int => !decide (y = x)) (rgL 0 ns.length)
      rw [rgL_len] at hl
      have hi := hin x
      generalize ((rgL 0 ns.length).filter fun y => !decide (y = x)) = FF at *
      unfold C3e_law
      walk_at "evc"
      rw [hi]
      walk_at "evc")
  rw [e1]
  exact hout
theorem rest_ok {x0 o x2 x5 x7 x8 x9 : Option Od} {ns : List Int} (ho : IsPool o) (hS : Sz ns) : ∃ o' y5 y7 y8 y9, restG [x0, o, x2, vv (tupI ns), none, x5, none, x7, x8, x9, none, none] = some (.nx, [x0, o', x2, vv (tupI ns), none, y5, none, y7, y8, y9, none, none]) ∧ IsPool o' := by
  by_cases hs : ns.sum < 7
  · obtain ⟨r4, o4, d4, ho4, h41, h42⟩ := draw_ok (n := 1000) ho (by decide) (by decide)
    obtain ⟨r5, o5, d5, ho5, h51, h52⟩ := draw_ok (n := 4) ho4 (by decide) (by decide)
    obtain ⟨m, hm, m1, m2⟩ : ∃ m : Int, [D.int 1, .int 2, .int 1000000000000000000000000000000, .int (1 + r4)][r5.toNat]? = some (.int m) ∧ 1 ≤ m ∧ m ≤ 1000000000000000000000000000000 := by
      have : r5 = 0 ∨ r5 = 1 ∨ r5 = 2 ∨ r5 = 3 := by omega
      rcases this with rfl | rfl | rfl | rfl
      · exact ⟨1, rfl, by decide, by decide⟩
      · exact ⟨2, rfl, by decide, by decide⟩
      · exact ⟨_, rfl, by decide, by decide⟩
      · exact ⟨1 + r4, rfl, by omega, by omega⟩
    have hK := hS.kn
    obtain ⟨q1, hr⟩ := krows_ok hK (by omega)
    obtain ⟨L, q2, ha, hL⟩ := due_ok hK (by omega)
    rw [wy_fam hS.nn] at hL
    obtain ⟨q4, hsd⟩ := said_v hS (by omega) m1 m2
    rw [← hL] at hsd
    have hp : (10 : Int) ^ 30 = 1000000000000000000000000000000 := by decide +kernel
    have fm : ∀ x : Int, x.fmod m = x % m := fun x => Int.fmod_eq_emod_of_nonneg _ (by omega)
    have h8 := hS.h8
    have hol := oth_len ns.length
    have hal := allow_ok (x0 := x0) (x1 := o4) (x2 := x2) (x5 := x5) (x7 := x7) (x8 := x8) (x9 := x9) (x10 := none) (x11 := none) (ns := ns) h8
    have hal0 := allow_ok (x0 := x0) (x1 := o) (x2 := x2) (x5 := x5) (x7 := x7) (x8 := x8) (x9 := x9) (x10 := none) (x11 := none) (ns := ns) h8
    obtain ⟨a, b, c, rfl⟩ := ho
    obtain ⟨a4, b4, c4, rfl⟩ := ho4
    obtain ⟨a5, b5, c5, rfl⟩ := ho5
    clear hK hL hS
    generalize oth ns.length = al at *
    unfold restG
    unfold poolO at *
    walk_at "evc"
    rw [DL.sumB_t]
    walk_at "evc"
    rw [hal0]
    walk_at "evc"
    rw [hr]
    walk_at "evc"
    rw [ha]
    walk_at "evc"
    rw [hp, d4]
    walk_at "evc"
    rw [d5]
    walk_at "evc"
    rw [hm]
    walk_at "evc"
    rw [hsd]
    walk_at "evc"
    rw [fm]
    walk_at "evc"
    exact ⟨_, _, _, _, _, rfl, a5, b5, c5, rfl⟩
  · have h8 := hS.h8
    unfold restG
    walk_at "evc"
    rw [DL.sumB_t]
    walk_at "evc"
    exact ⟨_, _, _, _, _, rfl, ho⟩
theorem law_turn {x0 o x2 x3 x5 x7 x8 x9 : Option Od} (ho : IsPool o) : ∃ o' y3 y5 y7 y8 y9, L1_law [x0, o, x2, x3, none, x5, none, x7, x8, x9, none, none] = some (.nx, [x0, o', x2, y3, none, y5, none, y7, y8, y9, none, none]) ∧ IsPool o' := by
  obtain ⟨r1, o1, d1, ho1, h11, h12⟩ := draw_ok (n := 3) ho (by decide) (by decide)
  obtain ⟨ns, o2, l1, ho2, hlen, hb⟩ := szs_c (x0 := x0) (x2 := x2) (x3 := x3) (x5 := x5) (x7 := x7) (x8 := x8) (x9 := x9) (x10 := none) (x11 := none) ho1 (n := (1 + r1).toNat) (by omega)
  obtain ⟨r2, o3, d2, ho3, h21, h22⟩ := draw_ok (n := 3) ho2 (by decide) (by decide)
  have hS : Sz ns := ⟨by omega, by omega, fun x hx => by have := hb x hx; omega⟩
  have hnl : ns.length ≤ 8 := by omega
  by_cases c : r2 = 0
  · subst c
    obtain ⟨r3, o4, d3, ho4, h31, h32⟩ := draw_ok (n := 6) ho3 (by decide) (by decide)
    have hmt := mulT_one (a := .int 1) (n := (1 + r3).toNat) (by omega) (by omega)
    rw [show (((1 + r3).toNat : Nat) : Int) = 1 + r3 by omega] at hmt
    have hre : D.tup (List.replicate (1 + r3).toNat (.int 1)) = tupI (List.replicate (1 + r3).toNat 1) := by unfold tupI; rw [List.map_replicate]
    rw [hre] at hmt
    have hS2 : Sz (List.replicate (1 + r3).toNat 1) := ⟨by rw [List.length_replicate]; omega, by rw [List.length_replicate]; omega, fun x hx => by rw [(List.mem_replicate.mp hx).2]; exact ⟨by decide, by decide⟩⟩
    generalize List.replicate (1 + r3).toNat (1 : Int) = ns2 at *
    obtain ⟨o', y5, y7, y8, y9, hr, ho'⟩ := rest_ok (x0 := x0) (x2 := x2) (x5 := x5) (x7 := x7) (x8 := x8) (x9 := x9) ho4 hS2
    clear hre hS hS2 hb
    have hu : L1_law = gseq _ (gseq _ restG) := rfl
    rw [hu]
    generalize restG = RG at *
    obtain ⟨a, b, c, rfl⟩ := ho
    obtain ⟨a1, b1, c1, rfl⟩ := ho1
    obtain ⟨a2, b2, c2, rfl⟩ := ho2
    obtain ⟨a3, b3, c3, rfl⟩ := ho3
    obtain ⟨a4, b4, c4, rfl⟩ := ho4
    unfold poolO at *
    walk_at "evc"
    rw [d1]
    walk_at "evc"
    rw [l1]
    walk_at "evc"
    rw [d2]
    walk_at "evc"
    rw [d3]
    walk_at "evc"
    rw [hmt]
    walk_at "evc"
    rw [hr]
    exact ⟨_, _, _, _, _, _, rfl, ho'⟩
  · obtain ⟨o', y5, y7, y8, y9, hr, ho'⟩ := rest_ok (x0 := x0) (x2 := x2) (x5 := x5) (x7 := x7) (x8 := x8) (x9 := x9) ho3 hS
    clear hS hb
    have hu : L1_law = gseq _ (gseq _ restG) := rfl
    rw [hu]
    generalize restG = RG at *
    obtain ⟨a, b, c, rfl⟩ := ho
    obtain ⟨a1, b1, c1, rfl⟩ := ho1
    obtain ⟨a2, b2, c2, rfl⟩ := ho2
    obtain ⟨a3, b3, c3, rfl⟩ := ho3
    unfold poolO at *
    walk_at "evc"
    rw [d1]
    walk_at "evc"
    rw [l1]
    walk_at "evc"
    rw [d2]
    walk_at "evc"
    rw [hr]
    exact ⟨_, _, _, _, _, _, rfl, ho'⟩

theorem eqD_refl {d : D} {p : PyData} (h : toP d = some p) (hc : p.canLay0 = true) (hd : p.depth ≤ 64) : eqD d d = some (.bl true) := by
  unfold eqD
  rw [h]
  dsimp only
  have hs : SeqAt.shaped p = true := by
    unfold SeqAt.shaped
    rw [hc, decide_eq_true hd]; rfl
  rw [hs, PySem.SeqAt.eqv_refl p hc]; rfl
theorem eqD_many (n : Int) : eqD (.tup [.str "many", .int n]) (.tup [.str "many", .int n]) = some (.bl true) := by
  refine eqD_refl (p := .tuple [.str "many", .int n]) ?_ ?_ ?_
  · unfold toP toPs toPs toPs; rfl
  · simp only [PyData.canLay0, PyData.canLayAll0]; decide +kernel
  · simp only [PyData.depth, PyData.depthAll]; decide
theorem sz_300 : Sz [300, 200] := ⟨by decide, by decide, by decide⟩
theorem sz_201 : Sz [201, 200] := ⟨by decide, by decide, by decide⟩
theorem sz_5 : Sz [5] := ⟨by decide, by decide, by decide⟩
theorem tlE_ok {x0 o x2 x3 x5 x7 x8 x9 : Option Od} (ho : IsPool o) : ∃ e, tlE [x0, o, x2, x3, none, x5, none, x7, x8, x9, none, none] = some (.rt (.fd (.val (.bl true))), e) := by
  obtain ⟨r3, o3, d3, ho3, a31, a32⟩ := draw_ok (n := 8) ho (by decide) (by decide)
  obtain ⟨r4, o4, d4, ho4, a41, a42⟩ := draw_ok (n := 9) ho3 (by decide) (by decide)
  obtain ⟨od, hod, hom⟩ : ∃ od, (badM ++ [deepD 35])[r3.toNat]? = some od ∧ od ∈ deepD 35 :: badM := by
    have hl : (badM ++ [deepD 35]).length = 8 := rfl
    refine ⟨(badM ++ [deepD 35])[r3.toNat]'(by omega), List.getElem?_eq_getElem _, ?_⟩
    have hm := List.getElem_mem (l := badM ++ [deepD 35]) (n := r3.toNat) (by omega)
    rcases List.mem_append.mp hm with hm | hm
    · exact List.mem_cons_of_mem _ hm
    · rw [List.mem_singleton.mp hm]; exact List.mem_cons_self
  obtain ⟨wr, hwr, hwm⟩ : ∃ wr, oddS[r4.toNat]? = some wr ∧ wr ∈ oddS := by
    have hl : oddS.length = 9 := rfl
    exact ⟨oddS[r4.toNat]'(by omega), List.getElem?_eq_getElem _, List.getElem_mem _⟩
  obtain ⟨q1, s1⟩ := said_x1 (x := od) hwm
  obtain ⟨q2, s2⟩ := said_x2 sz_300 hom
  obtain ⟨q3, s3⟩ := said_x3 (m := 7) sz_201 (by decide) (by decide) (by decide)
  obtain ⟨q4, s4⟩ := said_v (m := 7) sz_5 (by decide) (by decide) (by decide)
  rw [show tS ([(5 : Int)].map Int.toNat) 0 % 7 = 0 by decide +kernel] at s4
  obtain ⟨q7, g7⟩ := deep_ok
  have hbad : badM ++ [deepD 35] = [.int 0, .int (-1), .int 1000000000000000000000000000001, .non, .bl true, .str "7", .tup [.int 7], deepD 35] := rfl
  have hodd : oddS = [.non, .tup [], .lst [.int 1, .int 1], .tup [.int 0, .int 1], .tup [.bl true, .int 1], .tup [.int 1, .int 1, .int 1, .int 1, .int 1, .int 1, .int 1, .int 1, .int 1], .int 0, .str "11", deepD 35] := rfl
  rw [hbad] at hod
  rw [hodd] at hwr
  clear hbad hodd hwm hom
  generalize deepD 35 = DP at *
  have hmul : mulT (.tup [.int 1]) (.int 9) = some (.tup [.int 1, .int 1, .int 1, .int 1, .int 1, .int 1, .int 1, .int 1, .int 1]) := rfl
  have hp30 : (10 : Int) ^ 30 = 1000000000000000000000000000000 := by decide +kernel
  have n1 : neD (.str "sizes") (.str "sizes") = some (.bl false) := DL.neD_str (by decide +kernel)
  have n2 : neD (.str "number") (.str "number") = some (.bl false) := DL.neD_str (by decide +kernel)
  obtain ⟨u2, v2, cs2, rfl⟩ := ho
  obtain ⟨u3, v3, cs3, rfl⟩ := ho3
  obtain ⟨u4, v4, cs4, rfl⟩ := ho4
  unfold tlE
  unfold poolO at *
  walk_at "evc"
  rw [hp30, g7]
  walk_at "evc"
  rw [d3]
  walk_at "evc"
  rw [show (1000000000000000000000000000000 : Int) + 1 = 1000000000000000000000000000001 from by decide, hod]
  walk_at "evc"
  rw [hmul]
  walk_at "evc"
  rw [g7]
  walk_at "evc"
  rw [d4]
  walk_at "evc"
  rw [hwr]
  walk_at "evc"
  rw [s1]
  walk_at "evc"
  rw [n1]
  walk_at "evc"
  rw [show D.tup [D.int 300, D.int 200] = tupI [300, 200] from rfl, s2]
  walk_at "evc"
  rw [n2]
  walk_at "evc"
  rw [show D.tup [D.int 201, D.int 200] = tupI [201, 200] from rfl, s3]
  walk_at "evc"
  rw [eqD_many]
  walk_at "evc"
  rw [show D.tup [D.int 5] = tupI [5] from rfl, s4]
  walk_at "evc"
  exact ⟨_, rfl⟩
theorem tlC_ok {ns : List Int} {o : Option Od} (ho : IsPool o) : ∃ e, tlC [vv (.scr ns), o, none, none, none, none, none, none, none, none, none, none] = some (.rt (.fd (.val (.bl true))), e) := by
  obtain ⟨e', h, o2, x2, x3, x5, x7, x8, x9, rfl, ho2⟩ := forD_go (tg := tgn 2) (body := L1_law)
    (fun i e => ∃ o x2 x3 x5 x7 x8 x9, e = [vv (.scr ns), o, x2, x3, none, x5, none, x7, x8, x9, none, none] ∧ IsPool o)
    (ds := rgN 0 3) (e := [vv (.scr ns), o, none, none, none, none, none, none, none, none, none, none]) ⟨_, _, _, _, _, _, _, rfl, ho⟩ (by
    rintro i q e hq ⟨o, x2, x3, x5, x7, x8, x9, rfl, ho⟩
    obtain ⟨hi, rfl⟩ := rgN_at0 hq
    obtain ⟨o', y3, y5, y7, y8, y9, h, ho'⟩ := law_turn (x0 := vv (.scr ns)) (x2 := vv (.int (i : Nat))) (x3 := x3) (x5 := x5) (x7 := x7) (x8 := x8) (x9 := x9) ho
    walk_at "evc"
    rw [h]
    exact ⟨_, rfl, _, _, _, _, _, _, _, rfl, ho'⟩)
  obtain ⟨r3, o3, d3, ho3, a31, a32⟩ := draw_ok (n := 4) ho2 (by decide) (by decide)
  have hp30 : (10 : Int) ^ 30 = 1000000000000000000000000000000 := by decide +kernel
  by_cases c : r3 = 0
  · subst c
    obtain ⟨r4, o4, d4, ho4, a41, a42⟩ := draw_ok (n := 1000000000000000000000000000000) ho3 (by decide) (by decide)
    obtain ⟨o5, g5, ho5⟩ := half_ok (m := 1 + r4) ho4 (by omega) (by omega)
    obtain ⟨e, he⟩ := tlE_ok (x0 := vv (.scr ns)) (x2 := x2) (x3 := x3) (x5 := x5) (x7 := x7) (x8 := x8) (x9 := x9) ho5
    unfold tlC
    generalize tlE = TE at *
    obtain ⟨u, v, cs, rfl⟩ := ho
    obtain ⟨u2, v2, cs2, rfl⟩ := ho2
    obtain ⟨u3, v3, cs3, rfl⟩ := ho3
    obtain ⟨u4, v4, cs4, rfl⟩ := ho4
    obtain ⟨u5, v5, cs5, rfl⟩ := ho5
    unfold poolO at *
    walk_at "evc"
    rw [h]
    walk_at "evc"
    rw [d3]
    walk_at "evc"
    rw [hp30, d4]
    walk_at "evc"
    rw [g5]
    walk_at "evc"
    rw [he]
    exact ⟨_, rfl⟩
  · obtain ⟨e, he⟩ := tlE_ok (x0 := vv (.scr ns)) (x2 := x2) (x3 := x3) (x5 := x5) (x7 := x7) (x8 := x8) (x9 := x9) ho3
    unfold tlC
    generalize tlE = TE at *
    obtain ⟨u, v, cs, rfl⟩ := ho
    obtain ⟨u2, v2, cs2, rfl⟩ := ho2
    obtain ⟨u3, v3, cs3, rfl⟩ := ho3
    unfold poolO at *
    walk_at "evc"
    rw [h]
    walk_at "evc"
    rw [d3]
    walk_at "evc"
    rw [he]
    exact ⟨_, rfl⟩
theorem law_true (ns : List Int) (hn : ns.length ≤ 63) : ∃ env, fn_law [some (.fd (.val (.scr ns)))] = some (.fd (.val (.bl true)), env) := by
  obtain ⟨o, x, hp, ho⟩ := pool_ok ns
  obtain ⟨r1, o1, d1, ho1, a11, a12⟩ := draw_ok (n := 6) ho (by decide) (by decide)
  have hu : s_law = gseq _ (gseq _ tlC) := rfl
  by_cases c : r1 = 0
  · subst c
    obtain ⟨o2, g2, ho2⟩ := manyr_ok ho1
    obtain ⟨e, he⟩ := tlC_ok (ns := ns) ho2
    unfold fn_law
    rw [hu]
    generalize tlC = TC at *
    obtain ⟨u, v, cs, eo⟩ := ho
    obtain ⟨u1, v1, cs1, rfl⟩ := ho1
    obtain ⟨u2, v2, cs2, rfl⟩ := ho2
    unfold poolO at *
    cases eo
    walk_at "evc"
    rw [hp]
    walk_at "evc"
    rw [d1]
    walk_at "evc"
    rw [g2]
    walk_at "evc"
    rw [he]
    walk_at "evc"
    exact ⟨_, rfl⟩
  · obtain ⟨e, he⟩ := tlC_ok (ns := ns) ho1
    unfold fn_law
    rw [hu]
    generalize tlC = TC at *
    obtain ⟨u, v, cs, eo⟩ := ho
    obtain ⟨u1, v1, cs1, rfl⟩ := ho1
    unfold poolO at *
    cases eo
    walk_at "evc"
    rw [hp]
    walk_at "evc"
    rw [d1]
    walk_at "evc"
    rw [he]
    walk_at "evc"
    exact ⟨_, rfl⟩

end
end k83
namespace k83
open PySem PySem.Spec PyProof.Rows L2 DL
/-! ### the text -/
def topS (i : Nat) : Stmt := PySem.Challenge.pw_fullorring_k83_whole_families_counted.main.body.getD i (.Pass ⟨0, 0, 0, 0⟩)
abbrev st_is_integer : Stmt := topS 7
abbrev N_is_integer : List Str := ["thing"]
theorem sc_is_integer : FnScope N_is_integer ["thing"] (defScope st_is_integer) := ⟨rfl, rfl, rfl, by decide +kernel, rfl, by decide +kernel, by decide +kernel⟩
abbrev st_is_within : Stmt := topS 8
abbrev N_is_within : List Str := ["thing", "least", "most"]
theorem sc_is_within : FnScope N_is_within ["thing", "least", "most"] (defScope st_is_within) := ⟨rfl, rfl, rfl, by decide +kernel, rfl, by decide +kernel, by decide +kernel⟩
abbrev st_are_ascending : Stmt := topS 9
abbrev N_are_ascending : List Str := ["things", "one", "other"]
theorem sc_are_ascending : FnScope N_are_ascending ["things"] (defScope st_are_ascending) := ⟨rfl, rfl, rfl, by decide +kernel, rfl, by decide +kernel, by decide +kernel⟩
abbrev st_is_lot_of : Stmt := topS 10
abbrev N_is_lot_of : List Str := ["thing", "many", "one"]
theorem sc_is_lot_of : FnScope N_is_lot_of ["thing", "many"] (defScope st_is_lot_of) := ⟨rfl, rfl, rfl, by decide +kernel, rfl, by decide +kernel, by decide +kernel⟩
abbrev st_check_number : Stmt := topS 11
abbrev N_check_number : List Str := ["thing", "least", "most"]
theorem sc_check_number : FnScope N_check_number ["thing", "least", "most"] (defScope st_check_number) := ⟨rfl, rfl, rfl, by decide +kernel, rfl, by decide +kernel, by decide +kernel⟩
abbrev st_check_many : Stmt := topS 12
abbrev N_check_many : List Str := ["number", "most"]
theorem sc_check_many : FnScope N_check_many ["number", "most"] (defScope st_check_many) := ⟨rfl, rfl, rfl, by decide +kernel, rfl, by decide +kernel, by decide +kernel⟩
abbrev st_are_counts : Stmt := topS 19
abbrev N_are_counts : List Str := ["thing", "least", "number"]
theorem sc_are_counts : FnScope N_are_counts ["thing", "least"] (defScope st_are_counts) := ⟨rfl, rfl, rfl, by decide +kernel, rfl, by decide +kernel, by decide +kernel⟩
abbrev st_Kinds___init__ : Stmt := inClass (topS 20) 0
abbrev N_Kinds___init__ : List Str := ["self", "people", "things", "allowed", "row"]
theorem sc_Kinds___init__ : FnScope N_Kinds___init__ ["self", "people", "things", "allowed"] (defScope st_Kinds___init__) := ⟨rfl, rfl, rfl, by decide +kernel, rfl, by decide +kernel, by decide +kernel⟩
abbrev st_Kinds___eq__ : Stmt := inClass (topS 20) 1
abbrev N_Kinds___eq__ : List Str := ["self", "other"]
theorem sc_Kinds___eq__ : FnScope N_Kinds___eq__ ["self", "other"] (defScope st_Kinds___eq__) := ⟨rfl, rfl, rfl, by decide +kernel, rfl, by decide +kernel, by decide +kernel⟩
abbrev st_spread_out : Stmt := topS 21
abbrev N_spread_out : List Str := ["numbers", "found", "kind", "many"]
theorem sc_spread_out : FnScope N_spread_out ["numbers"] (defScope st_spread_out) := ⟨rfl, rfl, rfl, by decide +kernel, rfl, by decide +kernel, by decide +kernel⟩
abbrev st_one_less : Stmt := topS 22
abbrev N_one_less : List Str := ["numbers", "place"]
theorem sc_one_less : FnScope N_one_less ["numbers", "place"] (defScope st_one_less) := ⟨rfl, rfl, rfl, by decide +kernel, rfl, by decide +kernel, by decide +kernel⟩
abbrev st_after_person : Stmt := topS 23
abbrev N_after_person : List Str := ["kinds", "kind", "counts", "modulus", "found", "left", "ways", "thing", "later"]
theorem sc_after_person : FnScope N_after_person ["kinds", "kind", "counts", "modulus"] (defScope st_after_person) := ⟨rfl, rfl, rfl, by decide +kernel, rfl, by decide +kernel, by decide +kernel⟩
abbrev st_kinds_many : Stmt := topS 24
abbrev N_kinds_many : List Str := ["kinds", "modulus", "states", "many", "counts", "kind"]
theorem sc_kinds_many : FnScope N_kinds_many ["kinds", "modulus"] (defScope st_kinds_many) := ⟨rfl, rfl, rfl, by decide +kernel, rfl, by decide +kernel, by decide +kernel⟩
abbrev st_check_sizes : Stmt := topS 25
abbrev N_check_sizes : List Str := ["sizes"]
theorem sc_check_sizes : FnScope N_check_sizes ["sizes"] (defScope st_check_sizes) := ⟨rfl, rfl, rfl, by decide +kernel, rfl, by decide +kernel, by decide +kernel⟩
abbrev st_families : Stmt := topS 26
abbrev N_families : List Str := ["sizes", "numbers", "other", "one"]
theorem sc_families : FnScope N_families ["sizes"] (defScope st_families) := ⟨rfl, rfl, rfl, by decide +kernel, rfl, by decide +kernel, by decide +kernel⟩
abbrev st_own_names : Stmt := topS 27
abbrev N_own_names : List Str := ["size", "found", "many"]
theorem sc_own_names : FnScope N_own_names ["size"] (defScope st_own_names) := ⟨rfl, rfl, rfl, by decide +kernel, rfl, by decide +kernel, by decide +kernel⟩
abbrev st_families_many : Stmt := topS 28
abbrev N_families_many : List Str := ["sizes", "modulus", "ways", "size", "own", "longer", "one", "number", "other", "more", "total", "orders", "left", "many"]
theorem sc_families_many : FnScope N_families_many ["sizes", "modulus"] (defScope st_families_many) := ⟨rfl, rfl, rfl, by decide +kernel, rfl, by decide +kernel, by decide +kernel⟩
abbrev st__law_pool : Stmt := topS 30
abbrev N__law_pool : List Str := ["_law_script", "_law_seed", "_law_cell"]
theorem sc__law_pool : FnScope N__law_pool ["_law_script"] (defScope st__law_pool) := ⟨rfl, rfl, rfl, by decide +kernel, rfl, by decide +kernel, by decide +kernel⟩
abbrev st__law_draw : Stmt := topS 31
abbrev N__law_draw : List Str := ["_law_pool_here", "_law_many", "_law_cells", "_law_digit", "_law_mixed_here"]
theorem sc__law_draw : FnScope N__law_draw ["_law_pool_here", "_law_many"] (defScope st__law_draw) := ⟨rfl, rfl, rfl, by decide +kernel, rfl, by decide +kernel, by decide +kernel⟩
abbrev st__law_mixed : Stmt := topS 32
abbrev N__law_mixed : List Str := ["_law_pool_here", "_law_things", "_law_left", "_law_k"]
theorem sc__law_mixed : FnScope N__law_mixed ["_law_pool_here", "_law_things"] (defScope st__law_mixed) := ⟨rfl, rfl, rfl, by decide +kernel, rfl, by decide +kernel, by decide +kernel⟩
abbrev st__law_all : Stmt := topS 33
abbrev N__law_all : List Str := ["_law_rows", "_law_found", "_law_row", "_law_longer", "_law_told", "_law_thing"]
theorem sc__law_all : FnScope N__law_all ["_law_rows"] (defScope st__law_all) := ⟨rfl, rfl, rfl, by decide +kernel, rfl, by decide +kernel, by decide +kernel⟩
abbrev st__law_deep : Stmt := topS 34
abbrev N__law_deep : List Str := ["_law_found", "_law_turn"]
theorem sc__law_deep : FnScope N__law_deep [] (defScope st__law_deep) := ⟨rfl, rfl, rfl, by decide +kernel, rfl, by decide +kernel, by decide +kernel⟩
abbrev st__law_wide : Stmt := topS 35
abbrev N__law_wide : List Str := ["_law_numbers", "_law_found", "_law_kind"]
theorem sc__law_wide : FnScope N__law_wide ["_law_numbers"] (defScope st__law_wide) := ⟨rfl, rfl, rfl, by decide +kernel, rfl, by decide +kernel, by decide +kernel⟩
abbrev st__law_kind_rows : Stmt := topS 36
abbrev N__law_kind_rows : List Str := ["_law_people", "_law_things", "_law_allowed", "_law_wide_here", "_law_k", "_law_kind"]
theorem sc__law_kind_rows : FnScope N__law_kind_rows ["_law_people", "_law_things", "_law_allowed"] (defScope st__law_kind_rows) := ⟨rfl, rfl, rfl, by decide +kernel, rfl, by decide +kernel, by decide +kernel⟩
abbrev st__law_orders : Stmt := topS 37
abbrev N__law_orders : List Str := ["_law_many", "_law_modulus", "_law_found", "_law_k"]
theorem sc__law_orders : FnScope N__law_orders ["_law_many", "_law_modulus"] (defScope st__law_orders) := ⟨rfl, rfl, rfl, by decide +kernel, rfl, by decide +kernel, by decide +kernel⟩
abbrev st__law_said : Stmt := topS 38
abbrev N__law_said : List Str := ["_law_sizes", "_law_modulus", "_law_told", "e"]
theorem sc__law_said : FnScope N__law_said ["_law_sizes", "_law_modulus"] (defScope st__law_said) := ⟨rfl, rfl, rfl, by decide +kernel, rfl, by decide +kernel, by decide +kernel⟩
abbrev st__law_half_right : Stmt := topS 39
abbrev N__law_half_right : List Str := ["_law_pool_here", "_law_modulus", "_law_parts", "_law_k", "_law_sizes", "_law_orders_here"]
theorem sc__law_half_right : FnScope N__law_half_right ["_law_pool_here", "_law_modulus"] (defScope st__law_half_right) := ⟨rfl, rfl, rfl, by decide +kernel, rfl, by decide +kernel, by decide +kernel⟩
abbrev st__law_by_signs : Stmt := topS 40
abbrev N__law_by_signs : List Str := ["_law_sizes", "_law_ways", "_law_size", "_law_own", "_law_k", "_law_longer", "_law_j", "_law_found", "_law_orders_here", "_law_left", "_law_many"]
theorem sc__law_by_signs : FnScope N__law_by_signs ["_law_sizes"] (defScope st__law_by_signs) := ⟨rfl, rfl, rfl, by decide +kernel, rfl, by decide +kernel, by decide +kernel⟩
abbrev st__law_many_right : Stmt := topS 41
abbrev N__law_many_right : List Str := ["_law_pool_here", "_law_sizes", "_law_k", "_law_modulus", "_law_few"]
theorem sc__law_many_right : FnScope N__law_many_right ["_law_pool_here"] (defScope st__law_many_right) := ⟨rfl, rfl, rfl, by decide +kernel, rfl, by decide +kernel, by decide +kernel⟩
abbrev st_law : Stmt := topS 42
abbrev N_law : List Str := ["_law_script", "_law_pool_here", "_law_again", "_law_sizes", "_law_k", "_law_allowed", "_law_other", "_law_due", "_law_modulus", "_law_told", "_law_odd", "_law_wrong"]
theorem sc_law : FnScope N_law ["_law_script"] (defScope st_law) := ⟨rfl, rfl, rfl, by decide +kernel, rfl, by decide +kernel, by decide +kernel⟩
abbrev st_TooMany___init__ : Stmt := inClass (topS 3) 0
/-! ### what the top has left -/
structure Tx (P : Program) (K : PySem.W.Frag) (mg : Str → Option Value) (fa : Nat → Addr) (fdt : Nat → FuncData) (cm : Cm) : Prop where
  F_is_integer : Fun K "is_integer" "is_integer" st_is_integer (fa 2) (fdt 2)
  b_is_integer : Binds K (fdt 2) ["thing"] []
  g_is_integer : mg "is_integer" = some (.ref (fa 2))
  F_is_within : Fun K "is_within" "is_within" st_is_within (fa 3) (fdt 3)
  b_is_within : Binds K (fdt 3) ["thing", "least", "most"] []
  g_is_within : mg "is_within" = some (.ref (fa 3))
  F_are_ascending : Fun K "are_ascending" "are_ascending" st_are_ascending (fa 4) (fdt 4)
  b_are_ascending : Binds K (fdt 4) ["things"] []
  g_are_ascending : mg "are_ascending" = some (.ref (fa 4))
  F_is_lot_of : Fun K "is_lot_of" "is_lot_of" st_is_lot_of (fa 5) (fdt 5)
  b_is_lot_of : Binds K (fdt 5) ["thing", "many"] []
  g_is_lot_of : mg "is_lot_of" = some (.ref (fa 5))
  F_check_number : Fun K "check_number" "check_number" st_check_number (fa 6) (fdt 6)
  b_check_number : Binds K (fdt 6) ["thing", "least", "most"] []
  g_check_number : mg "check_number" = some (.ref (fa 6))
  F_check_many : Fun K "check_many" "check_many" st_check_many (fa 7) (fdt 7)
  b_check_many : Binds K (fdt 7) ["number", "most"] []
  g_check_many : mg "check_many" = some (.ref (fa 7))
  F_are_counts : Fun K "are_counts" "are_counts" st_are_counts (fa 8) (fdt 8)
  b_are_counts : Binds K (fdt 8) ["thing", "least"] []
  g_are_counts : mg "are_counts" = some (.ref (fa 8))
  F_Kinds___init__ : Fun K "__init__" "Kinds.__init__" st_Kinds___init__ (fa 9) (fdt 9)
  b_Kinds___init__ : Binds K (fdt 9) ["self", "people", "things", "allowed"] []
  F_Kinds___eq__ : Fun K "__eq__" "Kinds.__eq__" st_Kinds___eq__ (fa 10) (fdt 10)
  b_Kinds___eq__ : Binds K (fdt 10) ["self", "other"] []
  F_spread_out : Fun K "spread_out" "spread_out" st_spread_out (fa 11) (fdt 11)
  b_spread_out : Binds K (fdt 11) ["numbers"] []
  g_spread_out : mg "spread_out" = some (.ref (fa 11))
  F_one_less : Fun K "one_less" "one_less" st_one_less (fa 12) (fdt 12)
  b_one_less : Binds K (fdt 12) ["numbers", "place"] []
  g_one_less : mg "one_less" = some (.ref (fa 12))
  F_after_person : Fun K "after_person" "after_person" st_after_person (fa 13) (fdt 13)
  b_after_person : Binds K (fdt 13) ["kinds", "kind", "counts", "modulus"] []
  g_after_person : mg "after_person" = some (.ref (fa 13))
  F_kinds_many : Fun K "kinds_many" "kinds_many" st_kinds_many (fa 14) (fdt 14)
  b_kinds_many : Binds K (fdt 14) ["kinds", "modulus"] []
  g_kinds_many : mg "kinds_many" = some (.ref (fa 14))
  F_check_sizes : Fun K "check_sizes" "check_sizes" st_check_sizes (fa 15) (fdt 15)
  b_check_sizes : Binds K (fdt 15) ["sizes"] []
  g_check_sizes : mg "check_sizes" = some (.ref (fa 15))
  F_families : Fun K "families" "families" st_families (fa 16) (fdt 16)
  b_families : Binds K (fdt 16) ["sizes"] []
  g_families : mg "families" = some (.ref (fa 16))
  F_own_names : Fun K "own_names" "own_names" st_own_names (fa 17) (fdt 17)
  b_own_names : Binds K (fdt 17) ["size"] []
  g_own_names : mg "own_names" = some (.ref (fa 17))
  F_families_many : Fun K "families_many" "families_many" st_families_many (fa 18) (fdt 18)
  b_families_many : Binds K (fdt 18) ["sizes", "modulus"] []
  g_families_many : mg "families_many" = some (.ref (fa 18))
  F__law_pool : Fun K "_law_pool" "_law_pool" st__law_pool (fa 19) (fdt 19)
  b__law_pool : Binds K (fdt 19) ["_law_script"] []
  g__law_pool : mg "_law_pool" = some (.ref (fa 19))
  F__law_draw : Fun K "_law_draw" "_law_draw" st__law_draw (fa 20) (fdt 20)
  b__law_draw : Binds K (fdt 20) ["_law_pool_here", "_law_many"] []
  g__law_draw : mg "_law_draw" = some (.ref (fa 20))
  F__law_mixed : Fun K "_law_mixed" "_law_mixed" st__law_mixed (fa 21) (fdt 21)
  b__law_mixed : Binds K (fdt 21) ["_law_pool_here", "_law_things"] []
  g__law_mixed : mg "_law_mixed" = some (.ref (fa 21))
  F__law_all : Fun K "_law_all" "_law_all" st__law_all (fa 22) (fdt 22)
  b__law_all : Binds K (fdt 22) ["_law_rows"] []
  g__law_all : mg "_law_all" = some (.ref (fa 22))
  F__law_deep : Fun K "_law_deep" "_law_deep" st__law_deep (fa 23) (fdt 23)
  b__law_deep : Binds K (fdt 23) [] []
  g__law_deep : mg "_law_deep" = some (.ref (fa 23))
  F__law_wide : Fun K "_law_wide" "_law_wide" st__law_wide (fa 24) (fdt 24)
  b__law_wide : Binds K (fdt 24) ["_law_numbers"] []
  g__law_wide : mg "_law_wide" = some (.ref (fa 24))
  F__law_kind_rows : Fun K "_law_kind_rows" "_law_kind_rows" st__law_kind_rows (fa 25) (fdt 25)
  b__law_kind_rows : Binds K (fdt 25) ["_law_people", "_law_things", "_law_allowed"] []
  g__law_kind_rows : mg "_law_kind_rows" = some (.ref (fa 25))
  F__law_orders : Fun K "_law_orders" "_law_orders" st__law_orders (fa 26) (fdt 26)
  b__law_orders : Binds K (fdt 26) ["_law_many", "_law_modulus"] []
  g__law_orders : mg "_law_orders" = some (.ref (fa 26))
  F__law_said : Fun K "_law_said" "_law_said" st__law_said (fa 27) (fdt 27)
  b__law_said : Binds K (fdt 27) ["_law_sizes", "_law_modulus"] []
  g__law_said : mg "_law_said" = some (.ref (fa 27))
  F__law_half_right : Fun K "_law_half_right" "_law_half_right" st__law_half_right (fa 28) (fdt 28)
  b__law_half_right : Binds K (fdt 28) ["_law_pool_here", "_law_modulus"] []
  g__law_half_right : mg "_law_half_right" = some (.ref (fa 28))
  F__law_by_signs : Fun K "_law_by_signs" "_law_by_signs" st__law_by_signs (fa 29) (fdt 29)
  b__law_by_signs : Binds K (fdt 29) ["_law_sizes"] []
  g__law_by_signs : mg "_law_by_signs" = some (.ref (fa 29))
  F__law_many_right : Fun K "_law_many_right" "_law_many_right" st__law_many_right (fa 30) (fdt 30)
  b__law_many_right : Binds K (fdt 30) ["_law_pool_here"] []
  g__law_many_right : mg "_law_many_right" = some (.ref (fa 30))
  F_law : Fun K "law" "law" st_law (fa 31) (fdt 31)
  b_law : Binds K (fdt 31) ["_law_script"] []
  g_law : mg "law" = some (.ref (fa 31))
  z_abs : mg "abs" = none
  z_all : mg "all" = none
  z_bool : mg "bool" = none
  z_enumerate : mg "enumerate" = none
  z_int : mg "int" = none
  z_isinstance : mg "isinstance" = none
  z_len : mg "len" = none
  z_list : mg "list" = none
  z_range : mg "range" = none
  z_sorted : mg "sorted" = none
  z_sum : mg "sum" = none
  z_tuple : mg "tuple" = none
  z_zip : mg "zip" = none
  c_MOST_COUNTED : ∃ t, mg "MOST_COUNTED" = some (.int 60 t)
  c_MOST_FAMILIES : ∃ t, mg "MOST_FAMILIES" = some (.int 400 t)
  c_MOST_KINDS : ∃ t, mg "MOST_KINDS" = some (.int 8 t)
  c_MOST_OF_KIND : ∃ t, mg "MOST_OF_KIND" = some (.int 1000000000000000000000000000000 t)
  c_MOST_STATES : ∃ t, mg "MOST_STATES" = some (.int 5000 t)
  C_Kinds : CFt K (cm 9)
  gC_Kinds : mg "Kinds" = some (.ref (cm 9))
  mk_Kinds : Mk K (cm 9) (fa 9)
  na_Kinds_people : NoAttr K (cm 9) "people"
  na_Kinds_things : NoAttr K (cm 9) "things"
  na_Kinds_allowed : NoAttr K (cm 9) "allowed"
  isiT_int : ∀ c b, tabT c = some b → PySem.W.kitOne K (.ref (cm c)) (.type "int") = some b
  isiT_bool : ∀ c b, tabT c = some b → PySem.W.kitOne K (.ref (cm c)) (.type "bool") = some b
  isiT_tuple : ∀ c b, tabT c = some b → PySem.W.kitOne K (.ref (cm c)) (.type "tuple") = some b
  isiB_Kinds : ∀ S ∈ ["NoneType", "bool", "int", "str", "list", "tuple", "dict"], PySem.W.kitOne K (.type S) (.ref (cm 9)) = some false
  isiC_Kinds : ∀ c b, tabC_Kinds c = some b → PySem.W.kitOne K (.ref (cm c)) (.ref (cm 9)) = some b
  eqF : EqF K cm eqCl (fa 10)
  eqI : PySem.W.isFn K (.ref (fa 10)) = true
  neF : ∀ c ∈ eqCl, NeF K (cm c)
  nfF : NfF K cm eqCl eqNf
  E_NoNumber : ErC K mg (cm 31) "NoNumber"
  E_NoSizes : ErC K mg (cm 34) "NoSizes"
  gX_DrawError : mg "DrawError" = some (.ref (cm 30))
  gX_NoNumber : mg "NoNumber" = some (.ref (cm 31))
  gX_NoSizes : mg "NoSizes" = some (.ref (cm 34))
  gX_TooMany : mg "TooMany" = some (.ref (cm 32))
  EF_TooMany : ErF P K mg (cm 32) "TooMany" "most"
  xm_NoNumber_DrawError : PySem.W.exmOne K (.ref (cm 31)) (.ref (cm 30)) = some true
  xm_NoNumber_NoNumber : PySem.W.exmOne K (.ref (cm 31)) (.ref (cm 31)) = some true
  xm_NoNumber_NoSizes : PySem.W.exmOne K (.ref (cm 31)) (.ref (cm 34)) = some false
  xm_NoNumber_TooMany : PySem.W.exmOne K (.ref (cm 31)) (.ref (cm 32)) = some false
  xm_NoSizes_DrawError : PySem.W.exmOne K (.ref (cm 34)) (.ref (cm 30)) = some true
  xm_NoSizes_NoNumber : PySem.W.exmOne K (.ref (cm 34)) (.ref (cm 31)) = some false
  xm_NoSizes_NoSizes : PySem.W.exmOne K (.ref (cm 34)) (.ref (cm 34)) = some true
  xm_NoSizes_TooMany : PySem.W.exmOne K (.ref (cm 34)) (.ref (cm 32)) = some false
  xm_TooMany_DrawError : PySem.W.exmOne K (.ref (cm 32)) (.ref (cm 30)) = some true
  xm_TooMany_NoNumber : PySem.W.exmOne K (.ref (cm 32)) (.ref (cm 31)) = some false
  xm_TooMany_NoSizes : PySem.W.exmOne K (.ref (cm 32)) (.ref (cm 34)) = some false
  xm_TooMany_TooMany : PySem.W.exmOne K (.ref (cm 32)) (.ref (cm 32)) = some true
section
variable {P : Program} {w : World} {K : PySem.W.Frag} {mg : Str → Option Value} {base : Heap} {fa : Nat → Addr} {fdt : Nat → FuncData} {cm : Cm}
theorem ok_is_integer (T : Tx P K mg fa fdt cm) : FnOk P w K mg base CX0 1 (fa 2) (fdt 2) ["thing"] (spD K cm fn_is_integer 1) :=
  fn_dx (N := N_is_integer) (B := []) (g := s_is_integer) T.F_is_integer sc_is_integer (by decide) rfl rfl fun cdv A outer s H E hr => have sc := sc_is_integer
    ⟨_, (dss_one (ds_ret (do_e (de_and (de_isi (T := "int") (tab := tabT) T.z_isinstance T.z_int (by decide +kernel) T.isiT_int (dv 0)) (de_one (de_not (de_isi (T := "bool") (tab := tabT) T.z_isinstance T.z_bool (by decide +kernel) T.isiT_bool (dv 0))))))))⟩
theorem ok_is_within (T : Tx P K mg fa fdt cm) : FnOk P w K mg base CX0 2 (fa 3) (fdt 3) ["thing", "least", "most"] (spD K cm fn_is_within 3) :=
  fn_dx (N := N_is_within) (B := []) (g := s_is_within) T.F_is_within sc_is_within (by decide) rfl rfl fun cdv A outer s H E hr => have sc := sc_is_within
    ⟨_, (dss_one (ds_ret (do_e (de_and (de_o (do_call (ok_is_integer (P := P) (w := w) (base := base) T) (hr.mono (by decide)) T.g_is_integer T.F_is_integer.kp T.b_is_integer (da_cons (dv 0) da_nil))) (de_one (de_p (dp_chain op_le pu_le op_le pu_le (dp 1) (dp 0) (dp 2))))))))⟩
theorem ok_are_ascending (T : Tx P K mg fa fdt cm) : FnOk P w K mg base CX0 1 (fa 4) (fdt 4) ["things"] (spD K cm fn_are_ascending 1) :=
  fn_dx (N := N_are_ascending) (B := []) (g := s_are_ascending) T.F_are_ascending sc_are_ascending (by decide) rfl rfl fun cdv A outer s H E hr => have sc := sc_are_ascending
    ⟨_, (dss_one (ds_ret (do_cB (cr_all rfl) sr_all T.z_all (by decide +kernel) (da_cons (de_o (do_lc sc.nd (di_zip T.z_zip (da_cons (dv 0) (da_cons (de_sl (dv 0) (dpo_some dp_int) dpo_none) da_nil))) (blkOk_by (N := N_are_ascending) (sc := defScope st_are_ascending) (own := [("one", 1), ("other", 2)]) (by decide +kernel)) (fun _ _ _ _ _ => ⟨_, (dg_tup (dgs_cons (dg_name (i := 1) sc.nd (by exact (by decide : 1 ∉ (compl 3 [1, 2] : List Nat)))) (dgs_cons (dg_name (i := 2) sc.nd (by exact (by decide : 2 ∉ (compl 3 [1, 2] : List Nat)))) dgs_nil)) tg2_len)⟩) (fun _ _ _ _ _ => ⟨_, dts_nil⟩) (fun _ _ _ _ _ => ⟨_, (de_p (dp_cmp op_lt pu_lt (dp 1) (dp 2) (nomark _)))⟩))) da_nil))))⟩
theorem ok_is_lot_of (T : Tx P K mg fa fdt cm) : FnOk P w K mg base CX0 3 (fa 5) (fdt 5) ["thing", "many"] (spD K cm fn_is_lot_of 2) :=
  fn_dx (N := N_is_lot_of) (B := []) (g := s_is_lot_of) T.F_is_lot_of sc_is_lot_of (by decide) rfl rfl fun cdv A outer s H E hr => have sc := sc_is_lot_of
    ⟨_, (dss_cons (ds_if (dt_w (dw_or (dt_not (dt_val (de_isi (T := "tuple") (tab := tabT) T.z_isinstance T.z_tuple (by decide +kernel) T.isiT_tuple (dv 0)))) (dw_or1 (dt_not (dt_val (de_o (do_cB (cr_all rfl) sr_all T.z_all (by decide +kernel) (da_cons (de_o (do_lc sc.nd (di_any (dv 0)) (blkOk_by (N := N_is_lot_of) (sc := defScope st_is_lot_of) (own := [("one", 2)]) (by decide +kernel)) (fun _ _ _ _ _ => ⟨_, (dg_name (i := 2) sc.nd (by exact (by decide : 2 ∉ (compl 3 [2] : List Nat))))⟩) (fun _ _ _ _ _ => ⟨_, dts_nil⟩) (fun _ _ _ _ _ => ⟨_, (de_o (do_call (ok_is_within (P := P) (w := w) (base := base) T) (hr.mono (by decide)) T.g_is_within T.F_is_within.kp T.b_is_within (da_cons (dv 2) (da_cons (de_p dp_int) (da_cons (de_p (dp_op op_sub pu_sub (dp 1) dp_int)) da_nil)))))⟩))) da_nil)))))))) (dss_one (ds_ret (do_e (de_p dp_bl)))) dss_nil)
      (dss_one (ds_ret (do_call (ok_are_ascending (P := P) (w := w) (base := base) T) (hr.mono (by decide)) T.g_are_ascending T.F_are_ascending.kp T.b_are_ascending (da_cons (dv 0) da_nil)))))⟩
theorem ok_check_number (T : Tx P K mg fa fdt cm) : FnOk P w K mg base (L2.CX P w) 3 (fa 6) (fdt 6) ["thing", "least", "most"] (spX K cm fn_check_number 3) :=
  fn_x (N := N_check_number) (B := []) (g := s_check_number) T.F_check_number sc_check_number (by decide) rfl rfl fun cdv A outer s H E hr => have sc := sc_check_number
    ⟨_, (dxs_one (dx_if (dt_not (dt_val (de_o (do_call (ok_is_within (P := P) (w := w) (base := base) T) (hr.mono (by decide)) T.g_is_within T.F_is_within.kp T.b_is_within (da_cons (dv 0) (da_cons (dv 1) (da_cons (dv 2) da_nil))))))) (dxs_one (dx_raise 31 T.E_NoNumber)) (dxs_of dss_nil)))⟩
theorem ok_check_many (T : Tx P K mg fa fdt cm) : FnOk P w K mg base (L2.CX P w) 3 (fa 7) (fdt 7) ["number", "most"] (spX K cm fn_check_many 2) :=
  fn_x (N := N_check_many) (B := []) (g := s_check_many) T.F_check_many sc_check_many (by decide) rfl rfl fun cdv A outer s H E hr => have sc := sc_check_many
    ⟨_, (dxs_one (dx_if (dt_q (dq_cmp op_gt pu_gt (dp 0) (dp 1) (nomark _))) (dxs_one (dx_raiseF (k := 2) 32 T.EF_TooMany (dv 1) (hr.mono (by decide)))) (dxs_of dss_nil)))⟩
theorem ok_are_counts (T : Tx P K mg fa fdt cm) : FnOk P w K mg base CX0 3 (fa 8) (fdt 8) ["thing", "least"] (spD K cm fn_are_counts 2) :=
  fn_dx (N := N_are_counts) (B := []) (g := s_are_counts) T.F_are_counts sc_are_counts (by decide) rfl rfl fun cdv A outer s H E hr => have sc := sc_are_counts
    ⟨_, (dss_cons (ds_if (dt_w (dw_or (dt_not (dt_val (de_isi (T := "tuple") (tab := tabT) T.z_isinstance T.z_tuple (by decide +kernel) T.isiT_tuple (dv 0)))) (dw_or1 (dt_not (dt_q (dq_chain op_le pu_le op_le pu_le dp_int (dp_len T.z_len (dx 0)) (dp_glI T.c_MOST_KINDS rfl))))))) (dss_one (ds_ret (do_e (de_p dp_bl)))) dss_nil)
      (dss_one (ds_ret (do_cB (cr_all rfl) sr_all T.z_all (by decide +kernel) (da_cons (de_o (do_lc sc.nd (di_any (dv 0)) (blkOk_by (N := N_are_counts) (sc := defScope st_are_counts) (own := [("number", 2)]) (by decide +kernel)) (fun _ _ _ _ _ => ⟨_, (dg_name (i := 2) sc.nd (by exact (by decide : 2 ∉ (compl 3 [2] : List Nat))))⟩) (fun _ _ _ _ _ => ⟨_, dts_nil⟩) (fun _ _ _ _ _ => ⟨_, (de_o (do_call (ok_is_within (P := P) (w := w) (base := base) T) (hr.mono (by decide)) T.g_is_within T.F_is_within.kp T.b_is_within (da_cons (dv 2) (da_cons (dv 1) (da_cons (de_p (dp_glI T.c_MOST_OF_KIND rfl)) da_nil)))))⟩))) da_nil)))))⟩
theorem ok_Kinds___init__ (T : Tx P K mg fa fdt cm) : FnOk P w K mg base CX0 4 (fa 9) (fdt 9) ["self", "people", "things", "allowed"] (spD K cm fn_Kinds___init__ 4) :=
  fn_dx (N := N_Kinds___init__) (B := [0]) (g := s_Kinds___init__) T.F_Kinds___init__ sc_Kinds___init__ (by decide) rfl rfl fun cdv A outer s H E hr => have sc := sc_Kinds___init__
    ⟨_, (dss_cons (ds_if (dt_not (dt_val (de_o (do_call (ok_are_counts (P := P) (w := w) (base := base) T) (hr.mono (by decide)) T.g_are_counts T.F_are_counts.kp T.b_are_counts (da_cons (dv 1) (da_cons (de_p dp_int) da_nil)))))) (dss_one ds_never) dss_nil)
      (dss_cons (ds_if (dt_not (dt_val (de_o (do_call (ok_are_counts (P := P) (w := w) (base := base) T) (hr.mono (by decide)) T.g_are_counts T.F_are_counts.kp T.b_are_counts (da_cons (dv 2) (da_cons (de_p dp_int) da_nil)))))) (dss_one ds_never) dss_nil)
      (dss_cons (ds_if (dt_w (dw_or (dt_not (dt_val (de_isi (T := "tuple") (tab := tabT) T.z_isinstance T.z_tuple (by decide +kernel) T.isiT_tuple (dv 3)))) (dw_or1 (dt_cmp (op_neD hr.units) pu_ne.sm (de_p (dp_len T.z_len (dx 3))) (de_p (dp_len T.z_len (dx 1))) (nomark _))))) (dss_one ds_never) dss_nil)
      (dss_cons (ds_if (dt_not (dt_val (de_o (do_cB (cr_all rfl) sr_all T.z_all (by decide +kernel) (da_cons (de_o (do_lc sc.nd (di_any (dv 3)) (blkOk_by (N := N_Kinds___init__) (sc := defScope st_Kinds___init__) (own := [("row", 4)]) (by decide +kernel)) (fun _ _ _ _ _ => ⟨_, (dg_name (i := 4) sc.nd (by exact (by decide : 4 ∉ (compl 5 [4] : List Nat))))⟩) (fun _ _ _ _ _ => ⟨_, dts_nil⟩) (fun _ _ _ _ _ => ⟨_, (de_o (do_call (ok_is_lot_of (P := P) (w := w) (base := base) T) (hr.mono (by decide)) T.g_is_lot_of T.F_is_lot_of.kp T.b_is_lot_of (da_cons (dv 4) (da_cons (de_p (dp_len T.z_len (dx 2))) da_nil))))⟩))) da_nil))))) (dss_one ds_never) dss_nil)
      (dss_cons (ds_if (dt_cmp (op_neD hr.units) pu_ne.sm (de_o (do_cB (DL.cr_sumS rfl) sr_sum T.z_sum (by decide +kernel) (da_cons (dv 1) da_nil))) (de_o (do_cB (DL.cr_sumS rfl) sr_sum T.z_sum (by decide +kernel) (da_cons (dv 2) da_nil))) (nomark _)) (dss_one ds_never) dss_nil)
      (dss_cons (ds_fs (i := 0) [9] (do_e (dv 1)) (fun c hc => by simp at hc; subst hc <;> first | exact T.na_Kinds_people))
      (dss_cons (ds_fs (i := 0) [9] (do_e (dv 2)) (fun c hc => by simp at hc; subst hc <;> first | exact T.na_Kinds_things))
      (dss_one (ds_fs (i := 0) [9] (do_e (dv 3)) (fun c hc => by simp at hc; subst hc <;> first | exact T.na_Kinds_allowed))))))))))⟩
theorem ok_Kinds___eq__ (T : Tx P K mg fa fdt cm) : FnOk P w K mg base CX0 1 (fa 10) (fdt 10) ["self", "other"] (spD K cm fn_Kinds___eq__ 2) :=
  fn_dx (N := N_Kinds___eq__) (B := [0]) (g := s_Kinds___eq__) T.F_Kinds___eq__ sc_Kinds___eq__ (by decide) rfl rfl fun cdv A outer s H E hr => have sc := sc_Kinds___eq__
    ⟨_, (dss_cons (ds_if (dt_not (dt_val (de_isC (n := 9) (tab := tabC_Kinds) T.z_isinstance T.gC_Kinds T.isiB_Kinds T.isiC_Kinds (dv 1)))) (dss_one (ds_ret (do_e (de_p dp_bl)))) dss_nil)
      (dss_one (ds_ret (do_e (de_cmp (op_eqD hr.units) pu_eq.sm (de_tup (da_cons (de_p (dpf 0)) (da_cons (de_p (dpf 0)) (da_cons (de_p (dpf 0)) da_nil)))) (de_tup (da_cons (de_p (dpf 1)) (da_cons (de_p (dpf 1)) (da_cons (de_p (dpf 1)) da_nil)))) (nomark _))))))⟩
theorem ok_spread_out (T : Tx P K mg fa fdt cm) : FnOk P w K mg base CX0 1 (fa 11) (fdt 11) ["numbers"] (spD K cm fn_spread_out 1) :=
  fn_dx (N := N_spread_out) (B := []) (g := s_spread_out) T.F_spread_out sc_spread_out (by decide) rfl rfl fun cdv A outer s H E hr => have sc := sc_spread_out
    ⟨_, (dss_cons (ds_set (i := 1) (do_lst da_nil) sc.nd)
      (dss_cons (ds_for (di_enA T.z_enumerate (dv 0)) (dg_tup (dgs_cons (dg_name (i := 2) sc.nd (by exact (by decide : 2 ∉ ([] : List Nat)))) (dgs_cons (dg_name (i := 3) sc.nd (by exact (by decide : 3 ∉ ([] : List Nat)))) dgs_nil)) tg2_len) (dss_one (ds_expr (de_extT (i := 1) (da_cons (de_mulL (de_o (do_lst (da_cons (dv 2) da_nil))) (dv 3)) da_nil)))))
      (dss_one (ds_ret (do_mv 1)))))⟩
theorem ok_one_less (T : Tx P K mg fa fdt cm) : FnOk P w K mg base CX0 1 (fa 12) (fdt 12) ["numbers", "place"] (spD K cm fn_one_less 2) :=
  fn_dx (N := N_one_less) (B := []) (g := s_one_less) T.F_one_less sc_one_less (by decide) rfl rfl fun cdv A outer s H E hr => have sc := sc_one_less
    ⟨_, (dss_one (ds_ret (do_e (de_op op_addA sr_add (de_op op_addA sr_add (de_sl (dv 0) dpo_none (dpo_some (dp 1))) (de_tup (da_cons (de_p (dp_op op_sub pu_sub (dp_ix (dx 0) (dp 1)) dp_int)) da_nil))) (de_sl (dv 0) (dpo_some (dp_op op_add pu_addI (dp 1) dp_int)) dpo_none)))))⟩
theorem ok_after_person (T : Tx P K mg fa fdt cm) : FnOk P w K mg base CX0 2 (fa 13) (fdt 13) ["kinds", "kind", "counts", "modulus"] (spD K cm fn_after_person 4) :=
  fn_dx (N := N_after_person) (B := []) (g := s_after_person) T.F_after_person sc_after_person (by decide) rfl rfl fun cdv A outer s H E hr => have sc := sc_after_person
    ⟨_, (dss_cons (ds_set (i := 4) do_dnT sc.nd)
      (dss_cons (ds_forT 2 (dg_tup (dgs_cons (dg_name (i := 5) sc.nd (by exact (by decide : 5 ∉ ([] : List Nat)))) (dgs_cons (dg_name (i := 6) sc.nd (by exact (by decide : 6 ∉ ([] : List Nat)))) dgs_nil)) tg2_len) (dss_one (ds_for (di_any (de_p (dp_ix (dxf 0) (dp 1)))) (dg_name (i := 7) sc.nd (by exact (by decide : 7 ∉ ([] : List Nat)))) (dss_one (ds_if (dt_q (dq_cmp op_gt pu_gt (dp_ix (dx 5) (dp 7)) dp_int (nomark _))) (dss_cons (ds_set (i := 8) (do_call (ok_one_less (P := P) (w := w) (base := base) T) (hr.mono (by decide)) T.g_one_less T.F_one_less.kp T.b_one_less (da_cons (dv 5) (da_cons (dv 7) da_nil))) sc.nd)
      (dss_one (ds_dput 4 (hu_1 hr.units) (dv 8) (de_op op_modN pu_mod.sm (de_op op_addA sr_add (de_dget2 4 (hu_1 hr.units) (dv 8) (de_p dp_int)) (de_p (dp_op op_mul pu_mul (dp 6) (dp_ix (dx 5) (dp 7))))) (dv 3))))) dss_nil)))))
      (dss_one (ds_ret (do_mv 4)))))⟩
theorem ok_kinds_many (T : Tx P K mg fa fdt cm) : FnOk P w K mg base (L2.CX P w) 4 (fa 14) (fdt 14) ["kinds", "modulus"] (spX K cm fn_kinds_many 2) :=
  fn_x (N := N_kinds_many) (B := []) (g := s_kinds_many) T.F_kinds_many sc_kinds_many (by decide) rfl rfl fun cdv A outer s H E hr => have sc := sc_kinds_many
    ⟨_, (dxs_cons (dx_call (ok_check_number (P := P) (w := w) (base := base) T) (hr.mono (by decide)) T.g_check_number T.F_check_number.kp T.b_check_number (da_cons (dv 1) (da_cons (de_p dp_int) (da_cons (de_p (dp_glI T.c_MOST_OF_KIND rfl)) da_nil))))
      (dxs_cons (dx_call (ok_check_many (P := P) (w := w) (base := base) T) (hr.mono (by decide)) T.g_check_many T.F_check_many.kp T.b_check_many (da_cons (de_o (do_cB (DL.cr_sumS rfl) sr_sum T.z_sum (by decide +kernel) (da_cons (de_p (dpf 0)) da_nil))) (da_cons (de_p (dp_glI T.c_MOST_COUNTED rfl)) da_nil)))
      (dxs_cons (dx_of (ds_set (i := 2) (do_e (de_p dp_int)) sc.nd))
      (dxs_cons (dx_of (ds_for (di_any (de_p (dpf 0))) (dg_name (i := 3) sc.nd (by exact (by decide : 3 ∉ ([] : List Nat)))) (dss_one (let h := (de_p (dp_op op_add pu_addI (dp 3) dp_int)); ds_aug (i := 2) h ip_mul ipM_sm (ps_aug (i := 2) sc.nd rfl (.inl rfl) h.pe ip_mul)))))
      (dxs_cons (dx_call (ok_check_many (P := P) (w := w) (base := base) T) (hr.mono (by decide)) T.g_check_many T.F_check_many.kp T.b_check_many (da_cons (dv 2) (da_cons (de_p (dp_glI T.c_MOST_STATES rfl)) da_nil)))
      (dxs_of (dss_cons (ds_set (i := 4) (do_d1T (hu_1 hr.units) (de_p (dpf 0)) (de_p (dp_op op_modN pu_mod dp_int (dp 1)))) sc.nd)
      (dss_cons (ds_for (di_any (de_o (do_call (ok_spread_out (P := P) (w := w) (base := base) T) (hr.mono (by decide)) T.g_spread_out T.F_spread_out.kp T.b_spread_out (da_cons (de_p (dpf 0)) da_nil)))) (dg_name (i := 5) sc.nd (by exact (by decide : 5 ∉ ([] : List Nat)))) (dss_one (ds_set (i := 4) (do_call (ok_after_person (P := P) (w := w) (base := base) T) (hr.mono (by decide)) T.g_after_person T.F_after_person.kp T.b_after_person (da_cons (dv 0) (da_cons (dv 5) (da_cons (de_lkv 4) (da_cons (dv 1) da_nil))))) sc.nd)))
      (dss_one (ds_ret (do_e (de_p (dp_op op_modN pu_mod (dp_vsum rfl T.z_sum (dx 4)) (dp 1))))))))))))))⟩
theorem okN_kinds_many (T : Tx P K mg fa fdt cm) : FnOk P w K mg base CX0 4 (fa 14) (fdt 14) ["kinds", "modulus"] (spD K cm (noX fn_kinds_many) 2) := fn_noX (ok_kinds_many T) rfl
theorem ok_check_sizes (T : Tx P K mg fa fdt cm) : FnOk P w K mg base (L2.CX P w) 4 (fa 15) (fdt 15) ["sizes"] (spX K cm fn_check_sizes 1) :=
  fn_x (N := N_check_sizes) (B := []) (g := s_check_sizes) T.F_check_sizes sc_check_sizes (by decide) rfl rfl fun cdv A outer s H E hr => have sc := sc_check_sizes
    ⟨_, (dxs_one (dx_if (dt_not (dt_val (de_o (do_call (ok_are_counts (P := P) (w := w) (base := base) T) (hr.mono (by decide)) T.g_are_counts T.F_are_counts.kp T.b_are_counts (da_cons (dv 0) (da_cons (de_p dp_int) da_nil)))))) (dxs_one (dx_raise 34 T.E_NoSizes)) (dxs_of dss_nil)))⟩
theorem ok_families (T : Tx P K mg fa fdt cm) : FnOk P w K mg base (L2.CX P w) 6 (fa 16) (fdt 16) ["sizes"] (spX K cm fn_families 1) :=
  fn_x (N := N_families) (B := []) (g := s_families) T.F_families sc_families (by decide) rfl rfl fun cdv A outer s H E hr => have sc := sc_families
    ⟨_, (dxs_cons (dx_call (ok_check_sizes (P := P) (w := w) (base := base) T) (hr.mono (by decide)) T.g_check_sizes T.F_check_sizes.kp T.b_check_sizes (da_cons (dv 0) da_nil))
      (dxs_of (dss_cons (ds_set (i := 1) (do_lrg T.z_list (drg_1 T.z_range (de_p (dp_len T.z_len (dx 0))))) sc.nd)
      (dss_one (ds_ret (do_make 9 T.C_Kinds T.mk_Kinds (ok_Kinds___init__ (P := P) (w := w) (base := base) T) (hr.mono (by decide)) T.gC_Kinds T.b_Kinds___init__ (da_cons (dv 0) (da_cons (dv 0) (da_cons (de_tupOf T.z_tuple (de_o (do_lc sc.nd (di_any (dv 1)) (blkOk_by (N := N_families) (sc := defScope st_families) (own := [("one", 3)]) (by decide +kernel)) (fun _ _ _ _ _ => ⟨_, (dg_name (i := 3) sc.nd (by exact (by decide : 3 ∉ (compl 4 [3] : List Nat))))⟩) (fun _ _ _ _ _ => ⟨_, dts_nil⟩) (fun _ _ _ _ _ => ⟨_, (de_tupOf T.z_tuple (de_o (do_lc sc.nd (di_any (dv 1)) (blkOk_by (own := [("other", 2)]) (by rfl)) (fun _ _ _ _ _ => ⟨_, (dg_name (i := 2) sc.nd (by exact (by decide : 2 ∉ (compl 4 [2] : List Nat))))⟩) (fun _ _ _ _ _ => ⟨_, (dts_one (dt_cmp (op_neD hr.units) pu_ne.sm (dv 2) (dv 3) (nomark _)))⟩) (fun _ _ _ _ _ => ⟨_, (dv 2)⟩))))⟩)))) da_nil)))))))))⟩
theorem okN_families (T : Tx P K mg fa fdt cm) : FnOk P w K mg base CX0 6 (fa 16) (fdt 16) ["sizes"] (spD K cm (noX fn_families) 1) := fn_noX (ok_families T) rfl
theorem ok_own_names (T : Tx P K mg fa fdt cm) : FnOk P w K mg base CX0 1 (fa 17) (fdt 17) ["size"] (spD K cm fn_own_names 1) :=
  fn_dx (N := N_own_names) (B := []) (g := s_own_names) T.F_own_names sc_own_names (by decide) rfl rfl fun cdv A outer s H E hr => have sc := sc_own_names
    ⟨_, (dss_cons (ds_set (i := 1) (do_lst (da_cons (de_p dp_int) da_nil)) sc.nd)
      (dss_cons (ds_for (di_rng1 T.z_range (dv 0)) (dg_name (i := 2) sc.nd (by exact (by decide : 2 ∉ ([] : List Nat)))) (dss_one (ds_expr (de_app (i := 1) (da_cons (de_p (dp_op DL.op_fdivW pu_div (dp_op op_mul pu_mul (dp_op op_mul pu_mul (dp_ix (dx 1) (dp_neg dp_int)) (dp_op op_sub pu_sub (dp 0) (dp 2))) (dp_op op_sub pu_sub (dp 0) (dp 2))) (dp_op op_add pu_addI (dp 2) dp_int))) da_nil)))))
      (dss_one (ds_ret (do_mv 1)))))⟩
theorem ok_families_many (T : Tx P K mg fa fdt cm) : FnOk P w K mg base (L2.CX P w) 5 (fa 18) (fdt 18) ["sizes", "modulus"] (spX K cm fn_families_many 2) :=
  fn_x (N := N_families_many) (B := []) (g := s_families_many) T.F_families_many sc_families_many (by decide) rfl rfl fun cdv A outer s H E hr => have sc := sc_families_many
    ⟨_, (dxs_cons (dx_call (ok_check_sizes (P := P) (w := w) (base := base) T) (hr.mono (by decide)) T.g_check_sizes T.F_check_sizes.kp T.b_check_sizes (da_cons (dv 0) da_nil))
      (dxs_cons (dx_call (ok_check_number (P := P) (w := w) (base := base) T) (hr.mono (by decide)) T.g_check_number T.F_check_number.kp T.b_check_number (da_cons (dv 1) (da_cons (de_p dp_int) (da_cons (de_p (dp_glI T.c_MOST_OF_KIND rfl)) da_nil))))
      (dxs_cons (dx_call (ok_check_many (P := P) (w := w) (base := base) T) (hr.mono (by decide)) T.g_check_many T.F_check_many.kp T.b_check_many (da_cons (de_o (do_cB (DL.cr_sumS rfl) sr_sum T.z_sum (by decide +kernel) (da_cons (dv 0) da_nil))) (da_cons (de_p (dp_glI T.c_MOST_FAMILIES rfl)) da_nil)))
      (dxs_of (dss_cons (ds_set (i := 2) (do_lst (da_cons (de_p dp_int) da_nil)) sc.nd)
      (dss_cons (ds_for (di_any (dv 0)) (dg_name (i := 3) sc.nd (by exact (by decide : 3 ∉ ([] : List Nat)))) (dss_cons (ds_set (i := 4) (do_call (ok_own_names (P := P) (w := w) (base := base) T) (hr.mono (by decide)) T.g_own_names T.F_own_names.kp T.b_own_names (da_cons (dv 3) da_nil)) sc.nd)
      (dss_cons (ds_set (i := 5) (do_mul (de_o (do_lst (da_cons (de_p dp_int) da_nil))) (de_p (dp_op op_add pu_addI (dp_len T.z_len (dx 2)) (dp 3)))) sc.nd)
      (dss_cons (ds_for (di_enA T.z_enumerate (dv 2)) (dg_tup (dgs_cons (dg_name (i := 6) sc.nd (by exact (by decide : 6 ∉ ([] : List Nat)))) (dgs_cons (dg_name (i := 7) sc.nd (by exact (by decide : 7 ∉ ([] : List Nat)))) dgs_nil)) tg2_len) (dss_one (ds_for (di_enA T.z_enumerate (dv 4)) (dg_tup (dgs_cons (dg_name (i := 8) sc.nd (by exact (by decide : 8 ∉ ([] : List Nat)))) (dgs_cons (dg_name (i := 9) sc.nd (by exact (by decide : 9 ∉ ([] : List Nat)))) dgs_nil)) tg2_len) (dss_one (ds_sau 5 (dp_op op_add pu_addI (dp 6) (dp 8)) (dp_op op_mulW pu_mulW (dp 7) (dp 9)))))))
      (dss_one (ds_set (i := 2) (do_e (dv 5)) sc.nd))))))
      (dss_cons (ds_set (i := 10) (do_e (de_p dp_int)) sc.nd)
      (dss_cons (ds_set (i := 11) (do_e (de_p dp_int)) sc.nd)
      (dss_cons (ds_for (di_rng1 T.z_range (de_p (dp_len T.z_len (dx 2)))) (dg_name (i := 12) sc.nd (by exact (by decide : 12 ∉ ([] : List Nat)))) (dss_cons (ds_set (i := 13) (do_e (de_p (dp_op op_sub pu_sub (dp_op op_sub pu_sub (dp_len T.z_len (dx 2)) dp_int) (dp 12)))) sc.nd)
      (dss_cons (let h := (de_if (dt_cmp (op_eqD hr.units) pu_eq.sm (de_p (dp_op op_modN pu_mod (dp 13) dp_int)) (de_p dp_int) (nomark _)) (de_p (dp_op op_mulW pu_mulW (dp_ix (dx 2) (dp 13)) (dp 11))) (de_p (dp_op op_mulW pu_mulW (dp_neg (dp_ix (dx 2) (dp 13))) (dp 11)))); ds_aug (i := 10) h ip_add ipI_sm (ps_aug (i := 10) sc.nd rfl (.inl rfl) h.pe ip_add))
      (dss_one (let h := (de_p (dp_op op_add pu_addI (dp 12) dp_int)); ds_aug (i := 11) h ip_mul ipM_sm (ps_aug (i := 11) sc.nd rfl (.inl rfl) h.pe ip_mul))))))
      (dss_one (ds_ret (do_e (de_p (dp_op op_modN pu_mod (dp 10) (dp 1)))))))))))))))⟩
theorem ok__law_pool (T : Tx P K mg fa fdt cm) : FnOk P w K mg base CX0 1 (fa 19) (fdt 19) ["_law_script"] (spD K cm fn__law_pool 1) :=
  fn_dx (N := N__law_pool) (B := []) (g := s__law_pool) T.F__law_pool sc__law_pool (by decide) rfl rfl fun cdv A outer s H E hr => have sc := sc__law_pool
    ⟨_, (dss_cons (ds_set (i := 1) (do_e (de_op op_addA sr_add (de_op op_addA sr_add (de_op op_modN pu_mod.sm (de_intc T.z_int (de_o (do_cB (DL.cr_sumS rfl) sr_sum T.z_sum (by decide +kernel) (da_cons (de_sl (dv 0) dpo_none (dpo_some dp_int)) da_nil)))) (de_p dp_int)) (de_p (dp_len T.z_len (dx 0)))) (de_p dp_int))) sc.nd)
      (dss_cons (ds_for (di_any (de_sl (dv 0) dpo_none (dpo_some dp_int))) (dg_name (i := 2) sc.nd (by exact (by decide : 2 ∉ ([] : List Nat)))) (dss_one (ds_set (i := 1) (do_e (de_p (dp_op op_modN pu_mod (dp_intc T.z_int (dp_op op_add pu_addI (dp_op op_add pu_addI (dp_op op_mul pu_mul (dp 1) dp_int) (dp_op op_modN pu_mod (dp_intc T.z_int (dp 2)) dp_int)) dp_int)) dp_int))) sc.nd)))
      (dss_one (ds_ret (do_plst (dv 1) (de_p dp_int) (do_lc sc.nd (di_any (de_sl (dv 0) dpo_none (dpo_some dp_int))) (blkOk_by (N := N__law_pool) (sc := defScope st__law_pool) (own := [("_law_cell", 2)]) (by decide +kernel)) (fun _ _ _ _ _ => ⟨_, (dg_name (i := 2) sc.nd (by exact (by decide : 2 ∉ (compl 3 [2] : List Nat))))⟩) (fun _ _ _ _ _ => ⟨_, (dts_one (dt_cmp op_ge pu_ge.sm (de_o (do_cB call_abs sr_abs T.z_abs (by decide +kernel) (da_cons (dv 2) da_nil))) (de_p (dp_op op_pow pu_pow dp_int dp_int)) (nomark _)))⟩) (fun _ _ _ _ _ => ⟨_, (de_o (do_cB call_abs sr_abs T.z_abs (by decide +kernel) (da_cons (dv 2) da_nil)))⟩)))))))⟩
theorem ok__law_draw (T : Tx P K mg fa fdt cm) : FnOk P w K mg base CX0 1 (fa 20) (fdt 20) ["_law_pool_here", "_law_many"] (spD K cm fn__law_draw 2) :=
  fn_dx (N := N__law_draw) (B := [0]) (g := s__law_draw) T.F__law_draw sc__law_draw (by decide) rfl rfl fun cdv A outer s H E hr => have sc := sc__law_draw
    ⟨_, (dss_cons (ds_siP 0 (de_p (dp_op op_add pu_addI (dp_ixP 0 dp_int) dp_int)) dp_int)
      (dss_alias (B' := [0, 2]) 0 2 (k := 2) (dp_ixP (cm := cm) 0 dp_int).pe alias_ix (dt_q (dq_cmp op_gt pu_gt (dp_len T.z_len (dx 2)) dp_int (nomark _))) (dss_cons (ds_set (i := 3) (do_e (de_p (dp_op op_modN pu_mod (dp_intc T.z_int (dp_ix (dx 2) dp_int)) (dp 1)))) sc.nd)
      (dss_cons (ds_si (j := 2) (de_p (dp_op DL.op_fdivW pu_div (dp_intc T.z_int (dp_ix (dx 2) dp_int)) (dp 1))) dp_int)
      (dss_cons (ds_if (dt_cmp (op_eqD hr.units) pu_eq.sm (de_p (dp_ix (dx 2) dp_int)) (de_p dp_int) (nomark _)) (dss_one (ds_expr (de_popAt (i := 2) (da_cons (de_p dp_int) da_nil)))) dss_nil)
      (dss_one (ds_ret (do_mv 3))))))
      (dss_cons (ds_set (i := 4) (do_e (de_p (dp_op op_modN pu_mod (dp_intc T.z_int (dp_op op_mul pu_mul (dp_op op_add pu_addI (dp_ixP 0 dp_int) (dp_op op_mul pu_mul dp_int (dp_ixP 0 dp_int))) dp_int)) dp_int))) sc.nd)
      (dss_cons (ds_set (i := 4) (do_e (de_p (dp_op op_modN pu_mod (dp_intc T.z_int (dp_op op_mul pu_mul (dp 4) (dp_op op_add pu_addI (dp_op DL.op_fdivW pu_div (dp 4) dp_int) dp_int))) dp_int))) sc.nd)
      (dss_cons (ds_set (i := 4) (do_e (de_p (dp_op op_modN pu_mod (dp_intc T.z_int (dp_op op_mul pu_mul (dp 4) (dp_op op_add pu_addI (dp_op DL.op_fdivW pu_div (dp 4) dp_int) dp_int))) dp_int))) sc.nd)
      (dss_one (ds_ret (do_e (de_p (dp_op op_modN pu_mod (dp_intc T.z_int (dp_op DL.op_fdivW pu_div (dp 4) dp_int)) (dp 1))))))))) (by decide) (by decide) (by decide) (by decide) sc.nd))⟩
theorem ok__law_mixed (T : Tx P K mg fa fdt cm) : FnOk P w K mg base CX0 2 (fa 21) (fdt 21) ["_law_pool_here", "_law_things"] (spD K cm fn__law_mixed 2) :=
  fn_dx (N := N__law_mixed) (B := [0]) (g := s__law_mixed) T.F__law_mixed sc__law_mixed (by decide) rfl rfl fun cdv A outer s H E hr => have sc := sc__law_mixed
    ⟨_, (dss_cons (ds_set (i := 2) (do_cT call_list_of sr_list T.z_list (by decide +kernel) (da_cons (dv 1) da_nil)) sc.nd)
      (dss_one (ds_ret (do_lc sc.nd (di_rng1 T.z_range (de_p (dp_len T.z_len (dx 2)))) (blkOk_by (N := N__law_mixed) (sc := defScope st__law_mixed) (own := [("_law_k", 3)]) (by decide +kernel)) (fun _ _ _ _ _ => ⟨_, (dg_name (i := 3) sc.nd (by exact (by decide : 3 ∉ (compl 4 [3] : List Nat))))⟩) (fun _ _ _ _ _ => ⟨_, dts_nil⟩) (fun _ _ _ _ _ => ⟨_, (de_popAt (i := 2) (da_cons (de_o (do_callB 0 (ok__law_draw (P := P) (w := w) (base := base) T) (hr.mono (by decide)) T.g__law_draw T.F__law_draw.kp T.b__law_draw (da_cons (de_p (dp_len T.z_len (dx 2))) da_nil))) da_nil))⟩)))))⟩
theorem ok__law_all (T : Tx P K mg fa fdt cm) : FnOk P w K mg base CX0 1 (fa 22) (fdt 22) ["_law_rows"] (spD K cm fn__law_all 1) :=
  fn_dx (N := N__law_all) (B := []) (g := s__law_all) T.F__law_all sc__law_all (by decide) rfl rfl fun cdv A outer s H E hr => have sc := sc__law_all
    ⟨_, (dss_cons (ds_set (i := 1) (do_lst (da_cons (de_tup da_nil) da_nil)) sc.nd)
      (dss_cons (ds_for (di_any (dv 0)) (dg_name (i := 2) sc.nd (by exact (by decide : 2 ∉ ([] : List Nat)))) (dss_cons (ds_set (i := 3) (do_lst da_nil) sc.nd)
      (dss_cons (ds_for (di_any (dv 1)) (dg_name (i := 4) sc.nd (by exact (by decide : 4 ∉ ([] : List Nat)))) (dss_one (ds_expr (de_extT (i := 3) (da_cons (de_o (do_lc sc.nd (di_any (dv 2)) (blkOk_by (N := N__law_all) (sc := defScope st__law_all) (own := [("_law_thing", 5)]) (by decide +kernel)) (fun _ _ _ _ _ => ⟨_, (dg_name (i := 5) sc.nd (by exact (by decide : 5 ∉ (compl 6 [5] : List Nat))))⟩) (fun _ _ _ _ _ => ⟨_, (dts_one (dt_q (dq_nin (dp 5) (dx 4))))⟩) (fun _ _ _ _ _ => ⟨_, (de_op op_addA sr_add (dv 4) (de_tup (da_cons (dv 5) da_nil)))⟩))) da_nil)))))
      (dss_one (ds_set (i := 1) (do_e (dv 3)) sc.nd)))))
      (dss_one (ds_ret (do_cB cr_sortZ sr_sortTZ T.z_sorted (by decide +kernel) (da_cons (dv 1) da_nil))))))⟩
theorem ok__law_deep (T : Tx P K mg fa fdt cm) : FnOk P w K mg base CX0 1 (fa 23) (fdt 23) [] (spD K cm fn__law_deep 0) :=
  fn_dx (N := N__law_deep) (B := []) (g := s__law_deep) T.F__law_deep sc__law_deep (by decide) rfl rfl fun cdv A outer s H E hr => have sc := sc__law_deep
    ⟨_, (dss_cons (ds_set (i := 0) (do_e (de_tup (da_cons (de_p dp_int) (da_cons (de_p dp_int) da_nil)))) sc.nd)
      (dss_cons (ds_for (di_rng1 T.z_range (de_p dp_int)) (dg_name (i := 1) sc.nd (by exact (by decide : 1 ∉ ([] : List Nat)))) (dss_one (ds_set (i := 0) (do_e (de_tup (da_cons (dv 0) da_nil))) sc.nd)))
      (dss_one (ds_ret (do_mv 0)))))⟩
theorem ok__law_wide (T : Tx P K mg fa fdt cm) : FnOk P w K mg base CX0 1 (fa 24) (fdt 24) ["_law_numbers"] (spD K cm fn__law_wide 1) :=
  fn_dx (N := N__law_wide) (B := []) (g := s__law_wide) T.F__law_wide sc__law_wide (by decide) rfl rfl fun cdv A outer s H E hr => have sc := sc__law_wide
    ⟨_, (dss_cons (ds_set (i := 1) (do_lst da_nil) sc.nd)
      (dss_cons (ds_for (di_rng1 T.z_range (de_p (dp_len T.z_len (dx 0)))) (dg_name (i := 2) sc.nd (by exact (by decide : 2 ∉ ([] : List Nat)))) (dss_one (ds_set (i := 1) (do_e (de_op op_addA sr_add (dv 1) (de_mulL (de_o (do_lst (da_cons (dv 2) da_nil))) (de_p (dp_ix (dx 0) (dp 2)))))) sc.nd)))
      (dss_one (ds_ret (do_mv 1)))))⟩
theorem ok__law_kind_rows (T : Tx P K mg fa fdt cm) : FnOk P w K mg base CX0 2 (fa 25) (fdt 25) ["_law_people", "_law_things", "_law_allowed"] (spD K cm fn__law_kind_rows 3) :=
  fn_dx (N := N__law_kind_rows) (B := []) (g := s__law_kind_rows) T.F__law_kind_rows sc__law_kind_rows (by decide) rfl rfl fun cdv A outer s H E hr => have sc := sc__law_kind_rows
    ⟨_, (dss_cons (ds_set (i := 3) (do_call (ok__law_wide (P := P) (w := w) (base := base) T) (hr.mono (by decide)) T.g__law_wide T.F__law_wide.kp T.b__law_wide (da_cons (dv 1) da_nil)) sc.nd)
      (dss_one (ds_ret (do_e (de_tupOf T.z_tuple (de_o (do_lc sc.nd (di_any (de_o (do_call (ok__law_wide (P := P) (w := w) (base := base) T) (hr.mono (by decide)) T.g__law_wide T.F__law_wide.kp T.b__law_wide (da_cons (dv 0) da_nil)))) (blkOk_by (N := N__law_kind_rows) (sc := defScope st__law_kind_rows) (own := [("_law_kind", 5)]) (by decide +kernel)) (fun _ _ _ _ _ => ⟨_, (dg_name (i := 5) sc.nd (by exact (by decide : 5 ∉ (compl 6 [5] : List Nat))))⟩) (fun _ _ _ _ _ => ⟨_, dts_nil⟩) (fun _ _ _ _ _ => ⟨_, (de_tupOf T.z_tuple (de_o (do_lc sc.nd (di_rng1 T.z_range (de_p (dp_len T.z_len (dx 3)))) (blkOk_by (own := [("_law_k", 4)]) (by rfl)) (fun _ _ _ _ _ => ⟨_, (dg_name (i := 4) sc.nd (by exact (by decide : 4 ∉ (compl 6 [4] : List Nat))))⟩) (fun _ _ _ _ _ => ⟨_, (dts_one (dt_q (dq_in (dp_ix (dx 3) (dp 4)) (dx_p (dp_ix (dx 2) (dp 5))))))⟩) (fun _ _ _ _ _ => ⟨_, (dv 4)⟩))))⟩))))))))⟩
theorem ok__law_orders (T : Tx P K mg fa fdt cm) : FnOk P w K mg base CX0 1 (fa 26) (fdt 26) ["_law_many", "_law_modulus"] (spD K cm fn__law_orders 2) :=
  fn_dx (N := N__law_orders) (B := []) (g := s__law_orders) T.F__law_orders sc__law_orders (by decide) rfl rfl fun cdv A outer s H E hr => have sc := sc__law_orders
    ⟨_, (dss_cons (ds_set (i := 2) (do_e (de_p (dp_op op_modN pu_mod (dp_intc T.z_int dp_int) (dp 1)))) sc.nd)
      (dss_cons (ds_for (di_rng2 T.z_range (de_p dp_int) (de_p (dp_op op_add pu_addI (dp 0) dp_int))) (dg_name (i := 3) sc.nd (by exact (by decide : 3 ∉ ([] : List Nat)))) (dss_one (ds_set (i := 2) (do_e (de_p (dp_op op_modN pu_mod (dp_intc T.z_int (dp_op op_mul pu_mul (dp 2) (dp 3))) (dp 1)))) sc.nd)))
      (dss_one (ds_ret (do_mv 2)))))⟩
theorem ok__law_said (T : Tx P K mg fa fdt cm) : FnOk P w K mg base CX0 6 (fa 27) (fdt 27) ["_law_sizes", "_law_modulus"] (spD K cm fn__law_said 2) :=
  fn_dx (N := N__law_said) (B := []) (g := s__law_said) T.F__law_said sc__law_said (by decide) rfl rfl fun cdv A outer s H E hr => have sc := sc__law_said
    ⟨_, (dss_cons (ds_set (i := 2) (do_e (de_p dp_non)) sc.nd)
      (dss_cons (ds_tryN (X := (cxOf CX0 P w K mg base N__law_said "_law_said" (defScope st__law_said) (fa 27) cdv A outer s H E).nox) (ks := [31, 32, 34]) (fun pn xe => (dxs_one (dx_setE (i := 2) (xe_callT (X := (cxOf CX0 P w K mg base N__law_said "_law_said" (defScope st__law_said) (fa 27) cdv A outer s H E).nox) (pn := pn) (xe := xe) (ok_families_many (P := P) (w := w) (base := base) T) (hr.mono (by decide)) T.g_families_many T.F_families_many.kp T.b_families_many (da_cons (dv 0) (da_cons (dv 1) da_nil))) sc.nd))) (.plain (cs := [34]) ⟨rfl, by decide, Or.inl T.gX_NoSizes⟩ (fun n hn => by simp only [List.mem_cons, List.not_mem_nil, or_false] at hn; rcases hn with rfl | rfl | rfl <;> first | exact T.xm_NoNumber_NoSizes | exact T.xm_TooMany_NoSizes | exact T.xm_NoSizes_NoSizes) (fun a pn => (dss_one (ds_set (i := 2) (do_e (de_p dp_str)) sc.nd))) (.plain (cs := [31]) ⟨rfl, by decide, Or.inl T.gX_NoNumber⟩ (fun n hn => by simp only [List.mem_cons, List.not_mem_nil, or_false] at hn; rcases hn with rfl | rfl | rfl <;> first | exact T.xm_NoNumber_NoNumber | exact T.xm_TooMany_NoNumber | exact T.xm_NoSizes_NoNumber) (fun a pn => (dss_one (ds_set (i := 2) (do_e (de_p dp_str)) sc.nd))) (.fld (cs := [32]) ⟨rfl, by decide, Or.inl T.gX_TooMany⟩ (fun n hn => by simp only [List.mem_cons, List.not_mem_nil, or_false] at hn; rcases hn with rfl | rfl | rfl <;> first | exact T.xm_NoNumber_TooMany | exact T.xm_TooMany_TooMany | exact T.xm_NoSizes_TooMany) (hsf_tup (X := (cxOf CX0 P w K mg base N__law_said "_law_said" (defScope st__law_said) (fa 27) cdv A outer s H E).nox) (i := 3) (j := 2) (cs := [32]) (fun n hn => by simp only [List.mem_cons, List.not_mem_nil, or_false] at hn; subst hn <;> first | exact ⟨T.EF_TooMany.xf, T.EF_TooMany.no⟩) (fun a oe pn => (de_p dp_str)) sc.nd) rfl rfl (by decide) (by decide) (.plain (cs := [31, 32, 34]) ⟨rfl, by decide, Or.inl T.gX_DrawError⟩ (fun n hn => by simp only [List.mem_cons, List.not_mem_nil, or_false] at hn; rcases hn with rfl | rfl | rfl <;> first | exact T.xm_NoNumber_DrawError | exact T.xm_TooMany_DrawError | exact T.xm_NoSizes_DrawError) (fun a pn => (dss_one (ds_set (i := 2) (do_e (de_p dp_str)) sc.nd))) .nil)))) sc.nd)
      (dss_one (ds_ret (do_mv 2)))))⟩
theorem ok__law_half_right (T : Tx P K mg fa fdt cm) : FnOk P w K mg base CX0 7 (fa 28) (fdt 28) ["_law_pool_here", "_law_modulus"] (spD K cm fn__law_half_right 2) :=
  fn_dx (N := N__law_half_right) (B := [0]) (g := s__law_half_right) T.F__law_half_right sc__law_half_right (by decide) rfl rfl fun cdv A outer s H E hr => have sc := sc__law_half_right
    ⟨_, (dss_cons (ds_setLc (i := 2) sc.nd (sw_true rfl rfl rfl (by decide +kernel)) (di_rng1 T.z_range (de_op op_addA sr_add (de_p dp_int) (de_o (do_callB 0 (ok__law_draw (P := P) (w := w) (base := base) T) (hr.mono (by decide)) T.g__law_draw T.F__law_draw.kp T.b__law_draw (da_cons (de_p dp_int) da_nil))))) (blkOk_by (N := N__law_half_right) (sc := defScope st__law_half_right) (own := [("_law_k", 3)]) (by decide +kernel)) (fun _ _ _ _ _ => ⟨_, (dg_name (i := 3) sc.nd (by exact (by decide : 3 ∉ (compl 6 [3] : List Nat))))⟩) (fun _ _ _ _ _ => ⟨_, dts_nil⟩) (fun _ _ _ _ _ => ⟨_, (de_op op_addA sr_add (de_p dp_int) (de_o (do_callB 0 (ok__law_draw (P := P) (w := w) (base := base) T) (hr.mono (by decide)) T.g__law_draw T.F__law_draw.kp T.b__law_draw (da_cons (de_p dp_int) da_nil))))⟩))
      (dss_cons (ds_set (i := 4) (do_e (de_tupOf T.z_tuple (de_o (do_callB 0 (ok__law_mixed (P := P) (w := w) (base := base) T) (hr.mono (by decide)) T.g__law_mixed T.F__law_mixed.kp T.b__law_mixed (da_cons (de_op op_addA sr_add (dv 2) (de_o (do_lst (da_cons (de_o (do_cB (DL.cr_sumS rfl) sr_sum T.z_sum (by decide +kernel) (da_cons (dv 2) da_nil))) da_nil)))) da_nil))))) sc.nd)
      (dss_cons (ds_set (i := 5) (do_call (ok__law_orders (P := P) (w := w) (base := base) T) (hr.mono (by decide)) T.g__law_orders T.F__law_orders.kp T.b__law_orders (da_cons (de_o (do_cB (DL.cr_sumS rfl) sr_sum T.z_sum (by decide +kernel) (da_cons (dv 2) da_nil))) (da_cons (dv 1) da_nil))) sc.nd)
      (dss_cons (ds_if (dt_cmp (op_neD hr.units) pu_ne.sm (de_o (do_call (ok__law_said (P := P) (w := w) (base := base) T) (hr.mono (by decide)) T.g__law_said T.F__law_said.kp T.b__law_said (da_cons (dv 4) (da_cons (dv 1) da_nil)))) (de_p (dp_op op_modN pu_mod (dp_intc T.z_int (dp_op op_mulW pu_mulW (dp 5) (dp 5))) (dp 1))) (nomark _)) (dss_one (ds_ret (do_e (de_p dp_bl)))) dss_nil)
      (dss_one (ds_ret (do_e (de_if (dt_cmp op_lt pu_lt.sm (de_op op_mul pu_mul.sm (de_p dp_int) (de_o (do_cB (DL.cr_sumS rfl) sr_sum T.z_sum (by decide +kernel) (da_cons (dv 2) da_nil)))) (de_p dp_int) (nomark _)) (de_cmp (op_eqD hr.units) pu_eq.sm (de_o (do_call (ok__law_said (P := P) (w := w) (base := base) T) (hr.mono (by decide)) T.g__law_said T.F__law_said.kp T.b__law_said (da_cons (de_op op_addA sr_add (dv 4) (de_tup (da_cons (de_op op_addA sr_add (de_p dp_int) (de_op op_mul pu_mul.sm (de_p dp_int) (de_o (do_cB (DL.cr_sumS rfl) sr_sum T.z_sum (by decide +kernel) (da_cons (dv 2) da_nil))))) da_nil))) (da_cons (dv 1) da_nil)))) (de_p dp_int) (nomark _)) (de_p dp_bl)))))))))⟩
theorem ok__law_by_signs (T : Tx P K mg fa fdt cm) : FnOk P w K mg base CX0 1 (fa 29) (fdt 29) ["_law_sizes"] (spD K cm fn__law_by_signs 1) :=
  fn_dx (N := N__law_by_signs) (B := []) (g := s__law_by_signs) T.F__law_by_signs sc__law_by_signs (by decide) rfl rfl fun cdv A outer s H E hr => have sc := sc__law_by_signs
    ⟨_, (dss_cons (ds_set (i := 1) (do_lst (da_cons (de_p dp_int) da_nil)) sc.nd)
      (dss_cons (ds_for (di_any (dv 0)) (dg_name (i := 2) sc.nd (by exact (by decide : 2 ∉ ([] : List Nat)))) (dss_cons (ds_set (i := 3) (do_lst (da_cons (de_p dp_int) da_nil)) sc.nd)
      (dss_cons (ds_for (di_rng1 T.z_range (dv 2)) (dg_name (i := 4) sc.nd (by exact (by decide : 4 ∉ ([] : List Nat)))) (dss_one (ds_expr (de_app (i := 3) (da_cons (de_p (dp_op DL.op_fdivW pu_div (dp_op op_mul pu_mul (dp_op op_mul pu_mul (dp_ix (dx 3) (dp 4)) (dp_op op_sub pu_sub (dp 2) (dp 4))) (dp_op op_sub pu_sub (dp 2) (dp 4))) (dp_op op_add pu_addI (dp 4) dp_int))) da_nil)))))
      (dss_cons (ds_set (i := 5) (do_mul (de_o (do_lst (da_cons (de_p dp_int) da_nil))) (de_p (dp_op op_add pu_addI (dp_len T.z_len (dx 1)) (dp 2)))) sc.nd)
      (dss_cons (ds_for (di_rng1 T.z_range (de_p (dp_len T.z_len (dx 1)))) (dg_name (i := 4) sc.nd (by exact (by decide : 4 ∉ ([] : List Nat)))) (dss_one (ds_for (di_rng1 T.z_range (de_p (dp_len T.z_len (dx 3)))) (dg_name (i := 6) sc.nd (by exact (by decide : 6 ∉ ([] : List Nat)))) (dss_one (ds_si (j := 5) (de_op op_addA sr_add (de_p (dp_ix (dx 5) (dp_op op_add pu_addI (dp 4) (dp 6)))) (de_p (dp_op op_mulW pu_mulW (dp_ix (dx 1) (dp 4)) (dp_ix (dx 3) (dp 6))))) (dp_op op_add pu_addI (dp 4) (dp 6)))))))
      (dss_one (ds_set (i := 1) (do_e (dv 5)) sc.nd)))))))
      (dss_cons (ds_set (i := 7) (do_e (de_p dp_int)) sc.nd)
      (dss_cons (ds_set (i := 8) (do_e (de_p dp_int)) sc.nd)
      (dss_cons (ds_for (di_rng1 T.z_range (de_p (dp_len T.z_len (dx 1)))) (dg_name (i := 9) sc.nd (by exact (by decide : 9 ∉ ([] : List Nat)))) (dss_cons (ds_set (i := 10) (do_e (de_p (dp_op op_sub pu_sub (dp_op op_sub pu_sub (dp_len T.z_len (dx 1)) dp_int) (dp 9)))) sc.nd)
      (dss_cons (ds_set (i := 7) (do_e (de_op op_addA sr_add (dv 7) (de_op op_mulW pu_mulW.sm (de_op op_mul pu_mul.sm (de_ix (de_o (do_lst (da_cons (de_p dp_int) (da_cons (de_p (dp_neg dp_int)) da_nil)))) (de_p (dp_op op_modN pu_mod (dp_intc T.z_int (dp 10)) dp_int))) (de_p (dp_ix (dx 1) (dp 10)))) (dv 8)))) sc.nd)
      (dss_one (ds_set (i := 8) (do_e (de_p (dp_op op_mul pu_mul (dp 8) (dp_op op_add pu_addI (dp 9) dp_int)))) sc.nd)))))
      (dss_one (ds_ret (do_mv 7))))))))⟩
theorem ok__law_many_right (T : Tx P K mg fa fdt cm) : FnOk P w K mg base CX0 7 (fa 30) (fdt 30) ["_law_pool_here"] (spD K cm fn__law_many_right 1) :=
  fn_dx (N := N__law_many_right) (B := [0]) (g := s__law_many_right) T.F__law_many_right sc__law_many_right (by decide) rfl rfl fun cdv A outer s H E hr => have sc := sc__law_many_right
    ⟨_, (dss_cons (ds_set (i := 1) (do_e (de_tupOf T.z_tuple (de_o (do_lc sc.nd (di_rng1 T.z_range (de_op op_addA sr_add (de_p dp_int) (de_o (do_callB 0 (ok__law_draw (P := P) (w := w) (base := base) T) (hr.mono (by decide)) T.g__law_draw T.F__law_draw.kp T.b__law_draw (da_cons (de_p dp_int) da_nil))))) (blkOk_by (N := N__law_many_right) (sc := defScope st__law_many_right) (own := [("_law_k", 2)]) (by decide +kernel)) (fun _ _ _ _ _ => ⟨_, (dg_name (i := 2) sc.nd (by exact (by decide : 2 ∉ (compl 5 [2] : List Nat))))⟩) (fun _ _ _ _ _ => ⟨_, dts_nil⟩) (fun _ _ _ _ _ => ⟨_, (de_op op_addA sr_add (de_p dp_int) (de_o (do_callB 0 (ok__law_draw (P := P) (w := w) (base := base) T) (hr.mono (by decide)) T.g__law_draw T.F__law_draw.kp T.b__law_draw (da_cons (de_p dp_int) da_nil))))⟩))))) sc.nd)
      (dss_cons (ds_set (i := 3) (do_e (de_op op_addA sr_add (de_p dp_int) (de_o (do_callB 0 (ok__law_draw (P := P) (w := w) (base := base) T) (hr.mono (by decide)) T.g__law_draw T.F__law_draw.kp T.b__law_draw (da_cons (de_p (dp_op op_pow pu_pow dp_int dp_int)) da_nil))))) sc.nd)
      (dss_cons (ds_if (dt_cmp (op_neD hr.units) pu_ne.sm (de_o (do_call (ok__law_said (P := P) (w := w) (base := base) T) (hr.mono (by decide)) T.g__law_said T.F__law_said.kp T.b__law_said (da_cons (dv 1) (da_cons (dv 3) da_nil)))) (de_op op_modN pu_mod.sm (de_intc T.z_int (de_o (do_call (ok__law_by_signs (P := P) (w := w) (base := base) T) (hr.mono (by decide)) T.g__law_by_signs T.F__law_by_signs.kp T.b__law_by_signs (da_cons (dv 1) da_nil)))) (dv 3)) (nomark _)) (dss_one (ds_ret (do_e (de_p dp_bl)))) dss_nil)
      (dss_cons (ds_set (i := 4) (do_e (de_tupOf T.z_tuple (de_o (do_lc sc.nd (di_rng1 T.z_range (de_p dp_int)) (blkOk_by (N := N__law_many_right) (sc := defScope st__law_many_right) (own := [("_law_k", 2)]) (by decide +kernel)) (fun _ _ _ _ _ => ⟨_, (dg_name (i := 2) sc.nd (by exact (by decide : 2 ∉ (compl 5 [2] : List Nat))))⟩) (fun _ _ _ _ _ => ⟨_, dts_nil⟩) (fun _ _ _ _ _ => ⟨_, (de_op op_addA sr_add (de_p dp_int) (de_o (do_callB 0 (ok__law_draw (P := P) (w := w) (base := base) T) (hr.mono (by decide)) T.g__law_draw T.F__law_draw.kp T.b__law_draw (da_cons (de_p dp_int) da_nil))))⟩))))) sc.nd)
      (dss_one (ds_ret (do_e (de_cmp (op_eqD hr.units) pu_eq.sm (de_o (do_call (okN_kinds_many (P := P) (w := w) (base := base) T) (hr.mono (by decide)) T.g_kinds_many T.F_kinds_many.kp T.b_kinds_many (da_cons (de_o (do_call (okN_families (P := P) (w := w) (base := base) T) (hr.mono (by decide)) T.g_families T.F_families.kp T.b_families (da_cons (dv 4) da_nil))) (da_cons (dv 3) da_nil)))) (de_o (do_call (ok__law_said (P := P) (w := w) (base := base) T) (hr.mono (by decide)) T.g__law_said T.F__law_said.kp T.b__law_said (da_cons (dv 4) (da_cons (dv 3) da_nil)))) (nomark _)))))))))⟩
theorem ok_law (T : Tx P K mg fa fdt cm) : FnOk P w K mg base CX0 8 (fa 31) (fdt 31) ["_law_script"] (spD K cm fn_law 1) :=
  fn_dx (N := N_law) (B := []) (g := s_law) T.F_law sc_law (by decide) rfl rfl fun cdv A outer s H E hr => have sc := sc_law
    ⟨_, (dss_cons (ds_set (i := 1) (do_call (ok__law_pool (P := P) (w := w) (base := base) T) (hr.mono (by decide)) T.g__law_pool T.F__law_pool.kp T.b__law_pool (da_cons (dv 0) da_nil)) sc.nd)
      (dss_cons (ds_if (dt_w (dw_and (dt_eqA (ok_Kinds___eq__ (P := P) (w := w) (base := base) T) (hr.mono (by decide)) T.b_Kinds___eq__ T.eqF T.eqI T.nfF (de_o (do_callB 1 (ok__law_draw (P := P) (w := w) (base := base) T) (hr.mono (by decide)) T.g__law_draw T.F__law_draw.kp T.b__law_draw (da_cons (de_p dp_int) da_nil))) (de_p dp_int)) (dw_and1 (dt_not (dt_val (de_o (do_callB 1 (ok__law_many_right (P := P) (w := w) (base := base) T) (hr.mono (by decide)) T.g__law_many_right T.F__law_many_right.kp T.b__law_many_right da_nil))))))) (dss_one (ds_ret (do_e (de_p dp_bl)))) dss_nil)
      (dss_cons (ds_for (di_rng1 T.z_range (de_p dp_int)) (dg_name (i := 2) sc.nd (by exact (by decide : 2 ∉ ([] : List Nat)))) (dss_cons (ds_set (i := 3) (do_e (de_tupOf T.z_tuple (de_o (do_lc sc.nd (di_rng1 T.z_range (de_op op_addA sr_add (de_p dp_int) (de_o (do_callB 1 (ok__law_draw (P := P) (w := w) (base := base) T) (hr.mono (by decide)) T.g__law_draw T.F__law_draw.kp T.b__law_draw (da_cons (de_p dp_int) da_nil))))) (blkOk_by (N := N_law) (sc := defScope st_law) (own := [("_law_k", 4)]) (by decide +kernel)) (fun _ _ _ _ _ => ⟨_, (dg_name (i := 4) sc.nd (by exact (by decide : 4 ∉ (compl 12 [4] : List Nat))))⟩) (fun _ _ _ _ _ => ⟨_, dts_nil⟩) (fun _ _ _ _ _ => ⟨_, (de_op op_addA sr_add (de_p dp_int) (de_o (do_callB 1 (ok__law_draw (P := P) (w := w) (base := base) T) (hr.mono (by decide)) T.g__law_draw T.F__law_draw.kp T.b__law_draw (da_cons (de_p dp_int) da_nil))))⟩))))) sc.nd)
      (dss_cons (ds_if (dt_eqA (ok_Kinds___eq__ (P := P) (w := w) (base := base) T) (hr.mono (by decide)) T.b_Kinds___eq__ T.eqF T.eqI T.nfF (de_o (do_callB 1 (ok__law_draw (P := P) (w := w) (base := base) T) (hr.mono (by decide)) T.g__law_draw T.F__law_draw.kp T.b__law_draw (da_cons (de_p dp_int) da_nil))) (de_p dp_int)) (dss_one (ds_set (i := 3) (do_e (de_mulT (de_tup (da_cons (de_p dp_int) da_nil)) (de_op op_addA sr_add (de_p dp_int) (de_o (do_callB 1 (ok__law_draw (P := P) (w := w) (base := base) T) (hr.mono (by decide)) T.g__law_draw T.F__law_draw.kp T.b__law_draw (da_cons (de_p dp_int) da_nil)))))) sc.nd)) dss_nil)
      (dss_one (ds_if (dt_cmp op_lt pu_lt.sm (de_o (do_cB (DL.cr_sumS rfl) sr_sum T.z_sum (by decide +kernel) (da_cons (dv 3) da_nil))) (de_p dp_int) (nomark _)) (dss_cons (ds_set (i := 5) (do_e (de_tupOf T.z_tuple (de_o (do_lc sc.nd (di_rng1 T.z_range (de_p (dp_len T.z_len (dx 3)))) (blkOk_by (N := N_law) (sc := defScope st_law) (own := [("_law_k", 4)]) (by decide +kernel)) (fun _ _ _ _ _ => ⟨_, (dg_name (i := 4) sc.nd (by exact (by decide : 4 ∉ (compl 12 [4] : List Nat))))⟩) (fun _ _ _ _ _ => ⟨_, dts_nil⟩) (fun _ _ _ _ _ => ⟨_, (de_tupOf T.z_tuple (de_o (do_lc sc.nd (di_rng1 T.z_range (de_p (dp_len T.z_len (dx 3)))) (blkOk_by (own := [("_law_other", 6)]) (by rfl)) (fun _ _ _ _ _ => ⟨_, (dg_name (i := 6) sc.nd (by exact (by decide : 6 ∉ (compl 12 [6] : List Nat))))⟩) (fun _ _ _ _ _ => ⟨_, (dts_one (dt_neA (ok_Kinds___eq__ (P := P) (w := w) (base := base) T) (hr.mono (by decide)) T.b_Kinds___eq__ T.eqF T.neF T.eqI T.nfF (dv 6) (dv 4)))⟩) (fun _ _ _ _ _ => ⟨_, (dv 6)⟩))))⟩))))) sc.nd)
      (dss_cons (ds_set (i := 7) (do_e (de_len T.z_len (de_o (do_call (ok__law_all (P := P) (w := w) (base := base) T) (hr.mono (by decide)) T.g__law_all T.F__law_all.kp T.b__law_all (da_cons (de_o (do_call (ok__law_kind_rows (P := P) (w := w) (base := base) T) (hr.mono (by decide)) T.g__law_kind_rows T.F__law_kind_rows.kp T.b__law_kind_rows (da_cons (dv 3) (da_cons (dv 3) (da_cons (dv 5) da_nil))))) da_nil))))) sc.nd)
      (dss_cons (ds_set (i := 8) (do_e (de_ix (de_o (do_lst (da_cons (de_p dp_int) (da_cons (de_p dp_int) (da_cons (de_p (dp_op op_pow pu_pow dp_int dp_int)) (da_cons (de_op op_addA sr_add (de_p dp_int) (de_o (do_callB 1 (ok__law_draw (P := P) (w := w) (base := base) T) (hr.mono (by decide)) T.g__law_draw T.F__law_draw.kp T.b__law_draw (da_cons (de_p dp_int) da_nil)))) da_nil)))))) (de_o (do_callB 1 (ok__law_draw (P := P) (w := w) (base := base) T) (hr.mono (by decide)) T.g__law_draw T.F__law_draw.kp T.b__law_draw (da_cons (de_p dp_int) da_nil))))) sc.nd)
      (dss_cons (ds_set (i := 9) (do_call (ok__law_said (P := P) (w := w) (base := base) T) (hr.mono (by decide)) T.g__law_said T.F__law_said.kp T.b__law_said (da_cons (dv 3) (da_cons (dv 8) da_nil))) sc.nd)
      (dss_one (ds_if (dt_w (dw_or (dt_neA (ok_Kinds___eq__ (P := P) (w := w) (base := base) T) (hr.mono (by decide)) T.b_Kinds___eq__ T.eqF T.neF T.eqI T.nfF (dv 9) (de_p (dp_op op_modN pu_mod (dp_intc T.z_int (dp 7)) (dp 8)))) (dw_or1 (dt_val (de_isi (T := "bool") (tab := tabT) T.z_isinstance T.z_bool (by decide +kernel) T.isiT_bool (dv 9)))))) (dss_one (ds_ret (do_e (de_p dp_bl)))) dss_nil)))))) dss_nil)))))
      (dss_cons (ds_if (dt_w (dw_and (dt_eqA (ok_Kinds___eq__ (P := P) (w := w) (base := base) T) (hr.mono (by decide)) T.b_Kinds___eq__ T.eqF T.eqI T.nfF (de_o (do_callB 1 (ok__law_draw (P := P) (w := w) (base := base) T) (hr.mono (by decide)) T.g__law_draw T.F__law_draw.kp T.b__law_draw (da_cons (de_p dp_int) da_nil))) (de_p dp_int)) (dw_and1 (dt_not (dt_val (de_o (do_callB 1 (ok__law_half_right (P := P) (w := w) (base := base) T) (hr.mono (by decide)) T.g__law_half_right T.F__law_half_right.kp T.b__law_half_right (da_cons (de_op op_addA sr_add (de_p dp_int) (de_o (do_callB 1 (ok__law_draw (P := P) (w := w) (base := base) T) (hr.mono (by decide)) T.g__law_draw T.F__law_draw.kp T.b__law_draw (da_cons (de_p (dp_op op_pow pu_pow dp_int dp_int)) da_nil)))) da_nil)))))))) (dss_one (ds_ret (do_e (de_p dp_bl)))) dss_nil)
      (dss_cons (ds_set (i := 10) (do_e (de_ix (de_o (do_lst (da_cons (de_p dp_int) (da_cons (de_p (dp_neg dp_int)) (da_cons (de_p (dp_op op_add pu_addI (dp_op op_pow pu_pow dp_int dp_int) dp_int)) (da_cons (de_p dp_non) (da_cons (de_p dp_bl) (da_cons (de_p dp_str) (da_cons (de_tup (da_cons (de_p dp_int) da_nil)) (da_cons (de_o (do_call0 (ok__law_deep (P := P) (w := w) (base := base) T) (hr.mono (by decide)) T.g__law_deep T.F__law_deep.kp T.b__law_deep)) da_nil)))))))))) (de_o (do_callB 1 (ok__law_draw (P := P) (w := w) (base := base) T) (hr.mono (by decide)) T.g__law_draw T.F__law_draw.kp T.b__law_draw (da_cons (de_p dp_int) da_nil))))) sc.nd)
      (dss_cons (ds_set (i := 11) (do_e (de_ix (de_o (do_lst (da_cons (de_p dp_non) (da_cons (de_tup da_nil) (da_cons (de_o (do_lst (da_cons (de_p dp_int) (da_cons (de_p dp_int) da_nil)))) (da_cons (de_tup (da_cons (de_p dp_int) (da_cons (de_p dp_int) da_nil))) (da_cons (de_tup (da_cons (de_p dp_bl) (da_cons (de_p dp_int) da_nil))) (da_cons (de_mulT (de_tup (da_cons (de_p dp_int) da_nil)) (de_p dp_int)) (da_cons (de_p dp_int) (da_cons (de_p dp_str) (da_cons (de_o (do_call0 (ok__law_deep (P := P) (w := w) (base := base) T) (hr.mono (by decide)) T.g__law_deep T.F__law_deep.kp T.b__law_deep)) da_nil))))))))))) (de_o (do_callB 1 (ok__law_draw (P := P) (w := w) (base := base) T) (hr.mono (by decide)) T.g__law_draw T.F__law_draw.kp T.b__law_draw (da_cons (de_p dp_int) da_nil))))) sc.nd)
      (dss_cons (ds_if (dt_w (dw_or (dt_neA (ok_Kinds___eq__ (P := P) (w := w) (base := base) T) (hr.mono (by decide)) T.b_Kinds___eq__ T.eqF T.neF T.eqI T.nfF (de_o (do_call (ok__law_said (P := P) (w := w) (base := base) T) (hr.mono (by decide)) T.g__law_said T.F__law_said.kp T.b__law_said (da_cons (dv 11) (da_cons (dv 10) da_nil)))) (de_p dp_str)) (dw_or1 (dt_neA (ok_Kinds___eq__ (P := P) (w := w) (base := base) T) (hr.mono (by decide)) T.b_Kinds___eq__ T.eqF T.neF T.eqI T.nfF (de_o (do_call (ok__law_said (P := P) (w := w) (base := base) T) (hr.mono (by decide)) T.g__law_said T.F__law_said.kp T.b__law_said (da_cons (de_tup (da_cons (de_p dp_int) (da_cons (de_p dp_int) da_nil))) (da_cons (dv 10) da_nil)))) (de_p dp_str))))) (dss_one (ds_ret (do_e (de_p dp_bl)))) dss_nil)
      (dss_one (ds_ret (do_e (de_and (de_eqA (ok_Kinds___eq__ (P := P) (w := w) (base := base) T) (hr.mono (by decide)) T.b_Kinds___eq__ T.eqF T.eqI T.nfF (de_o (do_call (ok__law_said (P := P) (w := w) (base := base) T) (hr.mono (by decide)) T.g__law_said T.F__law_said.kp T.b__law_said (da_cons (de_tup (da_cons (de_p dp_int) (da_cons (de_p dp_int) da_nil))) (da_cons (de_p dp_int) da_nil)))) (de_tup (da_cons (de_p dp_str) (da_cons (de_p dp_int) da_nil)))) (de_one (de_eqA (ok_Kinds___eq__ (P := P) (w := w) (base := base) T) (hr.mono (by decide)) T.b_Kinds___eq__ T.eqF T.eqI T.nfF (de_o (do_call (ok__law_said (P := P) (w := w) (base := base) T) (hr.mono (by decide)) T.g__law_said T.F__law_said.kp T.b__law_said (da_cons (de_tup (da_cons (de_p dp_int) da_nil)) (da_cons (de_p dp_int) da_nil)))) (de_p dp_int))))))))))))))⟩
end
end k83

namespace k83
open PySem PySem.Spec PyProof.Rows L2 DL
/-! ### the law's own head -/
theorem head {l : PySem.W.OpenLaw} {w : World} {K : PySem.W.Frag} {h : Heap} {mg : Str → Option Value} {fL f31 : Addr} (X : K.In h) (G : h.Ns mainGlobals mg) (hfa : mg "law" = some (.ref fL))
    {C9 : Addr}
    {C30 C31 C32 C34 : Addr}
    {f2 : Addr}
    {od2 an2 : Option Addr} {sl2 : Array (Option Value)} {oc2 kV2 dc2 pm2 cd2 ct2 : Value}
    {f3 : Addr}
    {od3 an3 : Option Addr} {sl3 : Array (Option Value)} {oc3 kV3 dc3 pm3 cd3 ct3 : Value}
    {f4 : Addr}
    {od4 an4 : Option Addr} {sl4 : Array (Option Value)} {oc4 kV4 dc4 pm4 cd4 ct4 : Value}
    {f5 : Addr}
    {od5 an5 : Option Addr} {sl5 : Array (Option Value)} {oc5 kV5 dc5 pm5 cd5 ct5 : Value}
    {f6 : Addr}
    {od6 an6 : Option Addr} {sl6 : Array (Option Value)} {oc6 kV6 dc6 pm6 cd6 ct6 : Value}
    {f7 : Addr}
    {od7 an7 : Option Addr} {sl7 : Array (Option Value)} {oc7 kV7 dc7 pm7 cd7 ct7 : Value}
    {f8 : Addr}
    {od8 an8 : Option Addr} {sl8 : Array (Option Value)} {oc8 kV8 dc8 pm8 cd8 ct8 : Value}
    {f9 : Addr}
    {od9 an9 : Option Addr} {sl9 : Array (Option Value)} {oc9 kV9 dc9 pm9 cd9 ct9 : Value}
    {f10 : Addr}
    {od10 an10 : Option Addr} {sl10 : Array (Option Value)} {oc10 kV10 dc10 pm10 cd10 ct10 : Value}
    {f11 : Addr}
    {od11 an11 : Option Addr} {sl11 : Array (Option Value)} {oc11 kV11 dc11 pm11 cd11 ct11 : Value}
    {f12 : Addr}
    {od12 an12 : Option Addr} {sl12 : Array (Option Value)} {oc12 kV12 dc12 pm12 cd12 ct12 : Value}
    {f13 : Addr}
    {od13 an13 : Option Addr} {sl13 : Array (Option Value)} {oc13 kV13 dc13 pm13 cd13 ct13 : Value}
    {f14 : Addr}
    {od14 an14 : Option Addr} {sl14 : Array (Option Value)} {oc14 kV14 dc14 pm14 cd14 ct14 : Value}
    {f15 : Addr}
    {od15 an15 : Option Addr} {sl15 : Array (Option Value)} {oc15 kV15 dc15 pm15 cd15 ct15 : Value}
    {f16 : Addr}
    {od16 an16 : Option Addr} {sl16 : Array (Option Value)} {oc16 kV16 dc16 pm16 cd16 ct16 : Value}
    {f17 : Addr}
    {od17 an17 : Option Addr} {sl17 : Array (Option Value)} {oc17 kV17 dc17 pm17 cd17 ct17 : Value}
    {f18 : Addr}
    {od18 an18 : Option Addr} {sl18 : Array (Option Value)} {oc18 kV18 dc18 pm18 cd18 ct18 : Value}
    {f19 : Addr}
    {od19 an19 : Option Addr} {sl19 : Array (Option Value)} {oc19 kV19 dc19 pm19 cd19 ct19 : Value}
    {f20 : Addr}
    {od20 an20 : Option Addr} {sl20 : Array (Option Value)} {oc20 kV20 dc20 pm20 cd20 ct20 : Value}
    {f21 : Addr}
    {od21 an21 : Option Addr} {sl21 : Array (Option Value)} {oc21 kV21 dc21 pm21 cd21 ct21 : Value}
    {f22 : Addr}
    {od22 an22 : Option Addr} {sl22 : Array (Option Value)} {oc22 kV22 dc22 pm22 cd22 ct22 : Value}
    {f23 : Addr}
    {od23 an23 : Option Addr} {sl23 : Array (Option Value)} {oc23 kV23 dc23 pm23 cd23 ct23 : Value}
    {f24 : Addr}
    {od24 an24 : Option Addr} {sl24 : Array (Option Value)} {oc24 kV24 dc24 pm24 cd24 ct24 : Value}
    {f25 : Addr}
    {od25 an25 : Option Addr} {sl25 : Array (Option Value)} {oc25 kV25 dc25 pm25 cd25 ct25 : Value}
    {f26 : Addr}
    {od26 an26 : Option Addr} {sl26 : Array (Option Value)} {oc26 kV26 dc26 pm26 cd26 ct26 : Value}
    {f27 : Addr}
    {od27 an27 : Option Addr} {sl27 : Array (Option Value)} {oc27 kV27 dc27 pm27 cd27 ct27 : Value}
    {f28 : Addr}
    {od28 an28 : Option Addr} {sl28 : Array (Option Value)} {oc28 kV28 dc28 pm28 cd28 ct28 : Value}
    {f29 : Addr}
    {od29 an29 : Option Addr} {sl29 : Array (Option Value)} {oc29 kV29 dc29 pm29 cd29 ct29 : Value}
    {f30 : Addr}
    {od30 an30 : Option Addr} {sl30 : Array (Option Value)} {oc30 kV30 dc30 pm30 cd30 ct30 : Value}
    {od31 an31 : Option Addr} {sl31 : Array (Option Value)} {oc31 kV31 dc31 pm31 cd31 ct31 : Value}
    {t_MOST_COUNTED : Tok}
    {t_MOST_FAMILIES : Tok}
    {t_MOST_KINDS : Tok}
    {t_MOST_OF_KIND : Tok}
    {t_MOST_STATES : Tok}
    {fe32 cce32 cae32 Ne32 : Addr} {oce32 kVe32 dce32 pme32 cte32 ode32 oee32 : Value} {oae32 ane32 obe32 ooe32 dde32 : Option Addr} {sae32 sbe32 sce32 : Array (Option Value)} {vse32 : Array Value} {nme32 qne32 : Str} {bse32 bme32 sube32 : List Value} {sne32 : List Str} {abe32 : Bool} {cole32 : Option Bool} {kae32 kbe32 kce32 kde32 kee32 : Option Value}
    (aC30 : PySem.W.nsIn K mainGlobals "DrawError" = some (some (.ref C30)))
    (aC31 : PySem.W.nsIn K mainGlobals "NoNumber" = some (some (.ref C31)))
    (aC32 : PySem.W.nsIn K mainGlobals "TooMany" = some (some (.ref C32)))
    (aC34 : PySem.W.nsIn K mainGlobals "NoSizes" = some (some (.ref C34)))
    (aC9 : PySem.W.nsIn K mainGlobals "Kinds" = some (some (.ref C9)))
    (a2 : PySem.W.nsIn K mainGlobals "is_integer" = some (some (.ref f2)))
    (l2 : K.lookup f2 = some ⟨oc2, od2, .func (PySem.W.fnOf "is_integer" "is_integer" (defArgs st_is_integer) (defBody st_is_integer) (defScope st_is_integer) .none kV2 dc2 pm2 an2 cd2 ct2), sl2⟩)
    (c2 : PySem.W.codeIn K cd2 "is_integer" = true)
    (k2 : PySem.W.keepIn K (.ref f2) = true)
    (a3 : PySem.W.nsIn K mainGlobals "is_within" = some (some (.ref f3)))
    (l3 : K.lookup f3 = some ⟨oc3, od3, .func (PySem.W.fnOf "is_within" "is_within" (defArgs st_is_within) (defBody st_is_within) (defScope st_is_within) .none kV3 dc3 pm3 an3 cd3 ct3), sl3⟩)
    (c3 : PySem.W.codeIn K cd3 "is_within" = true)
    (k3 : PySem.W.keepIn K (.ref f3) = true)
    (a4 : PySem.W.nsIn K mainGlobals "are_ascending" = some (some (.ref f4)))
    (l4 : K.lookup f4 = some ⟨oc4, od4, .func (PySem.W.fnOf "are_ascending" "are_ascending" (defArgs st_are_ascending) (defBody st_are_ascending) (defScope st_are_ascending) .none kV4 dc4 pm4 an4 cd4 ct4), sl4⟩)
    (c4 : PySem.W.codeIn K cd4 "are_ascending" = true)
    (k4 : PySem.W.keepIn K (.ref f4) = true)
    (a5 : PySem.W.nsIn K mainGlobals "is_lot_of" = some (some (.ref f5)))
    (l5 : K.lookup f5 = some ⟨oc5, od5, .func (PySem.W.fnOf "is_lot_of" "is_lot_of" (defArgs st_is_lot_of) (defBody st_is_lot_of) (defScope st_is_lot_of) .none kV5 dc5 pm5 an5 cd5 ct5), sl5⟩)
    (c5 : PySem.W.codeIn K cd5 "is_lot_of" = true)
    (k5 : PySem.W.keepIn K (.ref f5) = true)
    (a6 : PySem.W.nsIn K mainGlobals "check_number" = some (some (.ref f6)))
    (l6 : K.lookup f6 = some ⟨oc6, od6, .func (PySem.W.fnOf "check_number" "check_number" (defArgs st_check_number) (defBody st_check_number) (defScope st_check_number) .none kV6 dc6 pm6 an6 cd6 ct6), sl6⟩)
    (c6 : PySem.W.codeIn K cd6 "check_number" = true)
    (k6 : PySem.W.keepIn K (.ref f6) = true)
    (a7 : PySem.W.nsIn K mainGlobals "check_many" = some (some (.ref f7)))
    (l7 : K.lookup f7 = some ⟨oc7, od7, .func (PySem.W.fnOf "check_many" "check_many" (defArgs st_check_many) (defBody st_check_many) (defScope st_check_many) .none kV7 dc7 pm7 an7 cd7 ct7), sl7⟩)
    (c7 : PySem.W.codeIn K cd7 "check_many" = true)
    (k7 : PySem.W.keepIn K (.ref f7) = true)
    (a8 : PySem.W.nsIn K mainGlobals "are_counts" = some (some (.ref f8)))
    (l8 : K.lookup f8 = some ⟨oc8, od8, .func (PySem.W.fnOf "are_counts" "are_counts" (defArgs st_are_counts) (defBody st_are_counts) (defScope st_are_counts) .none kV8 dc8 pm8 an8 cd8 ct8), sl8⟩)
    (c8 : PySem.W.codeIn K cd8 "are_counts" = true)
    (k8 : PySem.W.keepIn K (.ref f8) = true)
    (a9 : PySem.W.findIn K (.ref C9) "__init__" = some (some (.ref f9)))
    (i9 : PySem.W.isFn K (.ref f9) = true)
    (l9 : K.lookup f9 = some ⟨oc9, od9, .func (PySem.W.fnOf "__init__" "Kinds.__init__" (defArgs st_Kinds___init__) (defBody st_Kinds___init__) (defScope st_Kinds___init__) .none kV9 dc9 pm9 an9 cd9 ct9), sl9⟩)
    (c9 : PySem.W.codeIn K cd9 "Kinds.__init__" = true)
    (k9 : PySem.W.keepIn K (.ref f9) = true)
    (a10 : PySem.W.findIn K (.ref C9) "__eq__" = some (some (.ref f10)))
    (i10 : PySem.W.isFn K (.ref f10) = true)
    (l10 : K.lookup f10 = some ⟨oc10, od10, .func (PySem.W.fnOf "__eq__" "Kinds.__eq__" (defArgs st_Kinds___eq__) (defBody st_Kinds___eq__) (defScope st_Kinds___eq__) .none kV10 dc10 pm10 an10 cd10 ct10), sl10⟩)
    (c10 : PySem.W.codeIn K cd10 "Kinds.__eq__" = true)
    (k10 : PySem.W.keepIn K (.ref f10) = true)
    (a11 : PySem.W.nsIn K mainGlobals "spread_out" = some (some (.ref f11)))
    (l11 : K.lookup f11 = some ⟨oc11, od11, .func (PySem.W.fnOf "spread_out" "spread_out" (defArgs st_spread_out) (defBody st_spread_out) (defScope st_spread_out) .none kV11 dc11 pm11 an11 cd11 ct11), sl11⟩)
    (c11 : PySem.W.codeIn K cd11 "spread_out" = true)
    (k11 : PySem.W.keepIn K (.ref f11) = true)
    (a12 : PySem.W.nsIn K mainGlobals "one_less" = some (some (.ref f12)))
    (l12 : K.lookup f12 = some ⟨oc12, od12, .func (PySem.W.fnOf "one_less" "one_less" (defArgs st_one_less) (defBody st_one_less) (defScope st_one_less) .none kV12 dc12 pm12 an12 cd12 ct12), sl12⟩)
    (c12 : PySem.W.codeIn K cd12 "one_less" = true)
    (k12 : PySem.W.keepIn K (.ref f12) = true)
    (a13 : PySem.W.nsIn K mainGlobals "after_person" = some (some (.ref f13)))
    (l13 : K.lookup f13 = some ⟨oc13, od13, .func (PySem.W.fnOf "after_person" "after_person" (defArgs st_after_person) (defBody st_after_person) (defScope st_after_person) .none kV13 dc13 pm13 an13 cd13 ct13), sl13⟩)
    (c13 : PySem.W.codeIn K cd13 "after_person" = true)
    (k13 : PySem.W.keepIn K (.ref f13) = true)
    (a14 : PySem.W.nsIn K mainGlobals "kinds_many" = some (some (.ref f14)))
    (l14 : K.lookup f14 = some ⟨oc14, od14, .func (PySem.W.fnOf "kinds_many" "kinds_many" (defArgs st_kinds_many) (defBody st_kinds_many) (defScope st_kinds_many) .none kV14 dc14 pm14 an14 cd14 ct14), sl14⟩)
    (c14 : PySem.W.codeIn K cd14 "kinds_many" = true)
    (k14 : PySem.W.keepIn K (.ref f14) = true)
    (a15 : PySem.W.nsIn K mainGlobals "check_sizes" = some (some (.ref f15)))
    (l15 : K.lookup f15 = some ⟨oc15, od15, .func (PySem.W.fnOf "check_sizes" "check_sizes" (defArgs st_check_sizes) (defBody st_check_sizes) (defScope st_check_sizes) .none kV15 dc15 pm15 an15 cd15 ct15), sl15⟩)
    (c15 : PySem.W.codeIn K cd15 "check_sizes" = true)
    (k15 : PySem.W.keepIn K (.ref f15) = true)
    (a16 : PySem.W.nsIn K mainGlobals "families" = some (some (.ref f16)))
    (l16 : K.lookup f16 = some ⟨oc16, od16, .func (PySem.W.fnOf "families" "families" (defArgs st_families) (defBody st_families) (defScope st_families) .none kV16 dc16 pm16 an16 cd16 ct16), sl16⟩)
    (c16 : PySem.W.codeIn K cd16 "families" = true)
    (k16 : PySem.W.keepIn K (.ref f16) = true)
    (a17 : PySem.W.nsIn K mainGlobals "own_names" = some (some (.ref f17)))
    (l17 : K.lookup f17 = some ⟨oc17, od17, .func (PySem.W.fnOf "own_names" "own_names" (defArgs st_own_names) (defBody st_own_names) (defScope st_own_names) .none kV17 dc17 pm17 an17 cd17 ct17), sl17⟩)
    (c17 : PySem.W.codeIn K cd17 "own_names" = true)
    (k17 : PySem.W.keepIn K (.ref f17) = true)
    (a18 : PySem.W.nsIn K mainGlobals "families_many" = some (some (.ref f18)))
    (l18 : K.lookup f18 = some ⟨oc18, od18, .func (PySem.W.fnOf "families_many" "families_many" (defArgs st_families_many) (defBody st_families_many) (defScope st_families_many) .none kV18 dc18 pm18 an18 cd18 ct18), sl18⟩)
    (c18 : PySem.W.codeIn K cd18 "families_many" = true)
    (k18 : PySem.W.keepIn K (.ref f18) = true)
    (a19 : PySem.W.nsIn K mainGlobals "_law_pool" = some (some (.ref f19)))
    (l19 : K.lookup f19 = some ⟨oc19, od19, .func (PySem.W.fnOf "_law_pool" "_law_pool" (defArgs st__law_pool) (defBody st__law_pool) (defScope st__law_pool) .none kV19 dc19 pm19 an19 cd19 ct19), sl19⟩)
    (c19 : PySem.W.codeIn K cd19 "_law_pool" = true)
    (k19 : PySem.W.keepIn K (.ref f19) = true)
    (a20 : PySem.W.nsIn K mainGlobals "_law_draw" = some (some (.ref f20)))
    (l20 : K.lookup f20 = some ⟨oc20, od20, .func (PySem.W.fnOf "_law_draw" "_law_draw" (defArgs st__law_draw) (defBody st__law_draw) (defScope st__law_draw) .none kV20 dc20 pm20 an20 cd20 ct20), sl20⟩)
    (c20 : PySem.W.codeIn K cd20 "_law_draw" = true)
    (k20 : PySem.W.keepIn K (.ref f20) = true)
    (a21 : PySem.W.nsIn K mainGlobals "_law_mixed" = some (some (.ref f21)))
    (l21 : K.lookup f21 = some ⟨oc21, od21, .func (PySem.W.fnOf "_law_mixed" "_law_mixed" (defArgs st__law_mixed) (defBody st__law_mixed) (defScope st__law_mixed) .none kV21 dc21 pm21 an21 cd21 ct21), sl21⟩)
    (c21 : PySem.W.codeIn K cd21 "_law_mixed" = true)
    (k21 : PySem.W.keepIn K (.ref f21) = true)
    (a22 : PySem.W.nsIn K mainGlobals "_law_all" = some (some (.ref f22)))
    (l22 : K.lookup f22 = some ⟨oc22, od22, .func (PySem.W.fnOf "_law_all" "_law_all" (defArgs st__law_all) (defBody st__law_all) (defScope st__law_all) .none kV22 dc22 pm22 an22 cd22 ct22), sl22⟩)
    (c22 : PySem.W.codeIn K cd22 "_law_all" = true)
    (k22 : PySem.W.keepIn K (.ref f22) = true)
    (a23 : PySem.W.nsIn K mainGlobals "_law_deep" = some (some (.ref f23)))
    (l23 : K.lookup f23 = some ⟨oc23, od23, .func (PySem.W.fnOf "_law_deep" "_law_deep" (defArgs st__law_deep) (defBody st__law_deep) (defScope st__law_deep) .none kV23 dc23 pm23 an23 cd23 ct23), sl23⟩)
    (c23 : PySem.W.codeIn K cd23 "_law_deep" = true)
    (k23 : PySem.W.keepIn K (.ref f23) = true)
    (a24 : PySem.W.nsIn K mainGlobals "_law_wide" = some (some (.ref f24)))
    (l24 : K.lookup f24 = some ⟨oc24, od24, .func (PySem.W.fnOf "_law_wide" "_law_wide" (defArgs st__law_wide) (defBody st__law_wide) (defScope st__law_wide) .none kV24 dc24 pm24 an24 cd24 ct24), sl24⟩)
    (c24 : PySem.W.codeIn K cd24 "_law_wide" = true)
    (k24 : PySem.W.keepIn K (.ref f24) = true)
    (a25 : PySem.W.nsIn K mainGlobals "_law_kind_rows" = some (some (.ref f25)))
    (l25 : K.lookup f25 = some ⟨oc25, od25, .func (PySem.W.fnOf "_law_kind_rows" "_law_kind_rows" (defArgs st__law_kind_rows) (defBody st__law_kind_rows) (defScope st__law_kind_rows) .none kV25 dc25 pm25 an25 cd25 ct25), sl25⟩)
    (c25 : PySem.W.codeIn K cd25 "_law_kind_rows" = true)
    (k25 : PySem.W.keepIn K (.ref f25) = true)
    (a26 : PySem.W.nsIn K mainGlobals "_law_orders" = some (some (.ref f26)))
    (l26 : K.lookup f26 = some ⟨oc26, od26, .func (PySem.W.fnOf "_law_orders" "_law_orders" (defArgs st__law_orders) (defBody st__law_orders) (defScope st__law_orders) .none kV26 dc26 pm26 an26 cd26 ct26), sl26⟩)
    (c26 : PySem.W.codeIn K cd26 "_law_orders" = true)
    (k26 : PySem.W.keepIn K (.ref f26) = true)
    (a27 : PySem.W.nsIn K mainGlobals "_law_said" = some (some (.ref f27)))
    (l27 : K.lookup f27 = some ⟨oc27, od27, .func (PySem.W.fnOf "_law_said" "_law_said" (defArgs st__law_said) (defBody st__law_said) (defScope st__law_said) .none kV27 dc27 pm27 an27 cd27 ct27), sl27⟩)
    (c27 : PySem.W.codeIn K cd27 "_law_said" = true)
    (k27 : PySem.W.keepIn K (.ref f27) = true)
    (a28 : PySem.W.nsIn K mainGlobals "_law_half_right" = some (some (.ref f28)))
    (l28 : K.lookup f28 = some ⟨oc28, od28, .func (PySem.W.fnOf "_law_half_right" "_law_half_right" (defArgs st__law_half_right) (defBody st__law_half_right) (defScope st__law_half_right) .none kV28 dc28 pm28 an28 cd28 ct28), sl28⟩)
    (c28 : PySem.W.codeIn K cd28 "_law_half_right" = true)
    (k28 : PySem.W.keepIn K (.ref f28) = true)
    (a29 : PySem.W.nsIn K mainGlobals "_law_by_signs" = some (some (.ref f29)))
    (l29 : K.lookup f29 = some ⟨oc29, od29, .func (PySem.W.fnOf "_law_by_signs" "_law_by_signs" (defArgs st__law_by_signs) (defBody st__law_by_signs) (defScope st__law_by_signs) .none kV29 dc29 pm29 an29 cd29 ct29), sl29⟩)
    (c29 : PySem.W.codeIn K cd29 "_law_by_signs" = true)
    (k29 : PySem.W.keepIn K (.ref f29) = true)
    (a30 : PySem.W.nsIn K mainGlobals "_law_many_right" = some (some (.ref f30)))
    (l30 : K.lookup f30 = some ⟨oc30, od30, .func (PySem.W.fnOf "_law_many_right" "_law_many_right" (defArgs st__law_many_right) (defBody st__law_many_right) (defScope st__law_many_right) .none kV30 dc30 pm30 an30 cd30 ct30), sl30⟩)
    (c30 : PySem.W.codeIn K cd30 "_law_many_right" = true)
    (k30 : PySem.W.keepIn K (.ref f30) = true)
    (a31 : PySem.W.nsIn K mainGlobals "law" = some (some (.ref f31)))
    (l31 : K.lookup f31 = some ⟨oc31, od31, .func (PySem.W.fnOf "law" "law" (defArgs st_law) (defBody st_law) (defScope st_law) .none kV31 dc31 pm31 an31 cd31 ct31), sl31⟩)
    (c31 : PySem.W.codeIn K cd31 "law" = true)
    (k31 : PySem.W.keepIn K (.ref f31) = true)
    (z_abs : PySem.W.nsIn K mainGlobals "abs" = some none)
    (z_all : PySem.W.nsIn K mainGlobals "all" = some none)
    (z_bool : PySem.W.nsIn K mainGlobals "bool" = some none)
    (z_enumerate : PySem.W.nsIn K mainGlobals "enumerate" = some none)
    (z_int : PySem.W.nsIn K mainGlobals "int" = some none)
    (z_isinstance : PySem.W.nsIn K mainGlobals "isinstance" = some none)
    (z_len : PySem.W.nsIn K mainGlobals "len" = some none)
    (z_list : PySem.W.nsIn K mainGlobals "list" = some none)
    (z_range : PySem.W.nsIn K mainGlobals "range" = some none)
    (z_sorted : PySem.W.nsIn K mainGlobals "sorted" = some none)
    (z_sum : PySem.W.nsIn K mainGlobals "sum" = some none)
    (z_tuple : PySem.W.nsIn K mainGlobals "tuple" = some none)
    (z_zip : PySem.W.nsIn K mainGlobals "zip" = some none)
    (q_MOST_COUNTED : PySem.W.nsIn K mainGlobals "MOST_COUNTED" = some (some (.int 60 t_MOST_COUNTED)))
    (q_MOST_FAMILIES : PySem.W.nsIn K mainGlobals "MOST_FAMILIES" = some (some (.int 400 t_MOST_FAMILIES)))
    (q_MOST_KINDS : PySem.W.nsIn K mainGlobals "MOST_KINDS" = some (some (.int 8 t_MOST_KINDS)))
    (q_MOST_OF_KIND : PySem.W.nsIn K mainGlobals "MOST_OF_KIND" = some (some (.int 1000000000000000000000000000000 t_MOST_OF_KIND)))
    (q_MOST_STATES : PySem.W.nsIn K mainGlobals "MOST_STATES" = some (some (.int 5000 t_MOST_STATES)))
    (hn : PySem.W.specialIn K (.builtin "object.__class__") "__get__" = some (some (.builtin "getset_descriptor.__get__")))
    (ht : PySem.W.takesIn K (.builtin "object.__class__") = some true)
    (pg9 : PySem.W.plainGet K C9 Str.empty = true)
    (hd9 : PySem.W.hasDictIn K C9 = true)
    (po9 : PySem.W.plainOver K C9 = true)
    (sa9 : PySem.W.findIn K (.ref C9) "__setattr__" = some (some (.builtin "object.__setattr__")))
    (ha9 : PySem.W.findIn K (.ref C9) "__class__" = some (some (.builtin "object.__class__")))
    (hm9 : PySem.W.mroIn K C9 (.type "object") = some true)
    (w9_9 : PySem.W.findIn K (.ref C9) "__init__" = some (some (.ref f9)))
    (mk9 : PySem.W.makesIn K C9 = true)
    (kC9 : PySem.W.keepIn K (.ref C9) = true)
    (na9_people : PySem.W.findIn K (.ref C9) "people" = some none)
    (na9_things : PySem.W.findIn K (.ref C9) "things" = some none)
    (na9_allowed : PySem.W.findIn K (.ref C9) "allowed" = some none)
    (it9_int : PySem.W.subIn K (.ref C9) (.type "int") = some false)
    (it9_bool : PySem.W.subIn K (.ref C9) (.type "bool") = some false)
    (it9_tuple : PySem.W.subIn K (.ref C9) (.type "tuple") = some false)
    (jc9 : PySem.W.isClsIn K C9 = true)
    (jt9 : PySem.W.typeIn K (.ref C9) = some (.type "type"))
    (ib9_NoneType : PySem.W.subIn K (.type "NoneType") (.ref C9) = some false)
    (ib9_bool : PySem.W.subIn K (.type "bool") (.ref C9) = some false)
    (ib9_int : PySem.W.subIn K (.type "int") (.ref C9) = some false)
    (ib9_str : PySem.W.subIn K (.type "str") (.ref C9) = some false)
    (ib9_list : PySem.W.subIn K (.type "list") (.ref C9) = some false)
    (ib9_tuple : PySem.W.subIn K (.type "tuple") (.ref C9) = some false)
    (ib9_dict : PySem.W.subIn K (.type "dict") (.ref C9) = some false)
    (w9_10 : PySem.W.findIn K (.ref C9) "__eq__" = some (some (.ref f10)))
    (ne9 : PySem.W.findIn K (.ref C9) "__ne__" = some (some (.builtin "object.__ne__")))
    (ob9 : PySem.W.subIn K (.ref C9) (.type "object") = some true)
    (nf9_9 : PySem.W.notFirst K C9 (.ref C9) = true)
    (nb9_NoneType : PySem.W.notFirst K C9 (.type "NoneType") = true)
    (nb9_bool : PySem.W.notFirst K C9 (.type "bool") = true)
    (nb9_int : PySem.W.notFirst K C9 (.type "int") = true)
    (nb9_str : PySem.W.notFirst K C9 (.type "str") = true)
    (nb9_list : PySem.W.notFirst K C9 (.type "list") = true)
    (nb9_tuple : PySem.W.notFirst K C9 (.type "tuple") = true)
    (nb9_dict : PySem.W.notFirst K C9 (.type "dict") = true)
    (eb31 : PySem.W.subIn K (.ref C31) (.type "BaseException") = some true)
    (et31 : PySem.W.typeIn K (.ref C31) = some (.type "type"))
    (eq31 : PySem.W.excIn K C31 [.type "ValueError", .type "Exception", .type "BaseException", .type "object"] "ValueError.__new__" = true)
    (ek31 : PySem.W.keepIn K (.ref C31) = true)
    (eb34 : PySem.W.subIn K (.ref C34) (.type "BaseException") = some true)
    (et34 : PySem.W.typeIn K (.ref C34) = some (.type "type"))
    (eq34 : PySem.W.excIn K C34 [.type "ValueError", .type "Exception", .type "BaseException", .type "object"] "ValueError.__new__" = true)
    (ek34 : PySem.W.keepIn K (.ref C34) = true)
    (exsup : PySem.W.nsIn K mainGlobals "super" = some none)
    (exany : PySem.W.nsIn K cStatics "thirdparty.any" = some none)
    (extop : (l.prog.main.scope.names.lookup ("super" : Str)).isSome = false)
    (eb32 : PySem.W.subIn K (.ref C32) (.type "BaseException") = some true)
    (et32 : PySem.W.typeIn K (.ref C32) = some (.type "type"))
    (exi32 : PySem.W.findIn K (.ref C32) "__init__" = some (some (.ref fe32)))
    (exl32 : K.lookup fe32 = some ⟨oce32, oae32, .func (ferr st_TooMany___init__ "TooMany.__init__" cce32 cae32 kVe32 dce32 pme32 ane32 cte32), sae32⟩)
    (exc32 : PySem.W.codeIn K (.ref cae32) "TooMany.__init__" = true)
    (exm32 : K.lookup cce32 = some ⟨ode32, obe32, .cell (some (.ref C32)), sbe32⟩)
    (exd32 : K.lookup cae32 = some ⟨oee32, ooe32, .fields vse32, sce32⟩)
    (exf32 : isFile l.prog.main.file vse32[2]? = true)
    (exk32 : PySem.W.ks_superIn K C32 C32 "__init__" = some (some (.builtin "ValueError.__init__")))
    (exs32 : PySem.W.mroIn K C32 (.ref C32) = some true)
    (exv32 : PySem.W.subIn K (.ref C32) (.type "ValueError") = some true)
    (exC32 : K.lookup C32 = some (excClassObj nme32 qne32 C32 Ne32 bse32 bme32 true sne32 sube32 abe32 cole32 dde32 kae32 kbe32 kce32 kde32 kee32 "ValueError.__new__"))
    (exM32 : PySem.HandSPX.refsVE bme32 = true)
    (exS32 : PySem.W.findIn K (.ref C32) "__setattr__" = some (some (.builtin "object.__setattr__")))
    (exK32 : PySem.W.keepIn K (.ref C32) = true)
    (exN32 : PySem.W.findIn K (.ref C32) "most" = some none)
    (exg32 : PySem.W.findIn K (.ref C32) "__getattribute__" = some (some (.builtin "BaseException.__getattribute__")))
    (exG32 : PySem.W.findIn K (.ref C32) "__getattr__" = some none)
    (exh32 : PySem.W.hasDictIn K C32 = true)
    (ext32 : PySem.W.typeIn K (.ref fe32) = some (.type "function"))
    (eb30 : PySem.W.subIn K (.ref C30) (.type "BaseException") = some true)
    (et30 : PySem.W.typeIn K (.ref C30) = some (.type "type"))
    (ei30 : PySem.W.isClsIn K C30 = true)
    (es31_30 : PySem.W.subIn K (.ref C31) (.ref C30) = some true)
    (ei31 : PySem.W.isClsIn K C31 = true)
    (es31_31 : PySem.W.subIn K (.ref C31) (.ref C31) = some true)
    (ei34 : PySem.W.isClsIn K C34 = true)
    (es31_34 : PySem.W.subIn K (.ref C31) (.ref C34) = some false)
    (ei32 : PySem.W.isClsIn K C32 = true)
    (es31_32 : PySem.W.subIn K (.ref C31) (.ref C32) = some false)
    (es34_30 : PySem.W.subIn K (.ref C34) (.ref C30) = some true)
    (es34_31 : PySem.W.subIn K (.ref C34) (.ref C31) = some false)
    (es34_34 : PySem.W.subIn K (.ref C34) (.ref C34) = some true)
    (es34_32 : PySem.W.subIn K (.ref C34) (.ref C32) = some false)
    (es32_30 : PySem.W.subIn K (.ref C32) (.ref C30) = some true)
    (es32_31 : PySem.W.subIn K (.ref C32) (.ref C31) = some false)
    (es32_34 : PySem.W.subIn K (.ref C32) (.ref C34) = some false)
    (es32_32 : PySem.W.subIn K (.ref C32) (.ref C32) = some true)
    (plain : ∀ ns : List Int, ns.length ≤ 63 → ∃ env, fn_law [some (.fd (.val (.scr ns)))] = some (.fd (.val (.bl true)), env)) :
    ∃ fd : FuncData, (∀ (s : Shared) (v : Value), BindsTo s fd ⟨[v], []⟩ [("_law_script", v)]) ∧ ∀ base : Heap, K.In base → base.Ns mainGlobals mg → FnOk l.prog w K mg base CX0 8 fL fd ["_law_script"] (DL.spLaw 63 K) := by
  have e := hfa.symm.trans (PySem.W.mg_of X G a31)
  cases e
  let fa : Nat → Addr := fun n => match n with | 2 => f2 | 3 => f3 | 4 => f4 | 5 => f5 | 6 => f6 | 7 => f7 | 8 => f8 | 9 => f9 | 10 => f10 | 11 => f11 | 12 => f12 | 13 => f13 | 14 => f14 | 15 => f15 | 16 => f16 | 17 => f17 | 18 => f18 | 19 => f19 | 20 => f20 | 21 => f21 | 22 => f22 | 23 => f23 | 24 => f24 | 25 => f25 | 26 => f26 | 27 => f27 | 28 => f28 | 29 => f29 | 30 => f30 | 31 => fL | _ => 0
  let fdt : Nat → FuncData := fun n => match n with | 2 => PySem.W.fnOf "is_integer" "is_integer" (defArgs st_is_integer) (defBody st_is_integer) (defScope st_is_integer) .none kV2 dc2 pm2 an2 cd2 ct2 | 3 => PySem.W.fnOf "is_within" "is_within" (defArgs st_is_within) (defBody st_is_within) (defScope st_is_within) .none kV3 dc3 pm3 an3 cd3 ct3 | 4 => PySem.W.fnOf "are_ascending" "are_ascending" (defArgs st_are_ascending) (defBody st_are_ascending) (defScope st_are_ascending) .none kV4 dc4 pm4 an4 cd4 ct4 | 5 => PySem.W.fnOf "is_lot_of" "is_lot_of" (defArgs st_is_lot_of) (defBody st_is_lot_of) (defScope st_is_lot_of) .none kV5 dc5 pm5 an5 cd5 ct5 | 6 => PySem.W.fnOf "check_number" "check_number" (defArgs st_check_number) (defBody st_check_number) (defScope st_check_number) .none kV6 dc6 pm6 an6 cd6 ct6 | 7 => PySem.W.fnOf "check_many" "check_many" (defArgs st_check_many) (defBody st_check_many) (defScope st_check_many) .none kV7 dc7 pm7 an7 cd7 ct7 | 8 => PySem.W.fnOf "are_counts" "are_counts" (defArgs st_are_counts) (defBody st_are_counts) (defScope st_are_counts) .none kV8 dc8 pm8 an8 cd8 ct8 | 9 => PySem.W.fnOf "__init__" "Kinds.__init__" (defArgs st_Kinds___init__) (defBody st_Kinds___init__) (defScope st_Kinds___init__) .none kV9 dc9 pm9 an9 cd9 ct9 | 10 => PySem.W.fnOf "__eq__" "Kinds.__eq__" (defArgs st_Kinds___eq__) (defBody st_Kinds___eq__) (defScope st_Kinds___eq__) .none kV10 dc10 pm10 an10 cd10 ct10 | 11 => PySem.W.fnOf "spread_out" "spread_out" (defArgs st_spread_out) (defBody st_spread_out) (defScope st_spread_out) .none kV11 dc11 pm11 an11 cd11 ct11 | 12 => PySem.W.fnOf "one_less" "one_less" (defArgs st_one_less) (defBody st_one_less) (defScope st_one_less) .none kV12 dc12 pm12 an12 cd12 ct12 | 13 => PySem.W.fnOf "after_person" "after_person" (defArgs st_after_person) (defBody st_after_person) (defScope st_after_person) .none kV13 dc13 pm13 an13 cd13 ct13 | 14 => PySem.W.fnOf "kinds_many" "kinds_many" (defArgs st_kinds_many) (defBody st_kinds_many) (defScope st_kinds_many) .none kV14 dc14 pm14 an14 cd14 ct14 | 15 => PySem.W.fnOf "check_sizes" "check_sizes" (defArgs st_check_sizes) (defBody st_check_sizes) (defScope st_check_sizes) .none kV15 dc15 pm15 an15 cd15 ct15 | 16 => PySem.W.fnOf "families" "families" (defArgs st_families) (defBody st_families) (defScope st_families) .none kV16 dc16 pm16 an16 cd16 ct16 | 17 => PySem.W.fnOf "own_names" "own_names" (defArgs st_own_names) (defBody st_own_names) (defScope st_own_names) .none kV17 dc17 pm17 an17 cd17 ct17 | 18 => PySem.W.fnOf "families_many" "families_many" (defArgs st_families_many) (defBody st_families_many) (defScope st_families_many) .none kV18 dc18 pm18 an18 cd18 ct18 | 19 => PySem.W.fnOf "_law_pool" "_law_pool" (defArgs st__law_pool) (defBody st__law_pool) (defScope st__law_pool) .none kV19 dc19 pm19 an19 cd19 ct19 | 20 => PySem.W.fnOf "_law_draw" "_law_draw" (defArgs st__law_draw) (defBody st__law_draw) (defScope st__law_draw) .none kV20 dc20 pm20 an20 cd20 ct20 | 21 => PySem.W.fnOf "_law_mixed" "_law_mixed" (defArgs st__law_mixed) (defBody st__law_mixed) (defScope st__law_mixed) .none kV21 dc21 pm21 an21 cd21 ct21 | 22 => PySem.W.fnOf "_law_all" "_law_all" (defArgs st__law_all) (defBody st__law_all) (defScope st__law_all) .none kV22 dc22 pm22 an22 cd22 ct22 | 23 => PySem.W.fnOf "_law_deep" "_law_deep" (defArgs st__law_deep) (defBody st__law_deep) (defScope st__law_deep) .none kV23 dc23 pm23 an23 cd23 ct23 | 24 => PySem.W.fnOf "_law_wide" "_law_wide" (defArgs st__law_wide) (defBody st__law_wide) (defScope st__law_wide) .none kV24 dc24 pm24 an24 cd24 ct24 | 25 => PySem.W.fnOf "_law_kind_rows" "_law_kind_rows" (defArgs st__law_kind_rows) (defBody st__law_kind_rows) (defScope st__law_kind_rows) .none kV25 dc25 pm25 an25 cd25 ct25 | 26 => PySem.W.fnOf "_law_orders" "_law_orders" (defArgs st__law_orders) (defBody st__law_orders) (defScope st__law_orders) .none kV26 dc26 pm26 an26 cd26 ct26 | 27 => PySem.W.fnOf "_law_said" "_law_said" (defArgs st__law_said) (defBody st__law_said) (defScope st__law_said) .none kV27 dc27 pm27 an27 cd27 ct27 | 28 => PySem.W.fnOf "_law_half_right" "_law_half_right" (defArgs st__law_half_right) (defBody st__law_half_right) (defScope st__law_half_right) .none kV28 dc28 pm28 an28 cd28 ct28 | 29 => PySem.W.fnOf "_law_by_signs" "_law_by_signs" (defArgs st__law_by_signs) (defBody st__law_by_signs) (defScope st__law_by_signs) .none kV29 dc29 pm29 an29 cd29 ct29 | 30 => PySem.W.fnOf "_law_many_right" "_law_many_right" (defArgs st__law_many_right) (defBody st__law_many_right) (defScope st__law_many_right) .none kV30 dc30 pm30 an30 cd30 ct30 | _ => PySem.W.fnOf "law" "law" (defArgs st_law) (defBody st_law) (defScope st_law) .none kV31 dc31 pm31 an31 cd31 ct31
  let cm : Cm := ⟨fun n => match n with | 9 => C9 | 30 => C30 | 31 => C31 | 32 => C32 | 34 => C34 | _ => 0, fun _ _ _ => none⟩
  have T : Tx l.prog K mg fa fdt cm := by
    have N1 : ∀ c ∈ eqCl, ∀ c2, eqNf c c2 = true → PySem.W.notFirst K (cm c) (.ref (cm c2)) = true := by
      intro c hc c2 e
      have e2 : c2 < 10 := by
        simp only [eqNf, Bool.or_eq_true, Bool.and_eq_true, beq_iff_eq] at e
        omega
      simp only [eqCl, List.mem_cons, List.not_mem_nil, or_false] at hc
      subst hc
      all_goals
        match c2, e, e2 with
        | 0, e, _ => first | assumption | exact absurd e (by decide)
        | 1, e, _ => first | assumption | exact absurd e (by decide)
        | 2, e, _ => first | assumption | exact absurd e (by decide)
        | 3, e, _ => first | assumption | exact absurd e (by decide)
        | 4, e, _ => first | assumption | exact absurd e (by decide)
        | 5, e, _ => first | assumption | exact absurd e (by decide)
        | 6, e, _ => first | assumption | exact absurd e (by decide)
        | 7, e, _ => first | assumption | exact absurd e (by decide)
        | 8, e, _ => first | assumption | exact absurd e (by decide)
        | 9, e, _ => first | assumption | exact absurd e (by decide)
        | n + 10, _, e2 => exact absurd e2 (by omega)
    have N2 : ∀ c ∈ eqCl, ∀ S ∈ ["NoneType", "bool", "int", "str", "list", "tuple", "dict"], PySem.W.notFirst K (cm c) (.type S) = true := by
      intro c hc S hS
      simp only [eqCl, List.mem_cons, List.not_mem_nil, or_false] at hc
      simp only [List.mem_cons, List.not_mem_nil, or_false] at hS
      subst hc <;> rcases hS with rfl | rfl | rfl | rfl | rfl | rfl | rfl <;> assumption
    have F_F_is_integer : Fun K "is_integer" "is_integer" st_is_integer (fa 2) (fdt 2) := fun_mk (st := st_is_integer) l2 c2 k2
    have F_b_is_integer : Binds K (fdt 2) ["thing"] [] := (fun_mk (st := st_is_integer) l2 c2 k2).binds (ps := ["thing"]) fun _ _ _ _ _ _ us hl => match us, hl with | [_], _ => rfl
    have F_g_is_integer : mg "is_integer" = some (.ref (fa 2)) := PySem.W.mg_of X G a2
    have F_F_is_within : Fun K "is_within" "is_within" st_is_within (fa 3) (fdt 3) := fun_mk (st := st_is_within) l3 c3 k3
    have F_b_is_within : Binds K (fdt 3) ["thing", "least", "most"] [] := (fun_mk (st := st_is_within) l3 c3 k3).binds (ps := ["thing", "least", "most"]) fun _ _ _ _ _ _ us hl => match us, hl with | [_, _, _], _ => rfl
    have F_g_is_within : mg "is_within" = some (.ref (fa 3)) := PySem.W.mg_of X G a3
    have F_F_are_ascending : Fun K "are_ascending" "are_ascending" st_are_ascending (fa 4) (fdt 4) := fun_mk (st := st_are_ascending) l4 c4 k4
    have F_b_are_ascending : Binds K (fdt 4) ["things"] [] := (fun_mk (st := st_are_ascending) l4 c4 k4).binds (ps := ["things"]) fun _ _ _ _ _ _ us hl => match us, hl with | [_], _ => rfl
    have F_g_are_ascending : mg "are_ascending" = some (.ref (fa 4)) := PySem.W.mg_of X G a4
    have F_F_is_lot_of : Fun K "is_lot_of" "is_lot_of" st_is_lot_of (fa 5) (fdt 5) := fun_mk (st := st_is_lot_of) l5 c5 k5
    have F_b_is_lot_of : Binds K (fdt 5) ["thing", "many"] [] := (fun_mk (st := st_is_lot_of) l5 c5 k5).binds (ps := ["thing", "many"]) fun _ _ _ _ _ _ us hl => match us, hl with | [_, _], _ => rfl
    have F_g_is_lot_of : mg "is_lot_of" = some (.ref (fa 5)) := PySem.W.mg_of X G a5
    have F_F_check_number : Fun K "check_number" "check_number" st_check_number (fa 6) (fdt 6) := fun_mk (st := st_check_number) l6 c6 k6
    have F_b_check_number : Binds K (fdt 6) ["thing", "least", "most"] [] := (fun_mk (st := st_check_number) l6 c6 k6).binds (ps := ["thing", "least", "most"]) fun _ _ _ _ _ _ us hl => match us, hl with | [_, _, _], _ => rfl
    have F_g_check_number : mg "check_number" = some (.ref (fa 6)) := PySem.W.mg_of X G a6
    have F_F_check_many : Fun K "check_many" "check_many" st_check_many (fa 7) (fdt 7) := fun_mk (st := st_check_many) l7 c7 k7
    have F_b_check_many : Binds K (fdt 7) ["number", "most"] [] := (fun_mk (st := st_check_many) l7 c7 k7).binds (ps := ["number", "most"]) fun _ _ _ _ _ _ us hl => match us, hl with | [_, _], _ => rfl
    have F_g_check_many : mg "check_many" = some (.ref (fa 7)) := PySem.W.mg_of X G a7
    have F_F_are_counts : Fun K "are_counts" "are_counts" st_are_counts (fa 8) (fdt 8) := fun_mk (st := st_are_counts) l8 c8 k8
    have F_b_are_counts : Binds K (fdt 8) ["thing", "least"] [] := (fun_mk (st := st_are_counts) l8 c8 k8).binds (ps := ["thing", "least"]) fun _ _ _ _ _ _ us hl => match us, hl with | [_, _], _ => rfl
    have F_g_are_counts : mg "are_counts" = some (.ref (fa 8)) := PySem.W.mg_of X G a8
    have F_F_Kinds___init__ : Fun K "__init__" "Kinds.__init__" st_Kinds___init__ (fa 9) (fdt 9) := fun_mk (st := st_Kinds___init__) l9 c9 k9
    have F_b_Kinds___init__ : Binds K (fdt 9) ["self", "people", "things", "allowed"] [] := (fun_mk (st := st_Kinds___init__) l9 c9 k9).binds (ps := ["self", "people", "things", "allowed"]) fun _ _ _ _ _ _ us hl => match us, hl with | [_, _, _, _], _ => rfl
    have F_F_Kinds___eq__ : Fun K "__eq__" "Kinds.__eq__" st_Kinds___eq__ (fa 10) (fdt 10) := fun_mk (st := st_Kinds___eq__) l10 c10 k10
    have F_b_Kinds___eq__ : Binds K (fdt 10) ["self", "other"] [] := (fun_mk (st := st_Kinds___eq__) l10 c10 k10).binds (ps := ["self", "other"]) fun _ _ _ _ _ _ us hl => match us, hl with | [_, _], _ => rfl
    have F_F_spread_out : Fun K "spread_out" "spread_out" st_spread_out (fa 11) (fdt 11) := fun_mk (st := st_spread_out) l11 c11 k11
    have F_b_spread_out : Binds K (fdt 11) ["numbers"] [] := (fun_mk (st := st_spread_out) l11 c11 k11).binds (ps := ["numbers"]) fun _ _ _ _ _ _ us hl => match us, hl with | [_], _ => rfl
    have F_g_spread_out : mg "spread_out" = some (.ref (fa 11)) := PySem.W.mg_of X G a11
    have F_F_one_less : Fun K "one_less" "one_less" st_one_less (fa 12) (fdt 12) := fun_mk (st := st_one_less) l12 c12 k12
    have F_b_one_less : Binds K (fdt 12) ["numbers", "place"] [] := (fun_mk (st := st_one_less) l12 c12 k12).binds (ps := ["numbers", "place"]) fun _ _ _ _ _ _ us hl => match us, hl with | [_, _], _ => rfl
    have F_g_one_less : mg "one_less" = some (.ref (fa 12)) := PySem.W.mg_of X G a12
    have F_F_after_person : Fun K "after_person" "after_person" st_after_person (fa 13) (fdt 13) := fun_mk (st := st_after_person) l13 c13 k13
    have F_b_after_person : Binds K (fdt 13) ["kinds", "kind", "counts", "modulus"] [] := (fun_mk (st := st_after_person) l13 c13 k13).binds (ps := ["kinds", "kind", "counts", "modulus"]) fun _ _ _ _ _ _ us hl => match us, hl with | [_, _, _, _], _ => rfl
    have F_g_after_person : mg "after_person" = some (.ref (fa 13)) := PySem.W.mg_of X G a13
    have F_F_kinds_many : Fun K "kinds_many" "kinds_many" st_kinds_many (fa 14) (fdt 14) := fun_mk (st := st_kinds_many) l14 c14 k14
    have F_b_kinds_many : Binds K (fdt 14) ["kinds", "modulus"] [] := (fun_mk (st := st_kinds_many) l14 c14 k14).binds (ps := ["kinds", "modulus"]) fun _ _ _ _ _ _ us hl => match us, hl with | [_, _], _ => rfl
    have F_g_kinds_many : mg "kinds_many" = some (.ref (fa 14)) := PySem.W.mg_of X G a14
    have F_F_check_sizes : Fun K "check_sizes" "check_sizes" st_check_sizes (fa 15) (fdt 15) := fun_mk (st := st_check_sizes) l15 c15 k15
    have F_b_check_sizes : Binds K (fdt 15) ["sizes"] [] := (fun_mk (st := st_check_sizes) l15 c15 k15).binds (ps := ["sizes"]) fun _ _ _ _ _ _ us hl => match us, hl with | [_], _ => rfl
    have F_g_check_sizes : mg "check_sizes" = some (.ref (fa 15)) := PySem.W.mg_of X G a15
    have F_F_families : Fun K "families" "families" st_families (fa 16) (fdt 16) := fun_mk (st := st_families) l16 c16 k16
    have F_b_families : Binds K (fdt 16) ["sizes"] [] := (fun_mk (st := st_families) l16 c16 k16).binds (ps := ["sizes"]) fun _ _ _ _ _ _ us hl => match us, hl with | [_], _ => rfl
    have F_g_families : mg "families" = some (.ref (fa 16)) := PySem.W.mg_of X G a16
    have F_F_own_names : Fun K "own_names" "own_names" st_own_names (fa 17) (fdt 17) := fun_mk (st := st_own_names) l17 c17 k17
    have F_b_own_names : Binds K (fdt 17) ["size"] [] := (fun_mk (st := st_own_names) l17 c17 k17).binds (ps := ["size"]) fun _ _ _ _ _ _ us hl => match us, hl with | [_], _ => rfl
    have F_g_own_names : mg "own_names" = some (.ref (fa 17)) := PySem.W.mg_of X G a17
    have F_F_families_many : Fun K "families_many" "families_many" st_families_many (fa 18) (fdt 18) := fun_mk (st := st_families_many) l18 c18 k18
    have F_b_families_many : Binds K (fdt 18) ["sizes", "modulus"] [] := (fun_mk (st := st_families_many) l18 c18 k18).binds (ps := ["sizes", "modulus"]) fun _ _ _ _ _ _ us hl => match us, hl with | [_, _], _ => rfl
    have F_g_families_many : mg "families_many" = some (.ref (fa 18)) := PySem.W.mg_of X G a18
    have F_F__law_pool : Fun K "_law_pool" "_law_pool" st__law_pool (fa 19) (fdt 19) := fun_mk (st := st__law_pool) l19 c19 k19
    have F_b__law_pool : Binds K (fdt 19) ["_law_script"] [] := (fun_mk (st := st__law_pool) l19 c19 k19).binds (ps := ["_law_script"]) fun _ _ _ _ _ _ us hl => match us, hl with | [_], _ => rfl
    have F_g__law_pool : mg "_law_pool" = some (.ref (fa 19)) := PySem.W.mg_of X G a19
    have F_F__law_draw : Fun K "_law_draw" "_law_draw" st__law_draw (fa 20) (fdt 20) := fun_mk (st := st__law_draw) l20 c20 k20
    have F_b__law_draw : Binds K (fdt 20) ["_law_pool_here", "_law_many"] [] := (fun_mk (st := st__law_draw) l20 c20 k20).binds (ps := ["_law_pool_here", "_law_many"]) fun _ _ _ _ _ _ us hl => match us, hl with | [_, _], _ => rfl
    have F_g__law_draw : mg "_law_draw" = some (.ref (fa 20)) := PySem.W.mg_of X G a20
    have F_F__law_mixed : Fun K "_law_mixed" "_law_mixed" st__law_mixed (fa 21) (fdt 21) := fun_mk (st := st__law_mixed) l21 c21 k21
    have F_b__law_mixed : Binds K (fdt 21) ["_law_pool_here", "_law_things"] [] := (fun_mk (st := st__law_mixed) l21 c21 k21).binds (ps := ["_law_pool_here", "_law_things"]) fun _ _ _ _ _ _ us hl => match us, hl with | [_, _], _ => rfl
    have F_g__law_mixed : mg "_law_mixed" = some (.ref (fa 21)) := PySem.W.mg_of X G a21
    have F_F__law_all : Fun K "_law_all" "_law_all" st__law_all (fa 22) (fdt 22) := fun_mk (st := st__law_all) l22 c22 k22
    have F_b__law_all : Binds K (fdt 22) ["_law_rows"] [] := (fun_mk (st := st__law_all) l22 c22 k22).binds (ps := ["_law_rows"]) fun _ _ _ _ _ _ us hl => match us, hl with | [_], _ => rfl
    have F_g__law_all : mg "_law_all" = some (.ref (fa 22)) := PySem.W.mg_of X G a22
    have F_F__law_deep : Fun K "_law_deep" "_law_deep" st__law_deep (fa 23) (fdt 23) := fun_mk (st := st__law_deep) l23 c23 k23
    have F_b__law_deep : Binds K (fdt 23) [] [] := (fun_mk (st := st__law_deep) l23 c23 k23).binds (ps := []) fun _ _ _ _ _ _ us hl => match us, hl with | [], _ => rfl
    have F_g__law_deep : mg "_law_deep" = some (.ref (fa 23)) := PySem.W.mg_of X G a23
    have F_F__law_wide : Fun K "_law_wide" "_law_wide" st__law_wide (fa 24) (fdt 24) := fun_mk (st := st__law_wide) l24 c24 k24
    have F_b__law_wide : Binds K (fdt 24) ["_law_numbers"] [] := (fun_mk (st := st__law_wide) l24 c24 k24).binds (ps := ["_law_numbers"]) fun _ _ _ _ _ _ us hl => match us, hl with | [_], _ => rfl
    have F_g__law_wide : mg "_law_wide" = some (.ref (fa 24)) := PySem.W.mg_of X G a24
    have F_F__law_kind_rows : Fun K "_law_kind_rows" "_law_kind_rows" st__law_kind_rows (fa 25) (fdt 25) := fun_mk (st := st__law_kind_rows) l25 c25 k25
    have F_b__law_kind_rows : Binds K (fdt 25) ["_law_people", "_law_things", "_law_allowed"] [] := (fun_mk (st := st__law_kind_rows) l25 c25 k25).binds (ps := ["_law_people", "_law_things", "_law_allowed"]) fun _ _ _ _ _ _ us hl => match us, hl with | [_, _, _], _ => rfl
    have F_g__law_kind_rows : mg "_law_kind_rows" = some (.ref (fa 25)) := PySem.W.mg_of X G a25
    have F_F__law_orders : Fun K "_law_orders" "_law_orders" st__law_orders (fa 26) (fdt 26) := fun_mk (st := st__law_orders) l26 c26 k26
    have F_b__law_orders : Binds K (fdt 26) ["_law_many", "_law_modulus"] [] := (fun_mk (st := st__law_orders) l26 c26 k26).binds (ps := ["_law_many", "_law_modulus"]) fun _ _ _ _ _ _ us hl => match us, hl with | [_, _], _ => rfl
    have F_g__law_orders : mg "_law_orders" = some (.ref (fa 26)) := PySem.W.mg_of X G a26
    have F_F__law_said : Fun K "_law_said" "_law_said" st__law_said (fa 27) (fdt 27) := fun_mk (st := st__law_said) l27 c27 k27
    have F_b__law_said : Binds K (fdt 27) ["_law_sizes", "_law_modulus"] [] := (fun_mk (st := st__law_said) l27 c27 k27).binds (ps := ["_law_sizes", "_law_modulus"]) fun _ _ _ _ _ _ us hl => match us, hl with | [_, _], _ => rfl
    have F_g__law_said : mg "_law_said" = some (.ref (fa 27)) := PySem.W.mg_of X G a27
    have F_F__law_half_right : Fun K "_law_half_right" "_law_half_right" st__law_half_right (fa 28) (fdt 28) := fun_mk (st := st__law_half_right) l28 c28 k28
    have F_b__law_half_right : Binds K (fdt 28) ["_law_pool_here", "_law_modulus"] [] := (fun_mk (st := st__law_half_right) l28 c28 k28).binds (ps := ["_law_pool_here", "_law_modulus"]) fun _ _ _ _ _ _ us hl => match us, hl with | [_, _], _ => rfl
    have F_g__law_half_right : mg "_law_half_right" = some (.ref (fa 28)) := PySem.W.mg_of X G a28
    have F_F__law_by_signs : Fun K "_law_by_signs" "_law_by_signs" st__law_by_signs (fa 29) (fdt 29) := fun_mk (st := st__law_by_signs) l29 c29 k29
    have F_b__law_by_signs : Binds K (fdt 29) ["_law_sizes"] [] := (fun_mk (st := st__law_by_signs) l29 c29 k29).binds (ps := ["_law_sizes"]) fun _ _ _ _ _ _ us hl => match us, hl with | [_], _ => rfl
    have F_g__law_by_signs : mg "_law_by_signs" = some (.ref (fa 29)) := PySem.W.mg_of X G a29
    have F_F__law_many_right : Fun K "_law_many_right" "_law_many_right" st__law_many_right (fa 30) (fdt 30) := fun_mk (st := st__law_many_right) l30 c30 k30
    have F_b__law_many_right : Binds K (fdt 30) ["_law_pool_here"] [] := (fun_mk (st := st__law_many_right) l30 c30 k30).binds (ps := ["_law_pool_here"]) fun _ _ _ _ _ _ us hl => match us, hl with | [_], _ => rfl
    have F_g__law_many_right : mg "_law_many_right" = some (.ref (fa 30)) := PySem.W.mg_of X G a30
    have F_F_law : Fun K "law" "law" st_law (fa 31) (fdt 31) := fun_mk (st := st_law) l31 c31 k31
    have F_b_law : Binds K (fdt 31) ["_law_script"] [] := (fun_mk (st := st_law) l31 c31 k31).binds (ps := ["_law_script"]) fun _ _ _ _ _ _ us hl => match us, hl with | [_], _ => rfl
    have F_g_law : mg "law" = some (.ref (fa 31)) := PySem.W.mg_of X G a31
    have F_z_abs : mg "abs" = none := PySem.W.mg_none_of X G z_abs
    have F_z_all : mg "all" = none := PySem.W.mg_none_of X G z_all
    have F_z_bool : mg "bool" = none := PySem.W.mg_none_of X G z_bool
    have F_z_enumerate : mg "enumerate" = none := PySem.W.mg_none_of X G z_enumerate
    have F_z_int : mg "int" = none := PySem.W.mg_none_of X G z_int
    have F_z_isinstance : mg "isinstance" = none := PySem.W.mg_none_of X G z_isinstance
    have F_z_len : mg "len" = none := PySem.W.mg_none_of X G z_len
    have F_z_list : mg "list" = none := PySem.W.mg_none_of X G z_list
    have F_z_range : mg "range" = none := PySem.W.mg_none_of X G z_range
    have F_z_sorted : mg "sorted" = none := PySem.W.mg_none_of X G z_sorted
    have F_z_sum : mg "sum" = none := PySem.W.mg_none_of X G z_sum
    have F_z_tuple : mg "tuple" = none := PySem.W.mg_none_of X G z_tuple
    have F_z_zip : mg "zip" = none := PySem.W.mg_none_of X G z_zip
    have F_c_MOST_COUNTED : ∃ t, mg "MOST_COUNTED" = some (.int 60 t) := ⟨_, PySem.W.mg_of X G q_MOST_COUNTED⟩
    have F_c_MOST_FAMILIES : ∃ t, mg "MOST_FAMILIES" = some (.int 400 t) := ⟨_, PySem.W.mg_of X G q_MOST_FAMILIES⟩
    have F_c_MOST_KINDS : ∃ t, mg "MOST_KINDS" = some (.int 8 t) := ⟨_, PySem.W.mg_of X G q_MOST_KINDS⟩
    have F_c_MOST_OF_KIND : ∃ t, mg "MOST_OF_KIND" = some (.int 1000000000000000000000000000000 t) := ⟨_, PySem.W.mg_of X G q_MOST_OF_KIND⟩
    have F_c_MOST_STATES : ∃ t, mg "MOST_STATES" = some (.int 5000 t) := ⟨_, PySem.W.mg_of X G q_MOST_STATES⟩
    have F_C_Kinds : CFt K (cm 9) := ⟨⟨pg9, hd9, po9, sa9⟩, ha9, hn, ht, hm9⟩
    have F_gC_Kinds : mg "Kinds" = some (.ref (cm 9)) := PySem.W.mg_of X G aC9
    have F_mk_Kinds : Mk K (cm 9) (fa 9) := ⟨mk9, w9_9, i9, kC9⟩
    have F_na_Kinds_people : NoAttr K (cm 9) "people" := na9_people
    have F_na_Kinds_things : NoAttr K (cm 9) "things" := na9_things
    have F_na_Kinds_allowed : NoAttr K (cm 9) "allowed" := na9_allowed
    have F_isiT_int : ∀ c b, tabT c = some b → PySem.W.kitOne K (.ref (cm c)) (.type "int") = some b := fun c b e => match c, e with | 0, e => by unfold tabT at e; exact nomatch e | 1, e => by unfold tabT at e; exact nomatch e | 2, e => by unfold tabT at e; exact nomatch e | 3, e => by unfold tabT at e; exact nomatch e | 4, e => by unfold tabT at e; exact nomatch e | 5, e => by unfold tabT at e; exact nomatch e | 6, e => by unfold tabT at e; exact nomatch e | 7, e => by unfold tabT at e; exact nomatch e | 8, e => by unfold tabT at e; exact nomatch e | 9, e => by cases e; exact kit_t it9_int | n + 10, e => by unfold tabT at e; repeat (rw [if_neg (by omega)] at e); cases e
    have F_isiT_bool : ∀ c b, tabT c = some b → PySem.W.kitOne K (.ref (cm c)) (.type "bool") = some b := fun c b e => match c, e with | 0, e => by unfold tabT at e; exact nomatch e | 1, e => by unfold tabT at e; exact nomatch e | 2, e => by unfold tabT at e; exact nomatch e | 3, e => by unfold tabT at e; exact nomatch e | 4, e => by unfold tabT at e; exact nomatch e | 5, e => by unfold tabT at e; exact nomatch e | 6, e => by unfold tabT at e; exact nomatch e | 7, e => by unfold tabT at e; exact nomatch e | 8, e => by unfold tabT at e; exact nomatch e | 9, e => by cases e; exact kit_t it9_bool | n + 10, e => by unfold tabT at e; repeat (rw [if_neg (by omega)] at e); cases e
    have F_isiT_tuple : ∀ c b, tabT c = some b → PySem.W.kitOne K (.ref (cm c)) (.type "tuple") = some b := fun c b e => match c, e with | 0, e => by unfold tabT at e; exact nomatch e | 1, e => by unfold tabT at e; exact nomatch e | 2, e => by unfold tabT at e; exact nomatch e | 3, e => by unfold tabT at e; exact nomatch e | 4, e => by unfold tabT at e; exact nomatch e | 5, e => by unfold tabT at e; exact nomatch e | 6, e => by unfold tabT at e; exact nomatch e | 7, e => by unfold tabT at e; exact nomatch e | 8, e => by unfold tabT at e; exact nomatch e | 9, e => by cases e; exact kit_t it9_tuple | n + 10, e => by unfold tabT at e; repeat (rw [if_neg (by omega)] at e); cases e
    have F_isiB_Kinds : ∀ S ∈ ["NoneType", "bool", "int", "str", "list", "tuple", "dict"], PySem.W.kitOne K (.type S) (.ref (cm 9)) = some false := fun S hS => by simp only [List.mem_cons, List.not_mem_nil, or_false] at hS; rcases hS with rfl | rfl | rfl | rfl | rfl | rfl | rfl <;> exact kit_r jc9 jt9 (by assumption) (fun z => nomatch z)
    have F_isiC_Kinds : ∀ c b, tabC_Kinds c = some b → PySem.W.kitOne K (.ref (cm c)) (.ref (cm 9)) = some b := fun c b e => match c, e with | 0, e => by unfold tabC_Kinds at e; exact nomatch e | 1, e => by unfold tabC_Kinds at e; exact nomatch e | 2, e => by unfold tabC_Kinds at e; exact nomatch e | 3, e => by unfold tabC_Kinds at e; exact nomatch e | 4, e => by unfold tabC_Kinds at e; exact nomatch e | 5, e => by unfold tabC_Kinds at e; exact nomatch e | 6, e => by unfold tabC_Kinds at e; exact nomatch e | 7, e => by unfold tabC_Kinds at e; exact nomatch e | 8, e => by unfold tabC_Kinds at e; exact nomatch e | 9, e => by cases e; exact kit_s | n + 10, e => by unfold tabC_Kinds at e; repeat (rw [if_neg (by omega)] at e); cases e
    have F_eqF : EqF K cm eqCl (fa 10) := fun c hc => by simp only [eqCl, List.mem_cons, List.not_mem_nil, or_false] at hc; subst hc <;> first | exact w9_10
    have F_eqI : PySem.W.isFn K (.ref (fa 10)) = true := i10
    have F_neF : ∀ c ∈ eqCl, NeF K (cm c) := fun c hc => by simp only [eqCl, List.mem_cons, List.not_mem_nil, or_false] at hc; subst hc <;> first | exact ⟨ne9, ob9⟩
    have F_nfF : NfF K cm eqCl eqNf := ⟨N1, N2⟩
    have F_E_NoNumber : ErC K mg (cm 31) "NoNumber" := ⟨eq31, ek31, eb31, et31, PySem.W.mg_of X G aC31⟩
    have F_E_NoSizes : ErC K mg (cm 34) "NoSizes" := ⟨eq34, ek34, eb34, et34, PySem.W.mg_of X G aC34⟩
    have F_gX_DrawError : mg "DrawError" = some (.ref (cm 30)) := PySem.W.mg_of X G aC30
    have F_gX_NoNumber : mg "NoNumber" = some (.ref (cm 31)) := PySem.W.mg_of X G aC31
    have F_gX_NoSizes : mg "NoSizes" = some (.ref (cm 34)) := PySem.W.mg_of X G aC34
    have F_gX_TooMany : mg "TooMany" = some (.ref (cm 32)) := PySem.W.mg_of X G aC32
    have F_EF_TooMany : ErF l.prog K mg (cm 32) "TooMany" "most" := erf_of (st := st_TooMany___init__) (qual := "TooMany.__init__") (p := "most") (f := "most") rfl (fun env => rfl) (by decide +kernel) rfl rfl (fun us hl => match us, hl with | [_, _], _ => rfl) (by decide) (by decide) exl32 exc32 exm32 exd32 exf32 extop exsup exany exk32 exs32 exv32 ⟨⟨_, _, _, _, _, _, _, _, _, _, _, _, _, _, _, exC32, exM32⟩, exS32, eb32, et32, exK32⟩ (PySem.W.mg_of X G aC32) exN32 ⟨exg32, exG32, eb32, exh32⟩ exi32 ext32
    have F_xm_NoNumber_DrawError : PySem.W.exmOne K (.ref (cm 31)) (.ref (cm 30)) = some true := exm_of eb30 ei30 et30 es31_30
    have F_xm_NoNumber_NoNumber : PySem.W.exmOne K (.ref (cm 31)) (.ref (cm 31)) = some true := exm_of eb31 ei31 et31 es31_31
    have F_xm_NoNumber_NoSizes : PySem.W.exmOne K (.ref (cm 31)) (.ref (cm 34)) = some false := exm_of eb34 ei34 et34 es31_34
    have F_xm_NoNumber_TooMany : PySem.W.exmOne K (.ref (cm 31)) (.ref (cm 32)) = some false := exm_of eb32 ei32 et32 es31_32
    have F_xm_NoSizes_DrawError : PySem.W.exmOne K (.ref (cm 34)) (.ref (cm 30)) = some true := exm_of eb30 ei30 et30 es34_30
    have F_xm_NoSizes_NoNumber : PySem.W.exmOne K (.ref (cm 34)) (.ref (cm 31)) = some false := exm_of eb31 ei31 et31 es34_31
    have F_xm_NoSizes_NoSizes : PySem.W.exmOne K (.ref (cm 34)) (.ref (cm 34)) = some true := exm_of eb34 ei34 et34 es34_34
    have F_xm_NoSizes_TooMany : PySem.W.exmOne K (.ref (cm 34)) (.ref (cm 32)) = some false := exm_of eb32 ei32 et32 es34_32
    have F_xm_TooMany_DrawError : PySem.W.exmOne K (.ref (cm 32)) (.ref (cm 30)) = some true := exm_of eb30 ei30 et30 es32_30
    have F_xm_TooMany_NoNumber : PySem.W.exmOne K (.ref (cm 32)) (.ref (cm 31)) = some false := exm_of eb31 ei31 et31 es32_31
    have F_xm_TooMany_NoSizes : PySem.W.exmOne K (.ref (cm 32)) (.ref (cm 34)) = some false := exm_of eb34 ei34 et34 es32_34
    have F_xm_TooMany_TooMany : PySem.W.exmOne K (.ref (cm 32)) (.ref (cm 32)) = some true := exm_of eb32 ei32 et32 es32_32
    exact { F_is_integer := F_F_is_integer, b_is_integer := F_b_is_integer, g_is_integer := F_g_is_integer, F_is_within := F_F_is_within, b_is_within := F_b_is_within, g_is_within := F_g_is_within, F_are_ascending := F_F_are_ascending, b_are_ascending := F_b_are_ascending, g_are_ascending := F_g_are_ascending, F_is_lot_of := F_F_is_lot_of, b_is_lot_of := F_b_is_lot_of, g_is_lot_of := F_g_is_lot_of, F_check_number := F_F_check_number, b_check_number := F_b_check_number, g_check_number := F_g_check_number, F_check_many := F_F_check_many, b_check_many := F_b_check_many, g_check_many := F_g_check_many, F_are_counts := F_F_are_counts, b_are_counts := F_b_are_counts, g_are_counts := F_g_are_counts, F_Kinds___init__ := F_F_Kinds___init__, b_Kinds___init__ := F_b_Kinds___init__, F_Kinds___eq__ := F_F_Kinds___eq__, b_Kinds___eq__ := F_b_Kinds___eq__, F_spread_out := F_F_spread_out, b_spread_out := F_b_spread_out, g_spread_out := F_g_spread_out, F_one_less := F_F_one_less, b_one_less := F_b_one_less, g_one_less := F_g_one_less, F_after_person := F_F_after_person, b_after_person := F_b_after_person, g_after_person := F_g_after_person, F_kinds_many := F_F_kinds_many, b_kinds_many := F_b_kinds_many, g_kinds_many := F_g_kinds_many, F_check_sizes := F_F_check_sizes, b_check_sizes := F_b_check_sizes, g_check_sizes := F_g_check_sizes, F_families := F_F_families, b_families := F_b_families, g_families := F_g_families, F_own_names := F_F_own_names, b_own_names := F_b_own_names, g_own_names := F_g_own_names, F_families_many := F_F_families_many, b_families_many := F_b_families_many, g_families_many := F_g_families_many, F__law_pool := F_F__law_pool, b__law_pool := F_b__law_pool, g__law_pool := F_g__law_pool, F__law_draw := F_F__law_draw, b__law_draw := F_b__law_draw, g__law_draw := F_g__law_draw, F__law_mixed := F_F__law_mixed, b__law_mixed := F_b__law_mixed, g__law_mixed := F_g__law_mixed, F__law_all := F_F__law_all, b__law_all := F_b__law_all, g__law_all := F_g__law_all, F__law_deep := F_F__law_deep, b__law_deep := F_b__law_deep, g__law_deep := F_g__law_deep, F__law_wide := F_F__law_wide, b__law_wide := F_b__law_wide, g__law_wide := F_g__law_wide, F__law_kind_rows := F_F__law_kind_rows, b__law_kind_rows := F_b__law_kind_rows, g__law_kind_rows := F_g__law_kind_rows, F__law_orders := F_F__law_orders, b__law_orders := F_b__law_orders, g__law_orders := F_g__law_orders, F__law_said := F_F__law_said, b__law_said := F_b__law_said, g__law_said := F_g__law_said, F__law_half_right := F_F__law_half_right, b__law_half_right := F_b__law_half_right, g__law_half_right := F_g__law_half_right, F__law_by_signs := F_F__law_by_signs, b__law_by_signs := F_b__law_by_signs, g__law_by_signs := F_g__law_by_signs, F__law_many_right := F_F__law_many_right, b__law_many_right := F_b__law_many_right, g__law_many_right := F_g__law_many_right, F_law := F_F_law, b_law := F_b_law, g_law := F_g_law, z_abs := F_z_abs, z_all := F_z_all, z_bool := F_z_bool, z_enumerate := F_z_enumerate, z_int := F_z_int, z_isinstance := F_z_isinstance, z_len := F_z_len, z_list := F_z_list, z_range := F_z_range, z_sorted := F_z_sorted, z_sum := F_z_sum, z_tuple := F_z_tuple, z_zip := F_z_zip, c_MOST_COUNTED := F_c_MOST_COUNTED, c_MOST_FAMILIES := F_c_MOST_FAMILIES, c_MOST_KINDS := F_c_MOST_KINDS, c_MOST_OF_KIND := F_c_MOST_OF_KIND, c_MOST_STATES := F_c_MOST_STATES, C_Kinds := F_C_Kinds, gC_Kinds := F_gC_Kinds, mk_Kinds := F_mk_Kinds, na_Kinds_people := F_na_Kinds_people, na_Kinds_things := F_na_Kinds_things, na_Kinds_allowed := F_na_Kinds_allowed, isiT_int := F_isiT_int, isiT_bool := F_isiT_bool, isiT_tuple := F_isiT_tuple, isiB_Kinds := F_isiB_Kinds, isiC_Kinds := F_isiC_Kinds, eqF := F_eqF, eqI := F_eqI, neF := F_neF, nfF := F_nfF, E_NoNumber := F_E_NoNumber, E_NoSizes := F_E_NoSizes, gX_DrawError := F_gX_DrawError, gX_NoNumber := F_gX_NoNumber, gX_NoSizes := F_gX_NoSizes, gX_TooMany := F_gX_TooMany, EF_TooMany := F_EF_TooMany, xm_NoNumber_DrawError := F_xm_NoNumber_DrawError, xm_NoNumber_NoNumber := F_xm_NoNumber_NoNumber, xm_NoNumber_NoSizes := F_xm_NoNumber_NoSizes, xm_NoNumber_TooMany := F_xm_NoNumber_TooMany, xm_NoSizes_DrawError := F_xm_NoSizes_DrawError, xm_NoSizes_NoNumber := F_xm_NoSizes_NoNumber, xm_NoSizes_NoSizes := F_xm_NoSizes_NoSizes, xm_NoSizes_TooMany := F_xm_NoSizes_TooMany, xm_TooMany_DrawError := F_xm_TooMany_DrawError, xm_TooMany_NoNumber := F_xm_TooMany_NoNumber, xm_TooMany_NoSizes := F_xm_TooMany_NoSizes, xm_TooMany_TooMany := F_xm_TooMany_TooMany }
  exact ⟨PySem.W.fnOf "law" "law" (defArgs st_law) (defBody st_law) (defScope st_law) .none kV31 dc31 pm31 an31 cd31 ct31, fun s v => .of_eq rfl, fun base _ _ => law_ok (ok_law (P := l.prog) (w := w) (base := base) T) plain⟩
end k83

open PySem PySem.W PyProof.Rows
set_option maxRecDepth 100000 in
set_option maxHeartbeats 0 in
theorem PySem.Challenge.cw_fullorring_k83_whole_families_counted_holds : PySem.Challenge.rw_fullorring_k83_whole_families_counted.Holds := by
  w_on; o_law; k_head; (case hw => w_witness2)
  k_fill
  refine DL.walk (l := PySem.Challenge.rw_fullorring_k83_whole_families_counted) (n := 63) (k := 8) (x := "_law_script") rfl (by decide) rfl ⟨rfl, by decide, by decide⟩ (fun w h Y => PySem.W.kIn_of Y) ?F
  case F =>
    intro w mg fa h KX G hmg
    refine' k83.head KX G hmg ?aC30 ?aC31 ?aC32 ?aC34 ?aC9 ?a2 ?l2 ?c2 ?k2 ?a3 ?l3 ?c3 ?k3 ?a4 ?l4 ?c4 ?k4 ?a5 ?l5 ?c5 ?k5 ?a6 ?l6 ?c6 ?k6 ?a7 ?l7 ?c7 ?k7 ?a8 ?l8 ?c8 ?k8 ?a9 ?i9 ?l9 ?c9 ?k9 ?a10 ?i10 ?l10 ?c10 ?k10 ?a11 ?l11 ?c11 ?k11 ?a12 ?l12 ?c12 ?k12 ?a13 ?l13 ?c13 ?k13 ?a14 ?l14 ?c14 ?k14 ?a15 ?l15 ?c15 ?k15 ?a16 ?l16 ?c16 ?k16 ?a17 ?l17 ?c17 ?k17 ?a18 ?l18 ?c18 ?k18 ?a19 ?l19 ?c19 ?k19 ?a20 ?l20 ?c20 ?k20 ?a21 ?l21 ?c21 ?k21 ?a22 ?l22 ?c22 ?k22 ?a23 ?l23 ?c23 ?k23 ?a24 ?l24 ?c24 ?k24 ?a25 ?l25 ?c25 ?k25 ?a26 ?l26 ?c26 ?k26 ?a27 ?l27 ?c27 ?k27 ?a28 ?l28 ?c28 ?k28 ?a29 ?l29 ?c29 ?k29 ?a30 ?l30 ?c30 ?k30 ?a31 ?l31 ?c31 ?k31 ?z_abs ?z_all ?z_bool ?z_enumerate ?z_int ?z_isinstance ?z_len ?z_list ?z_range ?z_sorted ?z_sum ?z_tuple ?z_zip ?q_MOST_COUNTED ?q_MOST_FAMILIES ?q_MOST_KINDS ?q_MOST_OF_KIND ?q_MOST_STATES ?hn ?ht ?pg9 ?hd9 ?po9 ?sa9 ?ha9 ?hm9 ?w9_9 ?mk9 ?kC9 ?na9_people ?na9_things ?na9_allowed ?it9_int ?it9_bool ?it9_tuple ?jc9 ?jt9 ?ib9_NoneType ?ib9_bool ?ib9_int ?ib9_str ?ib9_list ?ib9_tuple ?ib9_dict ?w9_10 ?ne9 ?ob9 ?nf9_9 ?nb9_NoneType ?nb9_bool ?nb9_int ?nb9_str ?nb9_list ?nb9_tuple ?nb9_dict ?eb31 ?et31 ?eq31 ?ek31 ?eb34 ?et34 ?eq34 ?ek34 ?exsup ?exany ?extop ?eb32 ?et32 ?exi32 ?exl32 ?exc32 ?exm32 ?exd32 ?exf32 ?exk32 ?exs32 ?exv32 ?exC32 ?exM32 ?exS32 ?exK32 ?exN32 ?exg32 ?exG32 ?exh32 ?ext32 ?eb30 ?et30 ?ei30 ?es31_30 ?ei31 ?es31_31 ?ei34 ?es31_34 ?ei32 ?es31_32 ?es34_30 ?es34_31 ?es34_34 ?es34_32 ?es32_30 ?es32_31 ?es32_34 ?es32_32 ?plain
    (case aC30 => k_is)
    (case aC31 => k_is)
    (case aC32 => k_is)
    (case aC34 => k_is)
    (case aC9 => k_is)
    (case a2 => k_is)
    (case l2 => k_is)
    (case c2 => k_is)
    (case k2 => k_is)
    (case a3 => k_is)
    (case l3 => k_is)
    (case c3 => k_is)
    (case k3 => k_is)
    (case a4 => k_is)
    (case l4 => k_is)
    (case c4 => k_is)
    (case k4 => k_is)
    (case a5 => k_is)
    (case l5 => k_is)
    (case c5 => k_is)
    (case k5 => k_is)
    (case a6 => k_is)
    (case l6 => k_is)
    (case c6 => k_is)
    (case k6 => k_is)
    (case a7 => k_is)
    (case l7 => k_is)
    (case c7 => k_is)
    (case k7 => k_is)
    (case a8 => k_is)
    (case l8 => k_is)
    (case c8 => k_is)
    (case k8 => k_is)
    (case a9 => k_is)
    (case i9 => k_is)
    (case l9 => k_is)
    (case c9 => k_is)
    (case k9 => k_is)
    (case a10 => k_is)
    (case i10 => k_is)
    (case l10 => k_is)
    (case c10 => k_is)
    (case k10 => k_is)
    (case a11 => k_is)
    (case l11 => k_is)
    (case c11 => k_is)
    (case k11 => k_is)
    (case a12 => k_is)
    (case l12 => k_is)
    (case c12 => k_is)
    (case k12 => k_is)
    (case a13 => k_is)
    (case l13 => k_is)
    (case c13 => k_is)
    (case k13 => k_is)
    (case a14 => k_is)
    (case l14 => k_is)
    (case c14 => k_is)
    (case k14 => k_is)
    (case a15 => k_is)
    (case l15 => k_is)
    (case c15 => k_is)
    (case k15 => k_is)
    (case a16 => k_is)
    (case l16 => k_is)
    (case c16 => k_is)
    (case k16 => k_is)
    (case a17 => k_is)
    (case l17 => k_is)
    (case c17 => k_is)
    (case k17 => k_is)
    (case a18 => k_is)
    (case l18 => k_is)
    (case c18 => k_is)
    (case k18 => k_is)
    (case a19 => k_is)
    (case l19 => k_is)
    (case c19 => k_is)
    (case k19 => k_is)
    (case a20 => k_is)
    (case l20 => k_is)
    (case c20 => k_is)
    (case k20 => k_is)
    (case a21 => k_is)
    (case l21 => k_is)
    (case c21 => k_is)
    (case k21 => k_is)
    (case a22 => k_is)
    (case l22 => k_is)
    (case c22 => k_is)
    (case k22 => k_is)
    (case a23 => k_is)
    (case l23 => k_is)
    (case c23 => k_is)
    (case k23 => k_is)
    (case a24 => k_is)
    (case l24 => k_is)
    (case c24 => k_is)
    (case k24 => k_is)
    (case a25 => k_is)
    (case l25 => k_is)
    (case c25 => k_is)
    (case k25 => k_is)
    (case a26 => k_is)
    (case l26 => k_is)
    (case c26 => k_is)
    (case k26 => k_is)
    (case a27 => k_is)
    (case l27 => k_is)
    (case c27 => k_is)
    (case k27 => k_is)
    (case a28 => k_is)
    (case l28 => k_is)
    (case c28 => k_is)
    (case k28 => k_is)
    (case a29 => k_is)
    (case l29 => k_is)
    (case c29 => k_is)
    (case k29 => k_is)
    (case a30 => k_is)
    (case l30 => k_is)
    (case c30 => k_is)
    (case k30 => k_is)
    (case a31 => k_is)
    (case l31 => k_is)
    (case c31 => k_is)
    (case k31 => k_is)
    (case z_abs => k_is)
    (case z_all => k_is)
    (case z_bool => k_is)
    (case z_enumerate => k_is)
    (case z_int => k_is)
    (case z_isinstance => k_is)
    (case z_len => k_is)
    (case z_list => k_is)
    (case z_range => k_is)
    (case z_sorted => k_is)
    (case z_sum => k_is)
    (case z_tuple => k_is)
    (case z_zip => k_is)
    (case q_MOST_COUNTED => k_is)
    (case q_MOST_FAMILIES => k_is)
    (case q_MOST_KINDS => k_is)
    (case q_MOST_OF_KIND => k_is)
    (case q_MOST_STATES => k_is)
    (case hn => k_is)
    (case ht => k_is)
    (case pg9 => k_is)
    (case hd9 => k_is)
    (case po9 => k_is)
    (case sa9 => k_is)
    (case ha9 => k_is)
    (case hm9 => k_is)
    (case w9_9 => k_is)
    (case mk9 => k_is)
    (case kC9 => k_is)
    (case na9_people => k_is)
    (case na9_things => k_is)
    (case na9_allowed => k_is)
    (case it9_int => k_is)
    (case it9_bool => k_is)
    (case it9_tuple => k_is)
    (case jc9 => k_is)
    (case jt9 => k_is)
    (case ib9_NoneType => k_is)
    (case ib9_bool => k_is)
    (case ib9_int => k_is)
    (case ib9_str => k_is)
    (case ib9_list => k_is)
    (case ib9_tuple => k_is)
    (case ib9_dict => k_is)
    (case w9_10 => k_is)
    (case ne9 => k_is)
    (case ob9 => k_is)
    (case nf9_9 => k_is)
    (case nb9_NoneType => k_is)
    (case nb9_bool => k_is)
    (case nb9_int => k_is)
    (case nb9_str => k_is)
    (case nb9_list => k_is)
    (case nb9_tuple => k_is)
    (case nb9_dict => k_is)
    (case eb31 => k_is)
    (case et31 => k_is)
    (case eq31 => k_exc)
    (case ek31 => k_is)
    (case eb34 => k_is)
    (case et34 => k_is)
    (case eq34 => k_exc)
    (case ek34 => k_is)
    (case exsup => k_is)
    (case exany => k_is)
    (case extop => (first | rfl | decide +kernel))
    (case eb32 => k_is)
    (case et32 => k_is)
    (case exi32 => k_is)
    (case exl32 => k_is)
    (case exc32 => k_is)
    (case exm32 => k_is)
    (case exd32 => k_is)
    (case exf32 => (first | rfl | decide +kernel))
    (case exk32 => ks_is)
    (case exs32 => k_is)
    (case exv32 => k_is)
    (case exC32 => k_is)
    (case exM32 => (first | rfl | decide +kernel))
    (case exS32 => k_is)
    (case exK32 => k_is)
    (case exN32 => k_is)
    (case exg32 => k_is)
    (case exG32 => k_is)
    (case exh32 => k_is)
    (case ext32 => k_is)
    (case eb30 => k_is)
    (case et30 => k_is)
    (case ei30 => k_is)
    (case es31_30 => k_is)
    (case ei31 => k_is)
    (case es31_31 => k_is)
    (case ei34 => k_is)
    (case es31_34 => k_is)
    (case ei32 => k_is)
    (case es31_32 => k_is)
    (case es34_30 => k_is)
    (case es34_31 => k_is)
    (case es34_34 => k_is)
    (case es34_32 => k_is)
    (case es32_30 => k_is)
    (case es32_31 => k_is)
    (case es32_34 => k_is)
    (case es32_32 => k_is)
    (case plain => exact k83.law_true)

