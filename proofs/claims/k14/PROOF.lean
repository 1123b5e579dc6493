import PyProof.Rows.All
import Wide.All
import OpenK.AllK
import Wide.FinOn
import HandS.ForMost
import HandS.IsInst
import HandS.Walk
import HandS.Zip
import HandS.TupAny
import HandS.Conv
import HandS.SortInts
import HandS.Wide
import HandS.WideBits
import HandS.Flow
import HandS.TupSets
import HandS.OwnEq
import KE.GoesMore
import KE.GoesEnum
import HandS.Dict
import HandS.Style
import KE.KDictDisplayH
import PyProof.Rows.TupDisplay
import HandS.Comp
import HandS.SetFor
import HandS.Strs
import HandS.TupMul
import HandS.DictComp
import HandS.Finally
import PySem.Challenge.RW_fullorring_k14_whole_great_numbers_of_de
set_option Elab.async false
set_option linter.all false
set_option maxRecDepth 100000
set_option maxHeartbeats 4000000

/-! The data layer: what a value is (D), what is owned (Od), how they lie in the abstract heap. -/
namespace DL
open PySem PySem.Spec PyProof.Rows L2

inductive D where
  | non | bl (b : Bool) | int (i : Int) | str (x : Str) | cn (n : Nat)
  | lst (xs : List D) | tup (xs : List D) | obj (c : Nat) (fs : List (Str × D)) | scr (ns : List Int)
  | dik (kvs : List (L2.Key × D)) | dit (kvs : List (List L2.Key × D))
  /-- a dict that keeps what a function of its keys tells: the function's number and what it depends on -/
  | memo (n : Nat) (ps : List (List Int))
  /-- a dict that a loop walks, or has walked -/
  | lik (kvs : List (L2.Key × D)) | lit (kvs : List (List L2.Key × D))
/-- the classes' addresses, and the functions whose values are kept -/
structure Cm where
  a : Nat → Addr
  f : Nat → List (List Int) → List L2.Key → Option D
instance : CoeFun Cm (fun _ => Nat → Addr) := ⟨Cm.a⟩
def tagL (ps : List (List Int)) : List V := ps.flatMap fun r => .non :: r.map V.int
abbrev tagM (n : Nat) (ps : List (List Int)) : HO := .xd ((("" : Str), V.int n) :: (tagL ps).map fun v => (("" : Str), v))
inductive Fd where
  | val (d : D) | lst (ds : List D) | dik (kvs : List (L2.Key × D)) | dit (kvs : List (List L2.Key × D))
inductive Od where
  | fd (x : Fd) | obj (c : Nat) (fs : List (Str × Fd)) | ll (xss : List (List D))
def Fd.frz : Fd → D
  | .val d => d
  | .lst ds => .lst ds
  | .dik kvs => .dik kvs
  | .dit kvs => .dit kvs
def Od.frz : Od → D
  | .fd x => x.frz
  | .obj c fs => .obj c (fs.map fun q => (q.1, q.2.frz))
  | .ll xss => .lst (xss.map .lst)
abbrev Env := List (Option Od)
abbrev Rg := Addr → Prop

/-- a class of one's own whose instances' fields are plainly read and stored -/
structure CFt (K : PySem.W.Frag) (C : Addr) : Prop where
  cl : Cls K C
  ha : PySem.W.findIn K (.ref C) "__class__" = some (some (.builtin "object.__class__"))
  hn : PySem.W.specialIn K (.builtin "object.__class__") "__get__" = some (some (.builtin "getset_descriptor.__get__"))
  ht : PySem.W.takesIn K (.builtin "object.__class__") = some true
  hm : PySem.W.mroIn K C (.type "object") = some true
structure COk (K : PySem.W.Frag) (C : Addr) (ns : List Str) : Prop where
  ft : CFt K C
  no : ∀ f ∈ ns, NoAttr K C f
section
variable (K : PySem.W.Frag) (cm : Cm) (F : Hp)
mutual
inductive Rp : V → D → Prop
  | non : Rp .non .non
  | bl (b : Bool) : Rp (.bl b) (.bl b)
  | int (i : Int) : Rp (.int i) (.int i)
  | str (x : Str) : Rp (.str x) (.str x)
  | cn (n : Nat) : Rp (.ref (cm n)) (.cn n)
  | lst {a : Addr} {xs : List V} {ds : List D} : F a = some (.lst xs) → RpA xs ds → Rp (.ref a) (.lst ds)
  | scr {a : Addr} {ns : List Int} : SqL K F a (ns.map V.int) → Rp (.ref a) (.scr ns)
  | tup {a : Addr} {xs : List V} {ds : List D} : F a = some (.tup xs) → RpA xs ds → Rp (.ref a) (.tup ds)
  | obj {a dx : Addr} {c : Nat} {fs : List (Str × V)} {gs : List (Str × D)} : F a = some (.ins (cm c) dx fs) → COk K (cm c) (fs.map (·.1)) → fs.map (·.1) = gs.map (·.1) → RpA (fs.map (·.2)) (gs.map (·.2)) → Rp (.ref a) (.obj c gs)
  | dik {a : Addr} {kvs : List (L2.Key × V)} {ks : List (L2.Key × D)} : F a = some (.dK kvs) → kvs.map (·.1) = ks.map (·.1) → RpA (kvs.map (·.2)) (ks.map (·.2)) → Rp (.ref a) (.dik ks)
  | dit {a : Addr} {kvs : List (List L2.Key × V)} {ks : List (List L2.Key × D)} : F a = some (.dT kvs) → kvs.map (·.1) = ks.map (·.1) → RpA (kvs.map (·.2)) (ks.map (·.2)) → Rp (.ref a) (.dit ks)
  | memo {a : Addr} {n : Nat} {ps : List (List Int)} : F a = some (tagM n ps) → Rp (.ref a) (.memo n ps)
  | lik {a : Addr} {kvs : List (L2.Key × V)} {ks : List (L2.Key × D)} : L2.Rd F a (.dK kvs) → kvs.map (·.1) = ks.map (·.1) → RpA (kvs.map (·.2)) (ks.map (·.2)) → Rp (.ref a) (.lik ks)
  | lit {a : Addr} {kvs : List (List L2.Key × V)} {ks : List (List L2.Key × D)} : L2.Rd F a (.dT kvs) → kvs.map (·.1) = ks.map (·.1) → RpA (kvs.map (·.2)) (ks.map (·.2)) → Rp (.ref a) (.lit ks)
inductive RpA : List V → List D → Prop
  | nil : RpA [] []
  | cons {v : V} {vs : List V} {d : D} {ds : List D} : Rp v d → RpA vs ds → RpA (v :: vs) (d :: ds)
end
end
section
variable {K : PySem.W.Frag} {cm : Cm} {F F' H H' : Hp}
theorem rd_mono {a : Addr} {u : HO} (e : Same F F') (h : L2.Rd F a u) : L2.Rd F' a u := h.elim (fun h => .inl (e _ _ h)) fun ⟨o, h⟩ => .inr ⟨o, e _ _ h⟩
theorem sqT_mono {a : Addr} {xs : List V} (e : Same F F') (h : SqT K F a xs) : SqT K F' a xs := by
  rcases h with (h | ⟨o, h⟩) | h
  · exact .inl (.inl (e _ _ h))
  · exact .inl (.inr ⟨o, e _ _ h⟩)
  · exact .inr h
mutual
theorem Rp.mono (e : Same F F') : ∀ {v : V} {d : D}, Rp K cm F v d → Rp K cm F' v d
  | _, _, .non => .non
  | _, _, .bl b => .bl b
  | _, _, .int b => .int b
  | _, _, .str b => .str b
  | _, _, .cn b => .cn b
  | _, _, .lst h r => .lst (e _ _ h) (RpA.mono e r)
  | _, _, .scr h => .scr (e.seq h)
  | _, _, .tup h r => .tup (e _ _ h) (RpA.mono e r)
  | _, _, .obj h c n r => .obj (e _ _ h) c n (RpA.mono e r)
  | _, _, .dik h n r => .dik (e _ _ h) n (RpA.mono e r)
  | _, _, .dit h n r => .dit (e _ _ h) n (RpA.mono e r)
  | _, _, .memo h => .memo (e _ _ h)
  | _, _, .lik h n r => .lik (rd_mono e h) n (RpA.mono e r)
  | _, _, .lit h n r => .lit (rd_mono e h) n (RpA.mono e r)
theorem RpA.mono (e : Same F F') : ∀ {vs : List V} {ds : List D}, RpA K cm F vs ds → RpA K cm F' vs ds
  | _, _, .nil => .nil
  | _, _, .cons h r => .cons (Rp.mono e h) (RpA.mono e r)
end
theorem RpA.len : ∀ {vs : List V} {ds : List D}, RpA K cm F vs ds → vs.length = ds.length
  | _, _, .nil => rfl
  | _, _, .cons h r => by rw [List.length_cons, List.length_cons, RpA.len r]
theorem RpA.app : ∀ {vs ws : List V} {ds es : List D}, RpA K cm F vs ds → RpA K cm F ws es → RpA K cm F (vs ++ ws) (ds ++ es)
  | _, _, _, _, .nil, r => r
  | _, _, _, _, .cons h t, r => .cons h (RpA.app t r)
theorem RpA.get : ∀ {vs : List V} {ds : List D} {i : Nat} {v : V}, RpA K cm F vs ds → vs[i]? = some v → ∃ d, ds[i]? = some d ∧ Rp K cm F v d
  | _, _, _, _, .nil, e => by simp at e
  | _, _, 0, _, .cons h _, e => by simp at e; subst e; exact ⟨_, rfl, h⟩
  | _, _, i + 1, v, .cons _ t, e => by
    obtain ⟨d, h1, h2⟩ := RpA.get (i := i) (v := v) t (by simpa using e)
    exact ⟨d, by simpa using h1, h2⟩
theorem RpA.getD : ∀ {vs : List V} {ds : List D} {i : Nat} {d : D}, RpA K cm F vs ds → ds[i]? = some d → ∃ v, vs[i]? = some v ∧ Rp K cm F v d
  | _, _, _, _, .nil, e => by simp at e
  | _, _, 0, _, .cons h _, e => by simp at e; subst e; exact ⟨_, rfl, h⟩
  | _, _, i + 1, d, .cons _ t, e => by
    obtain ⟨v, h1, h2⟩ := RpA.getD (i := i) (d := d) t (by simpa using e)
    exact ⟨v, by simpa using h1, h2⟩
theorem RpA.set {v : V} {d : D} (h : Rp K cm F v d) : ∀ {vs : List V} {ds : List D} (i : Nat), RpA K cm F vs ds → RpA K cm F (vs.set i v) (ds.set i d)
  | _, _, _, .nil => .nil
  | _, _, 0, .cons _ t => .cons h t
  | _, _, i + 1, .cons q t => .cons q (RpA.set h i t)
theorem RpA.erase : ∀ {vs : List V} {ds : List D} (i : Nat), RpA K cm F vs ds → RpA K cm F (vs.eraseIdx i) (ds.eraseIdx i)
  | _, _, _, .nil => .nil
  | _, _, 0, .cons _ t => t
  | _, _, i + 1, .cons q t => .cons q (RpA.erase i t)
theorem RpA.take : ∀ {vs : List V} {ds : List D} (i : Nat), RpA K cm F vs ds → RpA K cm F (vs.take i) (ds.take i)
  | _, _, 0, _ => .nil
  | _, _, i + 1, .nil => .nil
  | _, _, i + 1, .cons q t => .cons q (RpA.take i t)
theorem RpA.drop : ∀ {vs : List V} {ds : List D} (i : Nat), RpA K cm F vs ds → RpA K cm F (vs.drop i) (ds.drop i)
  | _, _, 0, r => r
  | _, _, i + 1, .nil => .nil
  | _, _, i + 1, .cons q t => RpA.drop i t
theorem RpA.rev : ∀ {vs : List V} {ds : List D}, RpA K cm F vs ds → RpA K cm F vs.reverse ds.reverse
  | _, _, .nil => .nil
  | _, _, .cons q t => by rw [List.reverse_cons, List.reverse_cons]; exact (RpA.rev t).app (.cons q .nil)
theorem RpA.ints : ∀ (ns : List Int), RpA K cm F (ns.map V.int) (ns.map D.int)
  | [] => .nil
  | n :: ns => .cons (.int n) (RpA.ints ns)
/-- all data are ints -/
def toInts : List D → Option (List Int)
  | [] => some []
  | .int i :: r => (toInts r).map (i :: ·)
  | _ => none
theorem RpA.toInts : ∀ {vs : List V} {ds : List D} {ns : List Int}, RpA K cm F vs ds → toInts ds = some ns → vs = ns.map V.int
  | _, _, _, .nil, e => by unfold DL.toInts at e; cases e; rfl
  | _, _, ns, .cons (d := d) (ds := ds) h r, e => by
    cases h <;> unfold DL.toInts at e <;> try cases e
    cases q : DL.toInts ds with
    | none => rw [q] at e; cases e
    | some ms => rw [q] at e; cases e; rw [List.map_cons, RpA.toInts r q]
def toBls : List D → Option (List Bool)
  | [] => some []
  | .bl i :: r => (toBls r).map (i :: ·)
  | _ => none
theorem RpA.toBls : ∀ {vs : List V} {ds : List D} {ns : List Bool}, RpA K cm F vs ds → toBls ds = some ns → vs = ns.map V.bl
  | _, _, _, .nil, e => by unfold DL.toBls at e; cases e; rfl
  | _, _, ns, .cons (d := d) (ds := ds) h r, e => by
    cases h <;> unfold DL.toBls at e <;> try cases e
    cases q : DL.toBls ds with
    | none => rw [q] at e; cases e
    | some ms => rw [q] at e; cases e; rw [List.map_cons, RpA.toBls r q]
def toStrs : List D → Option (List Str)
  | [] => some []
  | .str i :: r => (toStrs r).map (i :: ·)
  | _ => none
theorem RpA.toStrs : ∀ {vs : List V} {ds : List D} {ns : List Str}, RpA K cm F vs ds → toStrs ds = some ns → vs = ns.map V.str
  | _, _, _, .nil, e => by unfold DL.toStrs at e; cases e; rfl
  | _, _, ns, .cons (d := d) (ds := ds) h r, e => by
    cases h <;> unfold DL.toStrs at e <;> try cases e
    cases q : DL.toStrs ds with
    | none => rw [q] at e; cases e
    | some ms => rw [q] at e; cases e; rw [List.map_cons, RpA.toStrs r q]
end

/-! ### what is owned -/
section
variable (K : PySem.W.Frag) (cm : Cm) (F H : Hp)
inductive OwF : V → Fd → Rg → Prop
  | val {v : V} {d : D} {S : Rg} : Rp K cm F v d → OwF v (.val d) S
  | lst {p : Addr} {vs : List V} {ds : List D} {S : Rg} : H p = some (.lst vs) → RpA K cm F vs ds → S p → OwF (.ref p) (.lst ds) S
  | dik {p : Addr} {kvs : List (L2.Key × V)} {ks : List (L2.Key × D)} {S : Rg} : H p = some (.dK kvs) → kvs.map (·.1) = ks.map (·.1) → RpA K cm F (kvs.map (·.2)) (ks.map (·.2)) → S p → OwF (.ref p) (.dik ks) S
  | dit {p : Addr} {kvs : List (List L2.Key × V)} {ks : List (List L2.Key × D)} {S : Rg} : H p = some (.dT kvs) → kvs.map (·.1) = ks.map (·.1) → RpA K cm F (kvs.map (·.2)) (ks.map (·.2)) → S p → OwF (.ref p) (.dit ks) S
inductive OwFs : List (Str × V) → List (Str × Fd) → Rg → Prop
  | nil {S : Rg} : OwFs [] [] S
  | cons {n : Str} {v : V} {x : Fd} {fs : List (Str × V)} {gs : List (Str × Fd)} {S S1 S2 : Rg} : OwF K cm F H v x S1 → OwFs fs gs S2 → (∀ p, S1 p → ¬ S2 p) → (∀ p, S1 p → S p) → (∀ p, S2 p → S p) → OwFs ((n, v) :: fs) ((n, x) :: gs) S
/-- lists of one's own in a list of one's own -/
inductive LLs : List Addr → List (List D) → Rg → Prop
  | nil {S : Rg} : LLs [] [] S
  | cons {q : Addr} {vs : List V} {ds : List D} {ps : List Addr} {xss : List (List D)} {S : Rg} : H q = some (.lst vs) → RpA K cm F vs ds → S q → LLs ps xss S → LLs (q :: ps) (ds :: xss) S
inductive Ow : V → Od → Rg → Prop
  | fd {v : V} {x : Fd} {S : Rg} : OwF K cm F H v x S → Ow v (.fd x) S
  | obj {p dx : Addr} {c : Nat} {fs : List (Str × V)} {gs : List (Str × Fd)} {S S' : Rg} : H p = some (.ins (cm c) dx fs) → COk K (cm c) (fs.map (·.1)) → OwFs K cm F H fs gs S' → ¬ S' p → (∀ q, S' q → S q) → S p → Ow (.ref p) (.obj c gs) S
  | ll {p : Addr} {ps : List Addr} {xss : List (List D)} {S : Rg} : H p = some (.lst (ps.map V.ref)) → LLs K cm F H ps xss S → (p :: ps).Nodup → S p → Ow (.ref p) (.ll xss) S
end
section
variable {K : PySem.W.Frag} {cm : Cm} {F F' H H' : Hp}
theorem OwF.mono {v : V} {x : Fd} {S S' : Rg} (h : OwF K cm F H v x S) (e : Same F F') (k : ∀ p u, H p = some u → S p → H' p = some u) (s : ∀ p, S p → S' p) : OwF K cm F' H' v x S' := by
  cases h with
  | val r => exact .val (r.mono e)
  | lst h r z => exact .lst (k _ _ h z) (r.mono e) (s _ z)
  | dik h n r z => exact .dik (k _ _ h z) n (r.mono e) (s _ z)
  | dit h n r z => exact .dit (k _ _ h z) n (r.mono e) (s _ z)
theorem OwFs.mono {fs : List (Str × V)} {gs : List (Str × Fd)} {S S' : Rg} (h : OwFs K cm F H fs gs S) (e : Same F F') (k : ∀ p u, H p = some u → S p → H' p = some u) (s : ∀ p, S p → S' p) : OwFs K cm F' H' fs gs S' := by
  induction h generalizing S' with
  | nil => exact .nil
  | cons h r d a b ih => exact .cons (h.mono e (fun p u q z => k p u q (a p z)) fun _ z => z) (ih (fun p u q z => k p u q (b p z)) fun _ z => z) d (fun p z => s p (a p z)) fun p z => s p (b p z)
theorem LLs.mono {ps : List Addr} {xss : List (List D)} {S S' : Rg} (h : LLs K cm F H ps xss S) (e : Same F F') (k : ∀ p u, H p = some u → S p → H' p = some u) (s : ∀ p, S p → S' p) : LLs K cm F' H' ps xss S' := by
  induction h with
  | nil => exact .nil
  | cons h r z t ih => exact .cons (k _ _ h z) (r.mono e) (s _ z) (ih k s)
theorem Ow.mono {v : V} {x : Od} {S S' : Rg} (h : Ow K cm F H v x S) (e : Same F F') (k : ∀ p u, H p = some u → S p → H' p = some u) (s : ∀ p, S p → S' p) : Ow K cm F' H' v x S' := by
  cases h with
  | fd r => exact .fd (r.mono e k s)
  | obj h c r n a z => exact .obj (k _ _ h z) c (r.mono e (fun p u q w => k p u q (a p w)) fun _ w => w) n (fun p w => s p (a p w)) (s _ z)
  | ll h r n z => exact .ll (k _ _ h z) (r.mono e k s) n (s _ z)
/-- frozen where F holds all that is owned -/
theorem OwF.frz {v : V} {x : Fd} {S : Rg} (h : OwF K cm F H v x S) (e : Same F F') (k : ∀ p u, H p = some u → S p → F' p = some u) : Rp K cm F' v x.frz := by
  cases h with
  | val r => exact r.mono e
  | lst h r z => exact .lst (k _ _ h z) (r.mono e)
  | dik h n r z => exact .dik (k _ _ h z) n (r.mono e)
  | dit h n r z => exact .dit (k _ _ h z) n (r.mono e)
theorem OwFs.names {fs : List (Str × V)} {gs : List (Str × Fd)} {S : Rg} (h : OwFs K cm F H fs gs S) : fs.map (·.1) = gs.map (·.1) := by
  induction h with
  | nil => rfl
  | cons _ _ _ _ _ ih => rw [List.map_cons, List.map_cons, ih]
theorem OwFs.frz {fs : List (Str × V)} {gs : List (Str × Fd)} {S : Rg} (h : OwFs K cm F H fs gs S) (e : Same F F') (k : ∀ p u, H p = some u → S p → F' p = some u) : RpA K cm F' (fs.map (·.2)) ((gs.map fun q => (q.1, q.2.frz)).map (·.2)) := by
  induction h with
  | nil => exact .nil
  | cons h r d a b ih => exact .cons (h.frz e fun p u q z => k p u q (a p z)) (ih fun p u q z => k p u q (b p z))
theorem LLs.frz {ps : List Addr} {xss : List (List D)} {S : Rg} (h : LLs K cm F H ps xss S) (e : Same F F') (k : ∀ p u, H p = some u → S p → F' p = some u) : RpA K cm F' (ps.map V.ref) (xss.map .lst) := by
  induction h with
  | nil => exact .nil
  | cons h r z t ih => exact .cons (.lst (k _ _ h z) (r.mono e)) (ih k)
theorem Ow.frz {v : V} {x : Od} {S : Rg} (h : Ow K cm F H v x S) (e : Same F F') (k : ∀ p u, H p = some u → S p → F' p = some u) : Rp K cm F' v x.frz := by
  cases h with
  | fd r => exact r.frz e k
  | obj h c r n a z =>
    refine .obj (k _ _ h z) c ?_ (r.frz e fun p u q w => k p u q (a p w))
    rw [r.names, List.map_map]; rfl
  | ll h r n z => exact .lst (k _ _ h z) (r.frz e k)
end

/-! ### the state -/
def Un (O : Nat → Rg) : Rg := fun p => ∃ i, O i p
/-- no mark -/
def NX (u : HO) : Prop := ∀ n ps, u ≠ tagM n ps
/-- no tuple -/
def NT (u : HO) : Prop := (∀ xs, u ≠ .tup xs) ∧ NX u
abbrev HU := {u : HO // NT u}
theorem nt_l {xs : List V} : NT (.lst xs) := ⟨fun _ h => (nomatch h), fun _ _ h => (nomatch h)⟩
theorem nt_k {xs : List (L2.Key × V)} : NT (.dK xs) := ⟨fun _ h => (nomatch h), fun _ _ h => (nomatch h)⟩
theorem nt_t {xs : List (List L2.Key × V)} : NT (.dT xs) := ⟨fun _ h => (nomatch h), fun _ _ h => (nomatch h)⟩
theorem nt_i {a b : Addr} {xs : List (Str × V)} : NT (.ins a b xs) := ⟨fun _ h => (nomatch h), fun _ _ h => (nomatch h)⟩
/-- what is frozen stands in the heap; where a mark stands, something stands -/
def SmH (F H : Hp) : Prop := ∀ p u, F p = some u → (NX u → H p = some u) ∧ ∃ w, H p = some w
section
variable {F F' H H' : Hp}
theorem SmH.refl (F : Hp) : SmH F F := fun _ _ e => ⟨fun _ => e, _, e⟩
theorem SmH.at (e : SmH F H) {p : Addr} {u : HO} (h : F p = some u) (n : NX u := by first | assumption | exact fun _ _ h => nomatch h | exact And.right (by assumption)) : H p = some u := (e p u h).1 n
theorem SmH.free (e : SmH F H) {p : Addr} (h : H p = none) : F p = none := by
  cases q : F p with
  | none => rfl
  | some u =>
    obtain ⟨w, z⟩ := (e p u q).2
    rw [h] at z; cases z
theorem _root_.L2.Same.trh (e : Same F F') (k : SmH F' H) : SmH F H := fun p u h => k p u (e p u h)
theorem SmH.trans (k : SmH F H) (e : Same H H') : SmH F H' := fun p u h => ⟨fun n => e _ _ ((k p u h).1 n), let ⟨w, z⟩ := (k p u h).2; ⟨w, e _ _ z⟩⟩
theorem SmH.rd (e : SmH F H) {p : Addr} {u : HO} (h : L2.Rd F p u) (n : NX u := by first | assumption | exact fun _ _ h => nomatch h | exact And.right (by assumption)) : L2.Rd H p u := h.elim (fun h => .inl (e.at h)) fun ⟨o, h⟩ => .inr ⟨o, e.at h⟩
theorem SmH.seq {K : PySem.W.Frag} {a : Addr} {xs : List V} (e : SmH F H) (h : SqL K F a xs) : SqL K H a xs := by
  rcases h with (h | ⟨o, h⟩) | h
  · exact .inl (.inl (e.at h))
  · exact .inl (.inr ⟨o, e.at h⟩)
  · exact .inr h
theorem SmH.sqT {K : PySem.W.Frag} {a : Addr} {xs : List V} (e : SmH F H) (h : SqT K F a xs) : SqT K H a xs := by
  rcases h with (h | ⟨o, h⟩) | h
  · exact .inl (.inl (e.at h))
  · exact .inl (.inr ⟨o, e.at h⟩)
  · exact .inr h
end
theorem tupT {F H : Hp} {K : PySem.W.Frag} {a : Addr} {xs : List V} (e : SmH F H) (h : F a = some (.tup xs)) : SqT K H a xs := .of (e.at h)
theorem tagL_inj : ∀ {ps qs : List (List Int)}, tagL ps = tagL qs → ps = qs := by
  have cut : ∀ (r q : List Int) (a b : List V), (a = [] ∨ ∃ t, a = .non :: t) → (b = [] ∨ ∃ t, b = .non :: t) → r.map V.int ++ a = q.map V.int ++ b → r = q ∧ a = b := by
    intro r
    induction r with
    | nil =>
      intro q a b ha hb e
      cases q with
      | nil => exact ⟨rfl, e⟩
      | cons x q =>
        rcases ha with rfl | ⟨t, rfl⟩
        · cases e
        · have := (List.cons.inj e).1; cases this
    | cons y r ih =>
      intro q a b ha hb e
      cases q with
      | nil =>
        rcases hb with rfl | ⟨t, rfl⟩
        · cases e
        · have := (List.cons.inj e).1; cases this
      | cons x q =>
        obtain ⟨h1, h2⟩ := List.cons.inj e
        cases h1
        obtain ⟨rfl, rfl⟩ := ih q a b ha hb h2
        exact ⟨rfl, rfl⟩
  have hd : ∀ ps, tagL ps = [] ∨ ∃ t, tagL ps = .non :: t := fun ps => by
    cases ps with
    | nil => exact .inl rfl
    | cons r ps => exact .inr ⟨_, rfl⟩
  intro ps
  induction ps with
  | nil =>
    intro qs e
    cases qs with
    | nil => rfl
    | cons q qs => cases e
  | cons r ps ih =>
    intro qs e
    cases qs with
    | nil => cases e
    | cons q qs =>
      obtain ⟨h1, h2⟩ := cut r q (tagL ps) (tagL qs) (hd _) (hd _) (List.cons.inj e).2
      rw [h1, ih h2]
theorem tagM_inj {n m : Nat} {ps qs : List (List Int)} (h : tagM n ps = tagM m qs) : n = m ∧ ps = qs := by
  have h := List.cons.inj (HO.xd.inj h)
  have h1 := V.int.inj (Prod.mk.inj h.1).2
  have h2 : tagL ps = tagL qs := by
    have := congrArg (List.map (·.2)) h.2
    rw [List.map_map, List.map_map] at this
    have e : ((fun q : Str × V => q.2) ∘ fun v => (("" : Str), v)) = id := rfl
    rwa [e, List.map_id, List.map_id] at this
  exact ⟨by omega, tagL_inj h2⟩
/-- the dicts that keep what functions tell -/
def MM (K : PySem.W.Frag) (cm : Cm) (F H : Hp) : Prop := ∀ p n ps, F p = some (tagM n ps) → ∃ kvs, H p = some (.dT kvs) ∧ ∀ q ∈ kvs, ∃ d, cm.f n ps q.1 = some d ∧ Rp K cm F q.2 d
section
variable {K : PySem.W.Frag} {cm : Cm} {F F' H H' : Hp}
theorem MM.upd {p : Addr} {o : HO} (m : MM K cm F H) (h : F p = none) : MM K cm F (upd H p o) := fun q n ps e => by
  obtain ⟨kvs, h1, h2⟩ := m q n ps e
  exact ⟨kvs, by rw [upd_ne (ne_of_none e h)]; exact h1, h2⟩
theorem MM.grow (m : MM K cm F H) (h : Same H H') : MM K cm F H' := fun q n ps e => by
  obtain ⟨kvs, h1, h2⟩ := m q n ps e
  exact ⟨kvs, h _ _ h1, h2⟩
theorem MM.ext (m : MM K cm F H) (h : Same F F') (n : ∀ p n ps, F' p = some (tagM n ps) → F p = some (tagM n ps)) : MM K cm F' H := fun q k ps e => by
  obtain ⟨kvs, h1, h2⟩ := m q k ps (n q k ps e)
  exact ⟨kvs, h1, fun z hz => let ⟨d, e1, e2⟩ := h2 z hz; ⟨d, e1, e2.mono h⟩⟩
end
structure Sts (K : PySem.W.Frag) (cm : Cm) (F H : Hp) (σ : L2.St) (env : Env) (O : Nat → Rg) : Prop where
  fh : SmH F H
  len : σ.length = env.length
  at_ : ∀ i o, env[i]? = some (some o) → ∃ v, σ[i]? = some (some v) ∧ Ow K cm F H v o (O i)
  ow : ∀ i p, O i p → F p = none ∧ ∃ u : HU, H p = some u.1
  dj : ∀ i j p, O i p → O j p → i = j
  mm : MM K cm F H
structure Go (S : Rg) (F H : Hp) (S' : Rg) (F' H' : Hp) : Prop where
  ff : Same F F'
  hh : ∀ p (u : HU), H p = some u.1 → F p = none → ¬ S p → H' p = some u.1
  fr : ∀ p, F' p ≠ none → F p ≠ none ∨ H p = none ∨ S p ∨ ∃ w, H p = some w ∧ ¬ NT w
  ss : ∀ p, S' p → S p ∨ H p = none
  al : ∀ p, H p ≠ none → H' p ≠ none
section
variable {K : PySem.W.Frag} {cm : Cm} {F H F1 H1 F2 H2 : Hp} {S S1 S2 : Rg}
theorem Go.refl : Go S F H S F H := ⟨Same.refl _, fun _ _ h _ _ => h, fun _ h => .inl h, fun _ h => .inl h, fun _ h => h⟩
theorem Go.trans (a : Go S F H S1 F1 H1) (b : Go S1 F1 H1 S2 F2 H2) : Go S F H S2 F2 H2 := by
  refine ⟨a.ff.trans b.ff, fun p u h f n => ?_, fun p h => ?_, fun p h => ?_, fun p h => b.al p (a.al p h)⟩
  · refine b.hh p u (a.hh p u h f n) ?_ fun z => ?_
    · cases q : F1 p with
      | none => rfl
      | some w =>
        rcases a.fr p (by rw [q]; exact fun z => nomatch z) with z | z | z | ⟨w, z, nw⟩
        · exact absurd f z
        · rw [h] at z; cases z
        · exact absurd z n
        · rw [h] at z; exact (nw (Option.some.inj z ▸ u.2)).elim
    · rcases a.ss p z with z | z
      · exact n z
      · rw [z] at h; cases h
  · rcases b.fr p h with z | z | z | ⟨w, z, nw⟩
    · exact a.fr p z
    · refine .inr (.inl ?_)
      cases q : H p with
      | none => rfl
      | some u => exact absurd z (a.al p (by rw [q]; exact fun z => nomatch z))
    · rcases a.ss p z with z | z
      · exact .inr (.inr (.inl z))
      · exact .inr (.inl z)
    · cases q : H p with
      | none => exact .inr (.inl rfl)
      | some u =>
        by_cases hs : S p
        · exact .inr (.inr (.inl hs))
        · by_cases hf : F p = none
          · by_cases hu : NT u
            · rw [a.hh p ⟨u, hu⟩ q hf hs] at z
              exact (nw (Option.some.inj z ▸ hu)).elim
            · exact .inr (.inr (.inr ⟨u, rfl, hu⟩))
          · exact .inl hf
  · rcases b.ss p h with z | z
    · exact a.ss p z
    · refine .inr ?_
      cases q : H p with
      | none => rfl
      | some u => exact absurd z (a.al p (by rw [q]; exact fun z => nomatch z))
theorem Go.mono {T : Rg} (a : Go S F H S1 F1 H1) (h : ∀ p, S p → T p) : Go T F H S1 F1 H1 :=
  ⟨a.ff, fun p u e f n => a.hh p u e f fun z => n (h p z), fun p z => (a.fr p z).imp id (.imp id (.imp (h p) id)), fun p z => (a.ss p z).imp (h p) id, a.al⟩
theorem Go.sub {T : Rg} (a : Go S F H S1 F1 H1) (h : ∀ p, T p → S1 p) : Go S F H T F1 H1 :=
  ⟨a.ff, a.hh, a.fr, fun p z => a.ss p (h p z), a.al⟩
theorem Go.keepO (g : Go S F H S1 F1 H1) {p : Addr} {u : HO} (h : H p = some u) (w : F p = none ∧ ∃ u : HU, H p = some u.1) (n : ¬ S p) : H1 p = some u := by
  obtain ⟨f, v, e⟩ := w
  rw [h] at e
  have e := Option.some.inj e
  subst e
  exact g.hh p v h f n
theorem same_new {p : Addr} {o : HO} (h : H p = none) : Same H (upd H p o) := fun b x e => by
  rw [upd_ne (ne_of_none e h)]
  exact e
variable {σ : L2.St} {env : Env} {O : Nat → Rg}
theorem Sts.fnone (s : Sts K cm F H σ env O) {p : Addr} (h : H p = none) : F p = none := s.fh.free h
/-- a new frozen cell -/
theorem Sts.alloc (s : Sts K cm F H σ env O) {p : Addr} {o : HO} (h : H p = none) (hx : NX o := by first | assumption | exact fun _ _ h => nomatch h | exact And.right (by assumption)) : Sts K cm (upd F p o) (upd H p o) σ env O ∧ Go (Un O) F H (Un O) (upd F p o) (upd H p o) := by
  have hF := s.fnone h
  refine ⟨⟨fun b u e => ?_, s.len, fun i x e => ?_, fun i q z => ?_, s.dj, (s.mm.ext (same_new hF) fun q n ps e => by
    by_cases hb : q = p
    · subst hb; rw [upd_same] at e; exact (hx _ _ (Option.some.inj e)).elim
    · rw [upd_ne hb] at e; exact e).grow (same_new h)⟩, same_new hF, fun q u e _ _ => same_new h q u.1 e, fun q z => ?_, fun q z => .inl z, fun q z => ?_⟩
  · by_cases hb : b = p
    · subst hb; rw [upd_same] at e ⊢; exact ⟨fun _ => e, _, rfl⟩
    · rw [upd_ne hb] at e ⊢; exact s.fh _ _ e
  · obtain ⟨v, e1, ow⟩ := s.at_ i x e
    exact ⟨v, e1, ow.mono (same_new hF) (fun q u e _ => same_new h q u e) fun _ z => z⟩
  · obtain ⟨a, u, b⟩ := s.ow i q z
    have hq : q ≠ p := ne_of_none b h
    exact ⟨by rw [upd_ne hq]; exact a, u, by rw [upd_ne hq]; exact b⟩
  · by_cases hb : q = p
    · subst hb; exact .inr (.inl h)
    · rw [upd_ne hb] at z; exact .inl z
  · by_cases hb : q = p
    · subst hb; rw [upd_same]; exact fun z => nomatch z
    · rw [upd_ne hb]; exact z
/-- a new cell of one's own: in no slot yet -/
theorem Sts.fresh (s : Sts K cm F H σ env O) {p : Addr} {o : HO} (h : H p = none) : Sts K cm F (upd H p o) σ env O ∧ Go (Un O) F H (fun q => q = p ∨ Un O q) F (upd H p o) ∧ F p = none ∧ ¬ Un O p := by
  have hF := s.fnone h
  refine ⟨⟨s.fh.trans (same_new h), s.len, fun i x e => ?_, fun i q z => ?_, s.dj, s.mm.grow (same_new h)⟩, ⟨Same.refl _, fun q u e _ _ => same_new h q u.1 e, fun q z => .inl z, fun q z => ?_, fun q z => ?_⟩, hF, ?_⟩
  · obtain ⟨v, e1, ow⟩ := s.at_ i x e
    exact ⟨v, e1, ow.mono (Same.refl _) (fun q u e _ => same_new h q u e) fun _ z => z⟩
  · obtain ⟨a, u, b⟩ := s.ow i q z
    exact ⟨a, u, same_new h _ _ b⟩
  · rcases z with z | z
    · subst z; exact .inr h
    · exact .inl z
  · by_cases hb : q = p
    · subst hb; rw [upd_same]; exact fun z => nomatch z
    · rw [upd_ne hb]; exact z
  · rintro ⟨i, z⟩
    obtain ⟨_, u, b⟩ := s.ow i p z
    rw [h] at b; cases b
open Classical in
noncomputable def over (S : Rg) (H F : Hp) : Hp := fun p => if S p then H p else F p
theorem over_in {p : Addr} (h : S p) : over S H F p = H p := by unfold over; rw [if_pos h]
theorem over_out {p : Addr} (h : ¬ S p) : over S H F p = F p := by unfold over; rw [if_neg h]
/-- cells of a region are frozen -/
theorem frz_go {R : Rg} (fh : SmH F H) (m : MM K cm F H) (hR : ∀ p, R p → F p = none ∧ ∃ u : HU, H p = some u.1) (hS : ∀ p, R p → S p) :
    Same F (over R H F) ∧ SmH (over R H F) H ∧ MM K cm (over R H F) H ∧ Go S F H (fun p => S p ∧ ¬ R p) (over R H F) H := by
  have h1 : Same F (over R H F) := fun p u e => by
    by_cases z : R p
    · rw [(hR p z).1] at e; cases e
    · rw [over_out z]; exact e
  have h2 : SmH (over R H F) H := fun p u e => by
    by_cases z : R p
    · rw [over_in z] at e; exact ⟨fun _ => e, _, e⟩
    · rw [over_out z] at e; exact fh _ _ e
  have h3 : MM K cm (over R H F) H := m.ext h1 fun p n ps e => by
    by_cases z : R p
    · rw [over_in z] at e
      obtain ⟨_, u, b⟩ := hR p z
      rw [e] at b
      exact (u.2.2 _ _ (Option.some.inj b).symm).elim
    · rw [over_out z] at e; exact e
  refine ⟨h1, h2, h3, h1, fun _ _ e _ _ => e, fun p z => ?_, fun p z => .inl z.1, fun _ z => z⟩
  by_cases r : R p
  · exact .inr (.inr (.inl (hS p r)))
  · rw [over_out r] at z; exact .inl z
/-- slot i is frozen -/
theorem Sts.frz (s : Sts K cm F H σ env O) {i : Nat} {o : Od} {v : V} (e : env[i]? = some (some o)) (ev : σ[i]? = some (some v)) :
    ∃ F' O', Sts K cm F' H σ (env.set i (some (.fd (.val o.frz)))) O' ∧ Go (Un O) F H (Un O') F' H ∧ Rp K cm F' v o.frz := by
  obtain ⟨h1, h2, h3, g⟩ := frz_go (S := Un O) (R := O i) s.fh s.mm (fun p z => s.ow i p z) fun p z => ⟨i, z⟩
  obtain ⟨v', e1, ow⟩ := s.at_ i o e
  rw [ev] at e1; cases e1
  have rp : Rp K cm (over (O i) H F) v o.frz := ow.frz h1 fun p u q z => by rw [over_in z]; exact q
  refine ⟨over (O i) H F, fun j p => j ≠ i ∧ O j p, ⟨h2, by rw [List.length_set]; exact s.len, fun j x q => ?_, fun j p z => ?_, fun j k p z w => s.dj j k p z.2 w.2, h3⟩, g.sub fun p z => ?_, rp⟩
  · by_cases hj : j = i
    · subst hj
      have hlt : j < env.length := (List.getElem?_eq_some_iff.mp e).1
      rw [List.getElem?_set_self hlt] at q
      cases q
      exact ⟨v, ev, .fd (.val rp)⟩
    · rw [List.getElem?_set_ne (Ne.symm hj)] at q
      obtain ⟨u, e2, ow2⟩ := s.at_ j x q
      exact ⟨u, e2, ow2.mono h1 (fun _ _ q _ => q) fun p z => ⟨hj, z⟩⟩
  · have n : ¬ O i p := fun w => z.1 (s.dj _ _ _ z.2 w)
    rw [over_out n]; exact s.ow j p z.2
  · obtain ⟨j, hj, z⟩ := z
    exact ⟨⟨j, z⟩, fun w => hj (s.dj _ _ _ z w)⟩
/-- slot i gets a value -/
theorem Sts.setv (s : Sts K cm F H σ env O) {i : Nat} {v : V} {d : D} (hi : i < env.length) (r : Rp K cm F v d) :
    Sts K cm F H (σ.set i (some v)) (env.set i (some (.fd (.val d)))) O := by
  refine ⟨s.fh, by rw [List.length_set, List.length_set]; exact s.len, fun j x q => ?_, s.ow, s.dj, s.mm⟩
  by_cases hj : j = i
  · subst hj
    rw [List.getElem?_set_self hi] at q
    cases q
    exact ⟨v, by rw [List.getElem?_set_self (by rw [s.len]; exact hi)], .fd (.val r)⟩
  · rw [List.getElem?_set_ne (Ne.symm hj)] at q ⊢
    exact s.at_ j x q
/-- slot i gets what is owned -/
theorem Sts.seto (s : Sts K cm F H σ env O) {i : Nat} {v : V} {o : Od} {R : Rg} (hi : i < env.length) (r : Ow K cm F H v o R) (hR : ∀ p, R p → F p = none ∧ (∃ u : HU, H p = some u.1) ∧ ¬ Un O p) :
    ∃ O', Sts K cm F H (σ.set i (some v)) (env.set i (some o)) O' ∧ ∀ p, Un O' p → R p ∨ Un O p := by
  refine ⟨fun j p => (j = i ∧ R p) ∨ (j ≠ i ∧ O j p), ⟨s.fh, by rw [List.length_set, List.length_set]; exact s.len, fun j x q => ?_, fun j p z => ?_, fun j k p z w => ?_, s.mm⟩, fun p ⟨j, z⟩ => ?_⟩
  · by_cases hj : j = i
    · subst hj
      rw [List.getElem?_set_self hi] at q
      cases q
      exact ⟨v, by rw [List.getElem?_set_self (by rw [s.len]; exact hi)], r.mono (Same.refl _) (fun _ _ q _ => q) fun p z => .inl ⟨rfl, z⟩⟩
    · rw [List.getElem?_set_ne (Ne.symm hj)] at q ⊢
      obtain ⟨u, e2, ow2⟩ := s.at_ j x q
      exact ⟨u, e2, ow2.mono (Same.refl _) (fun _ _ q _ => q) fun p z => .inr ⟨hj, z⟩⟩
  · rcases z with ⟨_, z⟩ | ⟨_, z⟩
    · exact ⟨(hR p z).1, (hR p z).2.1⟩
    · exact s.ow j p z
  · rcases z with ⟨z0, z⟩ | ⟨z0, z⟩ <;> rcases w with ⟨w0, w⟩ | ⟨w0, w⟩
    · rw [z0, w0]
    · exact absurd ⟨k, w⟩ (hR p z).2.2
    · exact absurd ⟨j, z⟩ (hR p w).2.2
    · exact s.dj _ _ _ z w
  · rcases z with ⟨_, z⟩ | ⟨_, z⟩
    · exact .inl z
    · exact .inr ⟨j, z⟩
/-- a slot is forgotten -/
theorem Sts.unset (s : Sts K cm F H σ env O) (i : Nat) : Sts K cm F H σ (env.set i none) O := by
  refine ⟨s.fh, by rw [List.length_set]; exact s.len, fun j x q => ?_, s.ow, s.dj, s.mm⟩
  by_cases hj : j = i
  · subst hj
    by_cases hl : j < env.length
    · rw [List.getElem?_set_self hl] at q; cases q
    · rw [List.getElem?_eq_none (by rw [List.length_set]; omega)] at q; cases q
  · rw [List.getElem?_set_ne (Ne.symm hj)] at q
    exact s.at_ j x q
/-- what slot i owns is changed at p -/
theorem Sts.write (s : Sts K cm F H σ env O) {i : Nat} {o o' : Od} {v : V} {p : Addr} {u : HO} (e : env[i]? = some (some o)) (ev : σ[i]? = some (some v)) (hp : O i p) (r : Ow K cm F (upd H p u) v o' (O i)) (hn : NT u := by first | exact nt_l | exact nt_k | exact nt_t | exact nt_i) :
    Sts K cm F (upd H p u) σ (env.set i (some o')) O ∧ Go (Un O) F H (Un O) F (upd H p u) := by
  have hF := (s.ow i p hp).1
  have hlt : i < env.length := (List.getElem?_eq_some_iff.mp e).1
  refine ⟨⟨fun q w z => ?_, by rw [List.length_set]; exact s.len, fun j x q => ?_, fun j q z => ?_, s.dj, s.mm.upd hF⟩, Same.refl _, fun q w z _ n => ?_, fun q z => .inl z, fun q z => .inl z, fun q z => ?_⟩
  · rw [upd_ne (ne_of_none z hF)]; exact s.fh _ _ z
  · by_cases hj : j = i
    · subst hj
      rw [List.getElem?_set_self hlt] at q
      cases q
      exact ⟨v, ev, r⟩
    · rw [List.getElem?_set_ne (Ne.symm hj)] at q
      obtain ⟨w, e2, ow2⟩ := s.at_ j x q
      refine ⟨w, e2, ow2.mono (Same.refl _) (fun q y e z => ?_) fun _ z => z⟩
      rw [upd_ne (show q ≠ p from fun h => hj (s.dj j i q z (by rw [h]; exact hp)))]; exact e
  · obtain ⟨a, w, c⟩ := s.ow j q z
    by_cases hq : q = p
    · subst hq; exact ⟨a, ⟨u, hn⟩, upd_same⟩
    · exact ⟨a, w, by rw [upd_ne hq]; exact c⟩
  · rw [upd_ne (show q ≠ p from fun h => n ⟨i, by rw [h]; exact hp⟩)]; exact z
  · by_cases hq : q = p
    · subst hq; rw [upd_same]; exact fun z => nomatch z
    · rw [upd_ne hq]; exact z
end
end DL

/-! enumerate of a tuple. -/
namespace PySem
open Sem (wp)
open AutoSeq1 (wpAny_loadPart')
theorem meets_enumerate_newT (l : Addr) (items : Array Value) (n : Nat) (dct : Option Addr) (sl : Array (Option Value)) :
    Meets (Builtin.«enumerate.__new__» ⟨[.type "enumerate", .ref l], []⟩) (fun _ R s => s.heap.get? l = some { cls := .type "tuple", dict := dct, data := .seq items n, slots := sl } ∧
      R (.ok (.ret (.ref (s.heap.push { cls := .type "tuple_iterator", data := .fields #[.ref l, .int 0 0] }).objs.size)))
        { s with heap := (s.heap.push { cls := .type "tuple_iterator", data := .fields #[.ref l, .int 0 0] }).push { cls := .type "enumerate", data := .fields #[.none, .bool false, .ref s.heap.objs.size, rawInt 0, .none, .none] } }) :=
  .of_wp fun prog w A R s h => by
    obtain ⟨hp, g, d, tk, os⟩ := s; obtain ⟨hl, h⟩ := h
    have hsub := sub_enumerate
    have hL : Heap.IsTuple (Shared.heap ⟨hp, g, d, tk, os⟩) l items := ⟨_, hl, rfl, n, rfl⟩
    wp_walk using wpAny_loadPart' hl
    refine wpAny_stack_any fun st => wpAny_pure ?_
    split
    · rename_i c _ _ _ _ _
      cases (c == Value.type "enumerate")
      · wp_walk using wpAny_loadPart' hl, wpAny_pyIter_tuple hL
        exact ⟨_, rfl, h⟩
      · wp_walk using wpAny_loadPart' hl, wpAny_pyIter_tuple hL
        exact ⟨_, rfl, h⟩
    · wp_walk using wpAny_loadPart' hl, wpAny_pyIter_tuple hL
      exact ⟨_, rfl, h⟩
section
variable {prog : Program} {w : World} {A : Around} {E : Value → Shared → Prop} {s : Shared}
theorem call_enumerate_tuple {l : Addr} {items : Array Value} {Q : Value → Shared → Prop} (hL : s.heap.IsTuple l items)
    (h : ∀ h', IsEnum h' (s.heap.objs.size + 1) s.heap.objs.size 0 .none → h'.IsTupleIter s.heap.objs.size l 0 → h'.objs.size = s.heap.objs.size + 2 →
      (∀ b o, s.heap.get? b = some o → h'.get? b = some o) → Q (.ref (s.heap.objs.size + 1)) { s with heap := h' }) :
    wpAny (model prog w) A (call (.type "enumerate") [.ref l]) Q E s := by
  obtain ⟨⟨c, dct, dt, sl⟩, hl, hc, n, hd⟩ := hL
  replace hc : c = .type "tuple" := hc
  replace hd : dt = .seq items n := hd
  subst hc hd
  refine callType_new F.called_enumerate (by decide) (F.typeCall_enumerate_1 _) (F.newCall_enumerate_1 _) (fun obj => F.args_object_init_2 obj _) F.entry_enumerate_new
    (meets_enumerate_newT l items n dct sl) ⟨hl, ?_⟩
  have hz : (s.heap.push { cls := .type "tuple_iterator", data := .fields #[.ref l, .int 0 0] }).objs.size = s.heap.objs.size + 1 := Heap.size_push ..
  show _ ∧ _
  rw [hz]
  have he : IsEnum ((s.heap.push { cls := .type "tuple_iterator", data := .fields #[.ref l, .int 0 0] }).push
      { cls := .type "enumerate", data := .fields #[.none, .bool false, .ref s.heap.objs.size, rawInt 0, .none, .none] }) (s.heap.objs.size + 1) s.heap.objs.size 0 .none := by
    have := Heap.get?_push_size (s.heap.push { cls := .type "tuple_iterator", data := .fields #[.ref l, .int 0 0] })
      (o := { cls := .type "enumerate", data := .fields #[.none, .bool false, .ref s.heap.objs.size, rawInt 0, .none, .none] }) rfl
    rw [hz] at this; exact this
  refine ⟨⟨_, he, rfl⟩, h _ he ⟨_, Heap.get?_push_of_some _ (Heap.get?_push_size _ rfl), rfl, rfl⟩ (by rw [Heap.size_push, hz]) fun b o x => Heap.get?_push_of_some _ (Heap.get?_push_of_some _ x)⟩
end
end PySem
namespace DL
open PySem PySem.Spec PyProof.Rows L2
def IteT (K : PySem.W.Frag) (a : Addr) : It :=
  ⟨fun i H => ∃ (xs : List V) (x : V), SqT K H a xs ∧ xs[i]? = some x, fun i H v H' => ∃ T x, v = .ref T ∧ H T = none ∧ H' = upd H T (.tup [.int (i : Nat), x]) ∧ ∀ xs, SqT K H a xs → xs[i]? = some x, fun i H => ∃ xs : List V, SqT K H a xs ∧ xs.length = i⟩

theorem cls_ne {h : Heap} {a b : Addr} {o u : Obj} (ha : h.get? a = some o) (hb : h.get? b = some u) (d : o.cls ≠ u.cls) : a ≠ b := by
  intro e; subst e; rw [ha] at hb; cases hb; exact d rfl
theorem turn_enumT {P : Program} {w : World} {K : PySem.W.Frag} {elts : List Expr} {kk : Nat} {tpos : Pos} (a e it : Addr) :
    Turn P w K (.Tuple elts kk tpos) (IteT K a) [e, it] e (fun i h => (∃ old, IsEnum h e it ((i : Nat) : Int) old) ∧ h.IsTupleIter it a i ∧ e ≠ it) where
  mem := by simp
  obj := fun i h st b hb => by
    obtain ⟨⟨old, he⟩, ⟨o, ho, hc, hd⟩, _⟩ := st
    have e' : b = e ∨ b = it := by simpa using hb
    rcases e' with z | z
    · rw [z]; exact ⟨_, he, fun v q => nomatch q⟩
    · rw [z]; exact ⟨o, ho, fun v q => by rw [hd] at q; cases q⟩
  keep := fun i h h' st k => let ⟨⟨old, he⟩, hi, hne⟩ := st; ⟨⟨old, k e (by simp) _ he⟩, hi.at fun o q => k it (by simp) o q, hne⟩
  item := by
    intro X hP hw hK hc i pins s σ H E I hf st hg
    subst hP hw hK
    obtain ⟨⟨old, he⟩, hit, hne⟩ := st
    obtain ⟨xs, x, hq, hx⟩ := hg
    obtain ⟨its, rv, ht, hz⟩ := I.tuple hq
    obtain ⟨u, hu, ru⟩ := rv.get hx
    have hel : e < s.heap.objs.size := Heap.lt_size he
    have hil : it < s.heap.objs.size := by obtain ⟨_, q, _⟩ := hit; exact Heap.lt_size q
    have hiT : s.heap.IsTuple a its.toArray := ht
    have hai : a ≠ it := by
      obtain ⟨o1, q1, c1, _⟩ := hiT
      obtain ⟨o2, q2, c2, _⟩ := hit
      exact cls_ne q1 q2 (by rw [c1, c2]; decide)
    have hae : e ≠ a := by
      obtain ⟨o1, q1, c1, _⟩ := hiT
      exact fun z => cls_ne q1 he (by rw [c1]; exact fun w => nomatch (Value.type.inj w : ("tuple" : String) = "enumerate") ) z.symm
    have D := Draws.tuple (prog := X.prog) (w := X.w) (A := X.A.in1) (show X.A.in1.handled = none from I.ok.hd hc) it a hai its.toArray
    refine wpAny_pyNext_enum_itemD D he ⟨hit, hiT⟩ (by simp; exact (List.getElem?_eq_some_iff.mp hu).1) hne (by simp [hne, hae]) fun y h' tk hy ho hst' hT hsz hk => ?_
    have ey : y = u := by
      have : its[i]? = some y := by simpa using hy
      rw [hu] at this; exact (Option.some.inj this).symm
    subst ey
    refine ⟨_, rfl, wpAny_letOwnedTupleGo_enum (s := { s with heap := h', toks := tk + 1 }) ho fun h'' he' sb => ?_⟩
    have hT2 : h''.get? s.heap.objs.size = some { cls := .type "tuple", data := .seq #[.int i tk, y] } := (sb.2 _ (Nat.ne_of_gt hel)).trans hT
    have new : ObjOk X.prog X.w (upd H s.heap.objs.size (.tup [.int (i : Nat), x])) h'' s.heap.objs.size (.tup [.int (i : Nat), x]) :=
      ⟨by show 2 ≤ sizeLine; decide, [.int i tk, y], .cons ⟨_, rfl⟩ (.cons ru .nil), ⟨_, hT2, rfl, _, rfl⟩⟩
    have I1 : Inv X pins σ (upd H s.heap.objs.size (.tup [.int (i : Nat), x])) { s with heap := h'', toks := tk + 1 } :=
      I.turnedNew (ch := [e, it]) (fun b ob hb q => (sb.2 b (fun z => hb (by simp [z]))).trans (hk b ob (fun z => hb (by simp [z])) (fun z => hb (by simp [z])) q)) hf (Nat.le_refl _) new
    refine ⟨.ref s.heap.objs.size, _, I1, rfl, ⟨_, x, rfl, I.hok.fresh (Nat.le_refl _), rfl, fun ys hy => by rw [I.tuple_inj hy hq]; exact hx⟩, ⟨⟨y, ?_⟩, hst'.1.at fun o q => (sb.2 it (Ne.symm hne)).trans q, hne⟩, fun b hb => ?_⟩
    · have e1 : ((i + 1 : Nat) : Int) = (i : Int) + 1 := by omega
      rw [e1]; exact he'
    · have hb' : b < s.heap.objs.size := by
        have e' : b = e ∨ b = it := by simpa using hb
        rcases e' with z | z
        · rw [z]; exact hel
        · rw [z]; exact hil
      rw [upd_ne (Nat.ne_of_lt hb')]
      exact (hf b hb).1
  done := by
    intro X hP hw hK hc i pins s σ H E I hf st hg
    subst hP hw hK
    obtain ⟨⟨old, he⟩, hit, hne⟩ := st
    obtain ⟨xs, hq, hx⟩ := hg
    obtain ⟨its, rv, ht, hz⟩ := I.tuple hq
    obtain ⟨f0, f1, f2, f3, f4, f5⟩ := hf it (by simp)
    have hl := rv.length
    have hiT : s.heap.IsTuple a its.toArray := ht
    have hai : a ≠ it := by
      obtain ⟨o1, q1, c1, _⟩ := hiT
      obtain ⟨o2, q2, c2, _⟩ := hit
      exact cls_ne q1 q2 (by rw [c1, c2]; decide)
    have D := Draws.tuple (prog := X.prog) (w := X.w) (A := X.A.in1) (show X.A.in1.handled = none from I.ok.hd hc) it a hai its.toArray
    have ez : its.toArray.size = i := by simp; omega
    exact wpAny_pyNext_enum_endD D he ⟨by rw [ez]; exact hit, hiT⟩ fun h' eb => ⟨rfl, I.turned (t' := s.toks) (fun b o hb q => eb b o hb q) f0 f1 f3 f4 f5⟩
  self := fun A i s Q E st h => let ⟨⟨_, he⟩, _⟩ := st; wpAny_pyIter_enum he h

def iEnumT (K : PySem.W.Frag) (ta : TA) : TI := fun σ H R => ta σ H fun vs H1 => ∃ a xs, vs = [.ref a] ∧ SqT K H1 a xs ∧ R (IteT K a) H1
theorem pi_enumT {X : Cx} {e : Expr} {ta : TA} {p pos tpos : Pos} {elts : List Expr} {kk : Nat} (hg : Gl X "enumerate") (hm : X.mg "enumerate" = none) (ha : PA X [e] ta) (hs : starEach [e] X.env = [(false, eval e X.env)] := by rfl) :
    PI X (.Tuple elts kk tpos) (.Call (.Name "enumerate" p) [e] [] pos) (iEnumT X.K ta) := by
  refine ⟨fun pins s σ H R I h => ?_⟩
  refine Call_ (ld_blt I hg hm boot_enumerate (PyProof.Rows.callWith_type1 (thn (ha.run pos pins s σ H _ I h) fun us s1 ⟨vs, H1, I1, r1, q1⟩ => ?_) hs rfl))
  obtain ⟨a, xs, ex, hq, q⟩ := q1
  subst ex
  cases r1 with
  | cons r rr =>
    cases rr
    cases r
    obtain ⟨its, rv, p', hz⟩ := I1.tuple hq
    refine call_enumerate_tuple (show s1.heap.IsTuple a its.toArray from p') fun h' he hit hsz hk => wpAny_pyIter_enum he ?_
    have I2 : Inv X pins σ H1 { s1 with heap := h' } := I1.kept (t' := s1.toks) hk
    refine ⟨s1.heap.objs.size + 1, [s1.heap.objs.size + 1, s1.heap.objs.size], _, _, H1, rfl, I2, turn_enumT a (s1.heap.objs.size + 1) s1.heap.objs.size, ⟨⟨.none, he⟩, hit, Nat.succ_ne_self _⟩, fun b hb => ?_, q⟩
    have e' : b = s1.heap.objs.size + 1 ∨ b = s1.heap.objs.size := by simpa using hb
    have hle : s1.heap.objs.size ≤ b := by
      rcases e' with z | z
      · rw [z]; exact Nat.le_add_right _ _
      · rw [z]; exact Nat.le_refl _
    exact I1.fpOk hle (I1.hok.fresh hle)
theorem walk_enumT {K : PySem.W.Frag} {a : Addr} {xs : List V} : Walk (IteT K a) xs.length (fun H => SqT K H a xs) (YPair (fun i => some (.int (i : Nat))) (fun i => xs[i]?)) :=
  ⟨fun i H hi h => ⟨xs, xs[i], h, List.getElem?_eq_getElem hi⟩, fun H h => ⟨xs, h, rfl⟩, fun i H x H' hi h y => by
    obtain ⟨T, z, e1, e2, e3, e4⟩ := y
    exact ⟨T, _, z, e1, e2, e3, rfl, e4 xs h⟩⟩
end DL

/-! The data layer: judgements, names, constants, operators, comparisons, tests, displays, subscripts. -/
namespace DL
open PySem PySem.Spec PyProof.Rows L2

/-- a run over the slots: none where it is not told what comes -/
abbrev M (α : Type) := Env → Option (α × Env)
def mr {α : Type} (a : α) : M α := fun env => some (a, env)
def mo {α : Type} (a : Option α) : M α := fun env => a.map fun x => (x, env)
def mb {α β : Type} (f : M α) (g : α → M β) : M β := fun env => (f env).bind fun q => g q.1 q.2
theorem mb_some {α β : Type} {f : M α} {g : α → M β} {env : Env} {r : β × Env} (h : mb f g env = some r) : ∃ a env1, f env = some (a, env1) ∧ g a env1 = some r := by
  unfold mb at h
  cases e : f env with
  | none => rw [e] at h; cases h
  | some q => rw [e] at h; exact ⟨q.1, q.2, rfl, h⟩
theorem mo_some {α : Type} {a : Option α} {env : Env} {r : α × Env} (h : mo a env = some r) : a = some r.1 ∧ r.2 = env := by
  unfold mo at h
  cases e : a with
  | none => rw [e] at h; cases h
  | some q => rw [e] at h; cases h; exact ⟨rfl, rfl⟩

section
variable (K : PySem.W.Frag) (cm : Cm) (F H : Hp) (σ : L2.St) (O : Nat → Rg)
/-- what is wanted of a value that comes of the state F H O, the slots then env -/
def Kv (env : Env) (d : D) (Q : VK) : Prop := ∀ F' H' v O', Go (Un O) F H (Un O') F' H' → Sts K cm F' H' σ env O' → Rp K cm F' v d → Q v H'
def Kt (env : Env) (b : Bool) (Q : Bool → Hp → Prop) : Prop := ∀ F' H' O', Go (Un O) F H (Un O') F' H' → Sts K cm F' H' σ env O' → Q b H'
/-- a region apart from the slots' -/
def New (F H : Hp) (O : Nat → Rg) (R : Rg) : Prop := ∀ p, R p → F p = none ∧ (∃ u : HU, H p = some u.1) ∧ ¬ Un O p
def Ko (env : Env) (o : Od) (Q : VK) : Prop := ∀ F' H' v O' R, Go (Un O) F H (fun p => R p ∨ Un O' p) F' H' → Sts K cm F' H' σ env O' → Ow K cm F' H' v o R → New F' H' O' R → Q v H'
end
section
variable {K : PySem.W.Frag} {cm : Cm} {F H F1 H1 : Hp} {σ : L2.St} {O O1 : Nat → Rg} {env : Env} {d : D} {o : Od} {Q : VK}
theorem Kv.go (k : Kv K cm F H σ O env d Q) (g : Go (Un O) F H (Un O1) F1 H1) : Kv K cm F1 H1 σ O1 env d Q := fun F' H' v O' g' s r => k F' H' v O' (g.trans g') s r
theorem Kt.go {b : Bool} {Q : Bool → Hp → Prop} (k : Kt K cm F H σ O env b Q) (g : Go (Un O) F H (Un O1) F1 H1) : Kt K cm F1 H1 σ O1 env b Q := fun F' H' O' g' s => k F' H' O' (g.trans g') s
theorem Ko.go (k : Ko K cm F H σ O env o Q) (g : Go (Un O) F H (Un O1) F1 H1) : Ko K cm F1 H1 σ O1 env o Q := fun F' H' v O' R g' s r n => k F' H' v O' R (g.trans g') s r n
theorem Kv.here (k : Kv K cm F H σ O env d Q) (s : Sts K cm F H σ env O) {v : V} (r : Rp K cm F v d) : Q v H := k F H v O Go.refl s r
theorem Kt.here {b : Bool} {Q : Bool → Hp → Prop} (k : Kt K cm F H σ O env b Q) (s : Sts K cm F H σ env O) : Q b H := k F H O Go.refl s
/-- a new frozen cell as the value -/
theorem Kv.alloc (k : Kv K cm F H σ O env d Q) (s : Sts K cm F H σ env O) {p : Addr} {u : HO} (h : H p = none) (r : ∀ F', Same F F' → F' p = some u → Rp K cm F' (.ref p) d) (hx : NX u := by first | assumption | exact fun _ _ h => nomatch h | exact And.right (by assumption)) : Q (.ref p) (upd H p u) := by
  obtain ⟨s1, g1⟩ := s.alloc (o := u) h hx
  exact k _ _ _ O g1 s1 (r _ (same_new (s.fnone h)) upd_same)
theorem Ko.fresh {ds : List D} (k : Ko K cm F H σ O env (.fd (.lst ds)) Q) (s : Sts K cm F H σ env O) {p : Addr} {vs : List V} (h : H p = none) (r : RpA K cm F vs ds) : Q (.ref p) (upd H p (.lst vs)) := by
  obtain ⟨s1, g1, n1, n2⟩ := s.fresh (o := .lst vs) h
  refine k _ _ _ O (fun q => q = p) g1 s1 (.fd (.lst upd_same r rfl)) fun q e => ?_
  subst e
  exact ⟨n1, ⟨⟨_, nt_l⟩, upd_same⟩, n2⟩
/-- what is new is frozen -/
theorem Kv.frz (k : Kv K cm F H σ O env o.frz Q) : Ko K cm F H σ O env o Q := fun F' H' v O' R g s r n => by
  obtain ⟨h1, h2, h3, g2⟩ := frz_go (S := fun p => R p ∨ Un O' p) (R := R) s.fh s.mm (fun p z => ⟨(n p z).1, (n p z).2.1⟩) fun p z => .inl z
  refine k (over R H' F') H' v O' ((g.trans g2).sub fun p z => ⟨.inr z, fun w => (n p w).2.2 z⟩) ⟨h2, s.len, fun i x e => ?_, fun i p z => ?_, s.dj, h3⟩ (r.frz h1 fun p u q z => by rw [over_in z]; exact q)
  · obtain ⟨u, e1, ow⟩ := s.at_ i x e
    exact ⟨u, e1, ow.mono h1 (fun _ _ q _ => q) fun _ z => z⟩
  · rw [over_out fun w => (n p w).2.2 ⟨i, z⟩]
    exact s.ow i p z
theorem Kv.of (k : Ko K cm F H σ O env (.fd (.val d)) Q) : Kv K cm F H σ O env d Q := fun F' H' v O' g s r =>
  k F' H' v O' (fun _ => False) (g.sub fun p z => z.elim False.elim id) s (.fd (.val r)) fun p z => z.elim
end

/-! ### the judgements -/
def Sm (K : PySem.W.Frag) (cm : Cm) (te : TE) (f : M D) : Prop := ∀ F H σ env O d env' Q, Sts K cm F H σ env O → f env = some (d, env') → Kv K cm F H σ O env' d Q → te σ H Q
def SmO (K : PySem.W.Frag) (cm : Cm) (te : TE) (f : M Od) : Prop := ∀ F H σ env O d env' Q, Sts K cm F H σ env O → f env = some (d, env') → Ko K cm F H σ O env' d Q → te σ H Q
def SmT (K : PySem.W.Frag) (cm : Cm) (te : TT) (f : M Bool) : Prop := ∀ F H σ env O d env' Q, Sts K cm F H σ env O → f env = some (d, env') → Kt K cm F H σ O env' d Q → te σ H Q
def SmA (K : PySem.W.Frag) (cm : Cm) (te : TA) (f : M (List D)) : Prop := ∀ F H σ env O ds env' Q, Sts K cm F H σ env O → f env = some (ds, env') →
  (∀ F' H' vs O', Go (Un O) F H (Un O') F' H' → Sts K cm F' H' σ env' O' → RpA K cm F' vs ds → Q vs H') → te σ H Q
structure DE (X : Cx) (cm : Cm) (e : Expr) (te : TE) (f : M D) : Prop where
  pe : PE X e te
  sm : Sm X.K cm te f
structure DO (X : Cx) (cm : Cm) (e : Expr) (te : TE) (f : M Od) : Prop where
  pe : PE X e te
  sm : SmO X.K cm te f
structure DT (X : Cx) (cm : Cm) (e : Expr) (te : TT) (f : M Bool) : Prop where
  pe : PT X e te
  sm : SmT X.K cm te f
structure DW (X : Cx) (cm : Cm) (e : Expr) (te : TT) (f : M Bool) : Prop where
  pe : PW X e te
  sm : SmT X.K cm te f
structure DA (X : Cx) (cm : Cm) (es : List Expr) (te : TA) (f : M (List D)) : Prop where
  pe : PA X es te
  sm : SmA X.K cm te f
def fz (f : M Od) : M D := fun env => (f env).map fun q => (q.1.frz, q.2)
def ov (f : M D) : M Od := fun env => (f env).map fun q => (.fd (.val q.1), q.2)
section
variable {X : Cx} {cm : Cm} {e a b c : Expr} {es : List Expr} {te ta tb tc : TE} {pos : Pos} {f g fa fb fc : M D}
theorem map_some {α β : Type} {o : Option α} {g : α → β} {r : β} (h : o.map g = some r) : ∃ a, o = some a ∧ g a = r := by
  cases o with
  | none => cases h
  | some a => cases h; exact ⟨a, rfl, rfl⟩
theorem Sm.of {te : TE} {f : M Od} (h : SmO X.K cm te f) : Sm X.K cm te (fz f) := fun F H σ env O d env' Q s e k => by
  obtain ⟨⟨o, env1⟩, e1, e2⟩ := map_some e
  cases e2
  exact h F H σ env O o _ Q s e1 k.frz
theorem SmO.of {te : TE} {f : M D} (h : Sm X.K cm te f) : SmO X.K cm te (ov f) := fun F H σ env O d env' Q s e k => by
  obtain ⟨⟨o, env1⟩, e1, e2⟩ := map_some e
  cases e2
  exact h F H σ env O o _ Q s e1 (Kv.of k)
theorem de_o {f : M Od} (h : DO X cm e te f) : DE X cm e te (fz f) := ⟨h.pe, .of h.sm⟩
theorem do_e (h : DE X cm e te f) : DO X cm e te (ov f) := ⟨h.pe, .of h.sm⟩

/-! ### names, constants -/
/-- slot i as a value: what is owned there is frozen -/
def rd (i : Nat) : M D := fun env => match env[i]? with
  | some (some o) => some (o.frz, env.set i (some (.fd (.val o.frz))))
  | _ => none
theorem dv (i : Nat) {x : Str} (hN : X.N[i]? = some x := by rfl) (hv : Vis X.env.scope x := by first | exact Or.inl rfl | exact Or.inr (Or.inl rfl) | exact Or.inr (Or.inr rfl)) (hd : (x == ("__debug__" : Str)) = false := by decide)
    (hcd : (x == ("__classdict__" : Str)) = false := by decide) : DE X cm (.Name x pos) (tVar i) (rd i) := by
  refine ⟨pe_var hN hv hd hcd, fun F H σ env O d env' Q s e k => ?_⟩
  unfold rd at e
  split at e
  · rename_i o q
    cases e
    obtain ⟨v, ev, ow⟩ := s.at_ i o q
    obtain ⟨F', O', s', g', r⟩ := s.frz q ev
    exact ⟨v, ev, k F' H v O' g' s' r⟩
  · cases e
/-- slot i handed out as it is: the name is not used any more -/
def mv (i : Nat) : M Od := fun env => match env[i]? with
  | some (some o) => some (o, env.set i none)
  | _ => none
theorem do_mv (i : Nat) {x : Str} (hN : X.N[i]? = some x := by rfl) (hv : Vis X.env.scope x := by first | exact Or.inl rfl | exact Or.inr (Or.inl rfl) | exact Or.inr (Or.inr rfl)) (hd : (x == ("__debug__" : Str)) = false := by decide)
    (hcd : (x == ("__classdict__" : Str)) = false := by decide) : DO X cm (.Name x pos) (tVar i) (mv i) := by
  refine ⟨pe_var hN hv hd hcd, fun F H σ env O d env' Q s e k => ?_⟩
  unfold mv at e
  split at e
  · rename_i o q
    obtain ⟨rfl, rfl⟩ := Prod.mk.inj (Option.some.inj e)
    obtain ⟨v, ev, ow⟩ := s.at_ i o q
    refine ⟨v, ev, k F H v (fun j p => j ≠ i ∧ O j p) (O i) (Go.refl.sub fun p z => ?_) ⟨s.fh, by rw [List.length_set]; exact s.len, fun j x z => ?_, fun j p z => s.ow j p z.2, fun j l p z w => s.dj j l p z.2 w.2, s.mm⟩ ow fun p z => ⟨(s.ow i p z).1, (s.ow i p z).2, fun ⟨j, hj, w⟩ => hj (s.dj _ _ _ w z)⟩⟩
    · rcases z with z | ⟨j, _, z⟩
      · exact ⟨i, z⟩
      · exact ⟨j, z⟩
    · have hj : j ≠ i := fun h => by
        subst h
        have hl : j < env.length := (List.getElem?_eq_some_iff.mp q).1
        rw [List.getElem?_set_self hl] at z; cases z
      rw [List.getElem?_set_ne (Ne.symm hj)] at z
      obtain ⟨u, e2, ow2⟩ := s.at_ j x z
      exact ⟨u, e2, ow2.mono (Same.refl _) (fun _ _ q _ => q) fun p z => ⟨hj, z⟩⟩
  · cases e
theorem sm_c {v : V} {d : D} (r : ∀ F, Rp X.K cm F v d) : Sm X.K cm (tC v) (mr d) := fun F H σ env O d' env' Q s e k => by
  cases e
  exact k.here s (r F)
theorem de_int {i j pos} : DE X cm (.Constant (.int i) j pos) (tC (.int i)) (mr (.int i)) := ⟨pe_int, sm_c fun _ => .int i⟩
theorem de_bl {i j pos} : DE X cm (.Constant (.bool i) j pos) (tC (.bl i)) (mr (.bl i)) := ⟨pe_bl, sm_c fun _ => .bl i⟩
theorem de_non {j pos} : DE X cm (.Constant .none j pos) (tC .non) (mr .non) := ⟨pe_non, sm_c fun _ => .non⟩
theorem de_str {i j pos} : DE X cm (.Constant (.str i) j pos) (tC (.str i)) (mr (.str i)) := ⟨pe_str, sm_c fun _ => .str i⟩
/-- a module's constant -/
theorem de_glI {x : Str} {i : Int} {t : Tok} (hg : Gl X x) (hm : X.mg x = some (.int i t)) (hd : (x == ("__debug__" : Str)) = false := by decide) : DE X cm (.Name x pos) (tC (.int i)) (mr (.int i)) := ⟨pe_glob hg hm ⟨t, rfl⟩ hd, sm_c fun _ => .int i⟩
theorem de_glS {x : Str} {i : Str} {t : Tok} (hg : Gl X x) (hm : X.mg x = some (.str i t)) (hd : (x == ("__debug__" : Str)) = false := by decide) : DE X cm (.Name x pos) (tC (.str i)) (mr (.str i)) := ⟨pe_glob hg hm ⟨t, rfl⟩ hd, sm_c fun _ => .str i⟩
theorem de_glC {x : Str} (n : Nat) (hg : Gl X x) (hm : X.mg x = some (.ref (cm n))) (hd : (x == ("__debug__" : Str)) = false := by decide) : DE X cm (.Name x pos) (tC (.ref (cm n))) (mr (.cn n)) := ⟨pe_glob hg hm rfl hd, sm_c fun _ => .cn n⟩

/-! ### operators -/
def SmR2 (K : PySem.W.Frag) (cm : Cm) (r : R2) (g : D → D → Option D) : Prop := ∀ F H σ env O x y a b d Q, Sts K cm F H σ env O → Rp K cm F x a → Rp K cm F y b → g a b = some d → Kv K cm F H σ O env d Q → r x y H Q
def SmR1 (K : PySem.W.Frag) (cm : Cm) (r : V → Hp → VK → Prop) (g : D → Option D) : Prop := ∀ F H σ env O x a d Q, Sts K cm F H σ env O → Rp K cm F x a → g a = some d → Kv K cm F H σ O env d Q → r x H Q
def m2 (g : D → D → Option D) (fa fb : M D) : M D := mb fa fun x => mb fb fun y => mo (g x y)
def m1 (g : D → Option D) (fa : M D) : M D := mb fa fun x => mo (g x)
theorem sm_op2 {r : R2} {g : D → D → Option D} (hr : SmR2 X.K cm r g) (ha : Sm X.K cm ta fa) (hb : Sm X.K cm tb fb) : Sm X.K cm (tOp r ta tb) (m2 g fa fb) := fun F H σ env O d env' Q s e k => by
  obtain ⟨x, env1, e1, e⟩ := mb_some e
  obtain ⟨y, env2, e2, e⟩ := mb_some e
  obtain ⟨e3, e4⟩ := mo_some e
  dsimp only at e3 e4
  subst e4
  refine ha F H σ env O x env1 _ s e1 fun F1 H1 v O1 g1 s1 r1 => ?_
  refine hb F1 H1 σ env1 O1 y _ _ s1 e2 fun F2 H2 w O2 g2 s2 r2 => ?_
  exact hr F2 H2 σ _ O2 v w x y d Q s2 (r1.mono g2.ff) r2 e3 (k.go (g1.trans g2))
theorem sm_op1 {r : V → Hp → VK → Prop} {g : D → Option D} (hr : SmR1 X.K cm r g) (ha : Sm X.K cm ta fa) : Sm X.K cm (tUn r ta) (m1 g fa) := fun F H σ env O d env' Q s e k => by
  obtain ⟨x, env1, e1, e⟩ := mb_some e
  obtain ⟨e3, e4⟩ := mo_some e
  dsimp only at e3 e4
  subst e4
  refine ha F H σ env O x _ _ s e1 fun F1 H1 v O1 g1 s1 r1 => ?_
  exact hr F1 H1 σ _ O1 v x d Q s1 r1 e3 (k.go g1)
theorem de_op {op : Operator} {r : R2} {g : D → D → Option D} (ho : OpR X (binaryOp op) r) (hr : SmR2 X.K cm r g) (ha : DE X cm a ta fa) (hb : DE X cm b tb fb) : DE X cm (.BinOp a op b pos) (tOp r ta tb) (m2 g fa fb) := ⟨pe_op ho ha.pe hb.pe, sm_op2 hr ha.sm hb.sm⟩
theorem de_cmp {op : CmpOp} {r : R2} {g : D → D → Option D} (ho : OpR X (compareOp op) r) (hr : SmR2 X.K cm r g) (ha : DE X cm a ta fa) (hb : DE X cm b tb fb) (hm : behindInMarks op b = false) : DE X cm (.Compare a [op] [b] pos) (tOp r ta tb) (m2 g fa fb) := ⟨pe_cmpR ho ha.pe hb.pe hm, sm_op2 hr ha.sm hb.sm⟩
def toB (d : D) : Option Bool := match d with
  | .bl b => some b
  | _ => none
def tst (f : M D) : M Bool := mb f fun d => mo (toB d)
theorem smt_of (h : Sm X.K cm te f) : SmT X.K cm (tTest te) (tst f) := fun F H σ env O d env' Q s e k => by
  obtain ⟨x, env1, e1, e⟩ := mb_some e
  obtain ⟨e3, e4⟩ := mo_some e
  dsimp only at e3 e4
  subst e4
  refine h F H σ env O x _ _ s e1 fun F1 H1 v O1 g1 s1 r1 => ?_
  cases x <;> cases e3
  cases r1
  exact ⟨d, rfl, k F1 H1 O1 g1 s1⟩
theorem dt_cmp {op : CmpOp} {r : R2} {g : D → D → Option D} (ho : OpR X (compareOp op) r) (hr : SmR2 X.K cm r g) (ha : DE X cm a ta fa) (hb : DE X cm b tb fb) (hm : behindInMarks op b = false) : DT X cm (.Compare a [op] [b] pos) (tTest (tOp r ta tb)) (tst (m2 g fa fb)) := ⟨pt_cmpR ho ha.pe hb.pe hm, smt_of (sm_op2 hr ha.sm hb.sm)⟩
theorem dt_val (h : DE X cm e te f) (he : ∀ whole, isTrue e X.env whole = (do let v ← whole; standAt e.pos; holding [v] (truthy v)) := by intro _; rfl) : DT X cm e (tB te) (tst f) := ⟨pt_val h.pe he, smt_of h.sm⟩
def SmU (K : PySem.W.Frag) (cm : Cm) (r : V → Hp → VK → Prop) (g : D → Option D) : Prop := SmR1 K cm r g
theorem de_un {op : UnaryOp} {r : V → Hp → VK → Prop} {g : D → Option D} (ho : UnR X (unaryOp op) r) (hr : SmR1 X.K cm r g) (ha : DE X cm a ta fa) : DE X cm (.UnaryOp op a pos) (tUn r ta) (m1 g fa) := ⟨pe_un ho ha.pe, sm_op1 hr ha.sm⟩
/-- chains of two -/
def mch (g g' : D → D → Option D) (fa fb fc : M D) : M D := mb fa fun x => mb fb fun y => mb (mo ((g x y).bind toB)) fun k => if k = true then mb fc fun z => mo (g' y z) else mr (.bl false)
def Pure2 (K : PySem.W.Frag) (cm : Cm) (r : R2) (g : D → D → Option D) : Prop := ∀ F H x y a b d Q, Rp K cm F x a → Rp K cm F y b → SmH F H → g a b = some d → (∀ v, Rp K cm F v d → Q v H) → r x y H Q
theorem Pure2.sm {r : R2} {g : D → D → Option D} (h : Pure2 X.K cm r g) : SmR2 X.K cm r g := fun F H σ env O x y a b d Q s ra rb e k => h F H x y a b d Q ra rb s.fh e fun v r => k.here s r
theorem sm_chain {r r' : R2} {g g' : D → D → Option D} (hr : Pure2 X.K cm r g) (hr' : Pure2 X.K cm r' g') (ha : Sm X.K cm ta fa) (hb : Sm X.K cm tb fb) (hc : Sm X.K cm tc fc) : Sm X.K cm (tChain r r' ta tb tc) (mch g g' fa fb fc) := fun F H σ env O d env' Q s e k => by
  obtain ⟨x, env1, e1, e⟩ := mb_some e
  obtain ⟨y, env2, e2, e⟩ := mb_some e
  obtain ⟨w, env3, e3, e⟩ := mb_some e
  obtain ⟨e4, e5⟩ := mo_some e3
  dsimp only at e4 e5
  subst e5
  refine ha F H σ env O x env1 _ s e1 fun F1 H1 v O1 g1 s1 r1 => ?_
  refine hb F1 H1 σ env1 O1 y _ _ s1 e2 fun F2 H2 u O2 g2 s2 r2 => ?_
  cases q : g x y with
  | none => rw [q] at e4; cases e4
  | some z =>
    rw [q] at e4
    have e4 : toB z = some w := e4
    cases z <;> cases e4
    refine hr F2 H2 v u x y (.bl w) _ (r1.mono g2.ff) r2 s2.fh q fun z rz => ?_
    cases rz
    refine ⟨w, rfl, ?_⟩
    cases w with
    | true =>
      rw [if_pos rfl] at e
      obtain ⟨z, env4, e6, e⟩ := mb_some e
      obtain ⟨e7, e8⟩ := mo_some e
      dsimp only at e7 e8
      subst e8
      rw [if_pos rfl]
      refine hc F2 H2 σ _ O2 z _ _ s2 e6 fun F3 H3 t O3 g3 s3 r3 => ?_
      exact hr' F3 H3 u t y z d Q (r2.mono g3.ff) r3 s3.fh e7 fun v r => k F3 H3 v O3 ((g1.trans g2).trans g3) s3 r
    | false =>
      rw [if_neg Bool.false_ne_true] at e
      cases e
      rw [if_neg Bool.false_ne_true]
      exact k F2 H2 _ O2 (g1.trans g2) s2 (.bl false)
theorem de_chain {op op' : CmpOp} {r r' : R2} {g g' : D → D → Option D} (ho : OpR X (compareOp op) r) (hr : Pure2 X.K cm r g) (ho' : OpR X (compareOp op') r') (hr' : Pure2 X.K cm r' g') (ha : DE X cm a ta fa) (hb : DE X cm b tb fb) (hc : DE X cm c tc fc)
    (hm : lastMarks [op, op'] [b, c] = false := by with_unfolding_all rfl) : DE X cm (.Compare a [op, op'] [b, c] pos) (tChain r r' ta tb tc) (mch g g' fa fb fc) := ⟨pe_chain ho ho' ha.pe hb.pe hc.pe hm, sm_chain hr hr' ha.sm hb.sm hc.sm⟩
theorem dt_chain {op op' : CmpOp} {r r' : R2} {g g' : D → D → Option D} (ho : OpR X (compareOp op) r) (hr : Pure2 X.K cm r g) (ho' : OpR X (compareOp op') r') (hr' : Pure2 X.K cm r' g') (ha : DE X cm a ta fa) (hb : DE X cm b tb fb) (hc : DE X cm c tc fc)
    (hm : lastMarks [op, op'] [b, c] = false := by with_unfolding_all rfl) : DT X cm (.Compare a [op, op'] [b, c] pos) (tTest (tChain r r' ta tb tc)) (tst (mch g g' fa fb fc)) := ⟨pt_chain ho ho' ha.pe hb.pe hc.pe hm, smt_of (sm_chain hr hr' ha.sm hb.sm hc.sm)⟩
end

/-! ### the operators on data -/
def liI (g : Int → Int → D) : D → D → Option D
  | .int i, .int j => some (g i j)
  | _, _ => none
def lcI (C : Int → Int → Bool) (g : Int → Int → D) : D → D → Option D
  | .int i, .int j => if C i j = true then some (g i j) else none
  | _, _ => none
section
variable {K : PySem.W.Frag} {cm : Cm}
/-- a value that needs no cell -/
def flt : V → D
  | .int i => .int i
  | .bl b => .bl b
  | .str x => .str x
  | _ => .non
theorem pu_I0 {g : Int → Int → V} {h : Int → Int → D} (hh : ∀ i j F, Rp K cm F (g i j) (h i j)) : Pure2 K cm (rI0 g) (liI h) := fun F H x y a b d Q ra rb _ e k => by
  cases a <;> first | (cases e; done) | skip
  cases b <;> cases e
  cases ra; cases rb
  exact ⟨_, _, rfl, rfl, k _ (hh _ _ F)⟩
theorem pu_I {C : Int → Int → Prop} {Cb : Int → Int → Bool} {g : Int → Int → V} {h : Int → Int → D} (hC : ∀ i j, Cb i j = true → C i j) (hh : ∀ i j F, Rp K cm F (g i j) (h i j)) : Pure2 K cm (rI C g) (lcI Cb h) := fun F H x y a b d Q ra rb _ e k => by
  cases a <;> first | (cases e; done) | skip
  cases b <;> first | (cases e; done) | skip
  rename_i i j
  have e : (if Cb i j = true then some (h i j) else none) = some d := e
  by_cases c : Cb i j = true
  · rw [if_pos c] at e
    cases e
    cases ra; cases rb
    exact ⟨_, _, rfl, rfl, hC _ _ c, k _ (hh _ _ F)⟩
  · rw [if_neg c] at e; cases e
def subD := liI fun i j => .int (i - j)
def ltD := liI fun i j => .bl (decide (i < j))
def leD := liI fun i j => .bl (decide (i ≤ j))
def gtD := liI fun i j => .bl (decide (j < i))
def geD := liI fun i j => .bl (decide (j ≤ i))
theorem pu_lt : Pure2 K cm (rI0 fun i j => .bl (decide (i < j))) ltD := pu_I0 fun _ _ _ => .bl _
theorem pu_le : Pure2 K cm (rI0 fun i j => .bl (decide (i ≤ j))) leD := pu_I0 fun _ _ _ => .bl _
theorem pu_gt : Pure2 K cm (rI0 fun i j => .bl (decide (j < i))) gtD := pu_I0 fun _ _ _ => .bl _
theorem pu_ge : Pure2 K cm (rI0 fun i j => .bl (decide (j ≤ i))) geD := pu_I0 fun _ _ _ => .bl _
theorem pu_sub : Pure2 K cm (rI0 fun i j => .int (i - j)) subD := pu_I0 fun _ _ _ => .int _
def mulC (i j : Int) : Bool := decide ((-(2 ^ 64) < i ∧ i < 2 ^ 64) ∨ (-(2 ^ 64) < j ∧ j < 2 ^ 64))
def mulD := lcI mulC fun i j => .int (i * j)
theorem pu_mul : Pure2 K cm (rI CMul fun i j => .int (i * j)) mulD := pu_I (fun _ _ h => show CMul _ _ from by unfold CMul; exact of_decide_eq_true h) fun _ _ _ => .int _
def divC (i j : Int) : Bool := decide (j ≠ 0 ∧ j.natAbs < 1073741824)
def divD := lcI divC fun i j => .int (i.fdiv j)
theorem pu_div : Pure2 K cm (rI CDivN fun i j => .int (i.fdiv j)) divD := pu_I (fun _ _ h => show CDivN _ _ from by unfold CDivN; exact of_decide_eq_true h) fun _ _ _ => .int _
def modC (i j : Int) : Bool := decide (j ≠ 0)
def modD := lcI modC fun i j => .int (i.fmod j)
theorem pu_mod : Pure2 K cm (rI (fun _ j => j ≠ 0) fun i j => .int (i.fmod j)) modD := pu_I (fun _ _ h => of_decide_eq_true h) fun _ _ _ => .int _
def powC (i j : Int) : Bool := decide (0 ≤ j ∧ j ≤ 1000000 ∧ i.natAbs < 2 ^ 64)
def powD := lcI powC fun i j => .int (i ^ j.toNat)
theorem pu_pow : Pure2 K cm (rI CPow fun i j => .int (i ^ j.toNat)) powD := pu_I (fun _ _ h => show CPow _ _ from by unfold CPow; exact of_decide_eq_true h) fun _ _ _ => .int _
def shlD := lcI powC fun i j => .int (i * 2 ^ j.toNat)
theorem pu_shl : Pure2 K cm (rI CPow fun i j => .int (i * 2 ^ j.toNat)) shlD := pu_I (fun _ _ h => show CPow _ _ from by unfold CPow; exact of_decide_eq_true h) fun _ _ _ => .int _
def shrC (i j : Int) : Bool := decide (0 ≤ j)
def shrD := lcI shrC fun i j => .int (i / 2 ^ j.toNat)
theorem pu_shr : Pure2 K cm (rI (fun _ j => 0 ≤ j) fun i j => .int (i / 2 ^ j.toNat)) shrD := pu_I (fun _ _ h => of_decide_eq_true h) fun _ _ _ => .int _
def andD := liI fun i j => .int (Builtin.bitAnd i j)
theorem pu_and : Pure2 K cm (rI0 fun i j => .int (Builtin.bitAnd i j)) andD := pu_I0 fun _ _ _ => .int _
def negD : D → Option D
  | .int i => some (.int (-i))
  | _ => none
theorem sr_neg : SmR1 K cm (rU fun i => .int (-i)) negD := fun F H σ env O x a d Q s ra e k => by
  cases a <;> cases e
  cases ra
  exact ⟨_, rfl, k.here s (.int _)⟩
/-- + of ints, texts, tuples, lists (frozen) -/
def addD : D → D → Option D
  | .int i, .int j => some (.int (i + j))
  | .str x, .str y => if x.length + y.length ≤ 16777216 then some (.str (x ++ y)) else none
  | .tup xs, .tup ys => if xs.length + ys.length ≤ 16777216 then some (.tup (xs ++ ys)) else none
  | .lst xs, .lst ys => if xs.length + ys.length ≤ 16777216 then some (.lst (xs ++ ys)) else none
  | _, _ => none
theorem size_le {n : Nat} (h : n ≤ 16777216) : n ≤ sizeLine := by rw [sizeLine_eq]; exact h
def rAddA (K : PySem.W.Frag) : R2 := fun x y H Q => (rI0 (fun i j => .int (i + j)) x y H Q ∨ (∃ i j, x = .str i ∧ y = .str j ∧ i.length + j.length ≤ sizeLine ∧ Q (.str (i ++ j)) H)) ∨ (rCatA K x y H Q ∨ rCat x y H Q)
theorem op_addA {X : Cx} : OpR X (binaryOp .Add) (rAddA X.K) := .or (.or op_add op_add_str) (.or op_catA op_cat)
theorem sr_add : SmR2 K cm (rAddA K) addD := fun F H σ env O x y a b d Q s ra rb e k => by
  cases a <;> cases b <;> try (cases e; done)
  · cases e
    cases ra; cases rb
    exact .inl (.inl ⟨_, _, rfl, rfl, k.here s (.int _)⟩)
  · rename_i i j
    have e : (if i.length + j.length ≤ 16777216 then some (D.str (i ++ j)) else none) = some d := e
    by_cases c : i.length + j.length ≤ 16777216
    · rw [if_pos c] at e; cases e
      cases ra; cases rb
      exact .inl (.inr ⟨_, _, rfl, rfl, size_le c, k.here s (.str _)⟩)
    · rw [if_neg c] at e; cases e
  · rename_i xs ys
    have e : (if xs.length + ys.length ≤ 16777216 then some (D.lst (xs ++ ys)) else none) = some d := e
    by_cases c : xs.length + ys.length ≤ 16777216
    · rw [if_pos c] at e; cases e
      cases ra with
      | lst h1 r1 =>
        cases rb with
        | lst h2 r2 =>
          refine .inr (.inr ⟨_, _, _, _, rfl, rfl, s.fh.at h1, s.fh.at h2, size_le (by rw [r1.len, r2.len]; exact c), fun p hp => ?_⟩)
          exact k.alloc s hp fun F' sm e => .lst e ((r1.app r2).mono sm)
    · rw [if_neg c] at e; cases e
  · rename_i xs ys
    have e : (if xs.length + ys.length ≤ 16777216 then some (D.tup (xs ++ ys)) else none) = some d := e
    by_cases c : xs.length + ys.length ≤ 16777216
    · rw [if_pos c] at e; cases e
      cases ra with
      | tup h1 r1 =>
        rename_i pa va
        cases rb with
        | tup h2 r2 =>
          rename_i pb vb
          refine .inr (.inl ⟨_, _, _, _, rfl, rfl, tupT s.fh h1, tupT s.fh h2, size_le (by rw [r1.len, r2.len]; exact c), fun z => ?_, fun _ z => ?_, fun _ _ p hp => ?_⟩)
          · subst z; cases r1; exact k.here s (.tup h2 r2)
          · subst z; cases r2; rw [List.append_nil] at k; exact k.here s (.tup h1 r1)
          · exact k.alloc s hp fun F' sm e => .tup e ((r1.app r2).mono sm)
    · rw [if_neg c] at e; cases e
end
end DL

/-! The data layer: pure expressions, equality, membership, tests, argument lists, displays, subscripts, fields, calls of built-ins. -/
namespace DL
open PySem PySem.Spec PyProof.Rows L2

/-! ### pure expressions: neither heap nor slots change -/
abbrev P (α : Type) := Env → Option α
def Spu (K : PySem.W.Frag) (cm : Cm) (te : TE) (f : P D) : Prop := ∀ F H σ env O d (Q : VK), Sts K cm F H σ env O → f env = some d → (∀ v, Rp K cm F v d → Q v H) → te σ H Q
/-- what is looked at where it lies -/
def Spx (K : PySem.W.Frag) (cm : Cm) (te : TE) (f : P Fd) : Prop := ∀ F H σ env O x (Q : VK), Sts K cm F H σ env O → f env = some x → (∀ v S, OwF K cm F H v x S → Q v H) → te σ H Q
structure DP (X : Cx) (cm : Cm) (e : Expr) (te : TE) (f : P D) : Prop where
  pe : PE X e te
  sm : Spu X.K cm te f
structure DX (X : Cx) (cm : Cm) (e : Expr) (te : TE) (f : P Fd) : Prop where
  pe : PE X e te
  sm : Spx X.K cm te f
def pu (f : P D) : M D := fun env => (f env).map fun d => (d, env)
def pval (f : P D) : P Fd := fun env => (f env).map .val
def pc (d : D) : P D := fun _ => some d
def p1 (g : D → Option D) (fa : P D) : P D := fun env => (fa env).bind g
def p2 (g : D → D → Option D) (fa fb : P D) : P D := fun env => (fa env).bind fun x => (fb env).bind fun y => g x y
theorem bind_some {α β : Type} {o : Option α} {g : α → Option β} {r : β} (h : o.bind g = some r) : ∃ a, o = some a ∧ g a = some r := by
  cases o with
  | none => cases h
  | some a => exact ⟨a, rfl, h⟩
section
variable {X : Cx} {cm : Cm} {e a b c : Expr} {es : List Expr} {te ta tb tc : TE} {pos : Pos} {f g fa fb fc : P D}
theorem de_p (h : DP X cm e te f) : DE X cm e te (pu f) := ⟨h.pe, fun F H σ env O d env' Q s e k => by
  obtain ⟨d', e1, e2⟩ := map_some e
  cases e2
  exact h.sm F H σ env O d Q s e1 fun v r => k.here s r⟩
theorem dx_p (h : DP X cm e te f) : DX X cm e te (pval f) := ⟨h.pe, fun F H σ env O x Q s e k => by
  obtain ⟨d', e1, e2⟩ := map_some e
  cases e2
  exact h.sm F H σ env O d' Q s e1 fun v r => k v (fun _ => False) (.val r)⟩
theorem sp_c {v : V} {d : D} (r : ∀ F, Rp X.K cm F v d) : Spu X.K cm (tC v) (pc d) := fun F H σ env O d' Q s e k => by
  cases e
  exact k v (r F)
theorem dp_int {i j pos} : DP X cm (.Constant (.int i) j pos) (tC (.int i)) (pc (.int i)) := ⟨pe_int, sp_c fun _ => .int i⟩
theorem dp_bl {i j pos} : DP X cm (.Constant (.bool i) j pos) (tC (.bl i)) (pc (.bl i)) := ⟨pe_bl, sp_c fun _ => .bl i⟩
theorem dp_non {j pos} : DP X cm (.Constant .none j pos) (tC .non) (pc .non) := ⟨pe_non, sp_c fun _ => .non⟩
theorem dp_str {i j pos} : DP X cm (.Constant (.str i) j pos) (tC (.str i)) (pc (.str i)) := ⟨pe_str, sp_c fun _ => .str i⟩
theorem dp_glI {x : Str} {i : Int} (h : ∃ t, X.mg x = some (.int i t)) (hg : Gl X x) (hd : (x == ("__debug__" : Str)) = false := by decide) : DP X cm (.Name x pos) (tC (.int i)) (pc (.int i)) := by
  obtain ⟨t, hm⟩ := h
  exact ⟨pe_glob hg hm ⟨t, rfl⟩ hd, sp_c fun _ => .int i⟩
theorem dp_glS {x : Str} {i : Str} (h : ∃ t, X.mg x = some (.str i t)) (hg : Gl X x) (hd : (x == ("__debug__" : Str)) = false := by decide) : DP X cm (.Name x pos) (tC (.str i)) (pc (.str i)) := by
  obtain ⟨t, hm⟩ := h
  exact ⟨pe_glob hg hm ⟨t, rfl⟩ hd, sp_c fun _ => .str i⟩
theorem dp_glC {x : Str} (n : Nat) (hm : X.mg x = some (.ref (cm n))) (hg : Gl X x) (hd : (x == ("__debug__" : Str)) = false := by decide) : DP X cm (.Name x pos) (tC (.ref (cm n))) (pc (.cn n)) := ⟨pe_glob hg hm rfl hd, sp_c fun _ => .cn n⟩
/-- a slot that holds a value -/
def pd (i : Nat) : P D := fun env => match env[i]? with
  | some (some (.fd (.val d))) => some d
  | _ => none
def px (i : Nat) : P Fd := fun env => match env[i]? with
  | some (some (.fd x)) => some x
  | _ => none
theorem dp (i : Nat) {x : Str} (hN : X.N[i]? = some x := by rfl) (hv : Vis X.env.scope x := by first | exact Or.inl rfl | exact Or.inr (Or.inl rfl) | exact Or.inr (Or.inr rfl)) (hd : (x == ("__debug__" : Str)) = false := by decide)
    (hcd : (x == ("__classdict__" : Str)) = false := by decide) : DP X cm (.Name x pos) (tVar i) (pd i) := by
  refine ⟨pe_var hN hv hd hcd, fun F H σ env O d Q s e k => ?_⟩
  unfold pd at e
  split at e
  · rename_i o q
    cases e
    obtain ⟨v, ev, ow⟩ := s.at_ i _ q
    cases ow with
    | fd r => cases r with
      | val r => exact ⟨v, ev, k v r⟩
  · cases e
theorem dx (i : Nat) {x : Str} (hN : X.N[i]? = some x := by rfl) (hv : Vis X.env.scope x := by first | exact Or.inl rfl | exact Or.inr (Or.inl rfl) | exact Or.inr (Or.inr rfl)) (hd : (x == ("__debug__" : Str)) = false := by decide)
    (hcd : (x == ("__classdict__" : Str)) = false := by decide) : DX X cm (.Name x pos) (tVar i) (px i) := by
  refine ⟨pe_var hN hv hd hcd, fun F H σ env O d Q s e k => ?_⟩
  unfold px at e
  split at e
  · rename_i o q
    cases e
    obtain ⟨v, ev, ow⟩ := s.at_ i _ q
    cases ow with
    | fd r => exact ⟨v, ev, k v _ r⟩
  · cases e
/-! ### fields -/
def fldD (n : Str) : D → Option D
  | .obj _ gs => gs.lookup n
  | _ => none
theorem lookup_pair {α β : Type} {R : α → β → Prop} {n : Str} : ∀ {fs : List (Str × α)} {gs : List (Str × β)} {d : β}, fs.map (·.1) = gs.map (·.1) → (∀ (i : Nat) (x : Str × α) (y : Str × β), fs[i]? = some x → gs[i]? = some y → R x.2 y.2) → gs.lookup n = some d → ∃ v, fs.lookup n = some v ∧ R v d ∧ n ∈ fs.map (·.1)
  | [], [], d, _, _, e => by cases e
  | [], _ :: _, d, h, _, e => by cases h
  | _ :: _, [], d, h, _, e => by cases h
  | (m, v) :: fs, (m', y) :: gs, d, h, r, e => by
    rw [List.map_cons, List.map_cons] at h
    obtain ⟨h1, h2⟩ := List.cons.inj h
    have h1 : m = m' := h1
    subst h1
    rw [List.lookup_cons] at e
    by_cases q : (n == m) = true
    · rw [q] at e
      cases e
      exact ⟨v, by rw [List.lookup_cons, q], r 0 _ _ rfl rfl, by rw [List.map_cons, show n = m from eq_of_beq q]; exact List.mem_cons_self⟩
    · have q : (n == m) = false := by simpa using q
      rw [q] at e
      obtain ⟨w, e1, e2, e3⟩ := lookup_pair (fs := fs) (gs := gs) h2 (fun i x y a b => r (i + 1) x y a b) e
      exact ⟨w, by rw [List.lookup_cons, q]; exact e1, e2, by rw [List.map_cons]; exact List.mem_cons_of_mem _ e3⟩
theorem RpA.at2 {K : PySem.W.Frag} {F : Hp} {vs : List V} {ds : List D} {i : Nat} {v : V} {d : D} (h : RpA K cm F vs ds) (h1 : vs[i]? = some v) (h2 : ds[i]? = some d) : Rp K cm F v d := by
  obtain ⟨d', e1, e2⟩ := h.get h1
  rw [h2] at e1; cases e1; exact e2
theorem fld_rp {F H : Hp} {x : V} {d d' : D} {n : Str} (r : Rp X.K cm F x d) (fh : SmH F H) (e : fldD n d = some d') :
    ∃ a C dx fs v, x = .ref a ∧ H a = some (.ins C dx fs) ∧ Cls X.K C ∧ NoAttr X.K C n ∧ fs.lookup n = some v ∧ Rp X.K cm F v d' := by
  cases d <;> try (cases e; done)
  cases r with
  | obj h c hn ra =>
    obtain ⟨v, e1, e2, e3⟩ := lookup_pair (R := Rp X.K cm F) hn (fun i x y h1 h2 => ra.at2 (i := i) (by rw [List.getElem?_map, h1]; rfl) (by rw [List.getElem?_map, h2]; rfl)) e
    exact ⟨_, _, _, _, v, rfl, fh.at h, c.ft.cl, c.no _ e3, e1, e2⟩
theorem dp_fld {n : Str} (h : DP X cm e ta fa) (hb : attributeBase e n X.env (eval e X.env) = eval e X.env := by rfl) : DP X cm (.Attribute e n pos) (tFld X.K ta n) (p1 (fldD n) fa) := by
  refine ⟨pe_fld h.pe hb, fun F H σ env O d Q s e k => ?_⟩
  obtain ⟨x, e1, e2⟩ := bind_some e
  refine h.sm F H σ env O x _ s e1 fun v r => ?_
  obtain ⟨a, C, dx, fs, w, h1, h2, h3, h4, h5, h6⟩ := fld_rp r s.fh e2
  exact ⟨a, C, dx, fs, w, h1, h2, h3, h4, h5, k w h6⟩
theorem de_fld {n : Str} {fa : M D} (h : DE X cm e ta fa) (hb : attributeBase e n X.env (eval e X.env) = eval e X.env := by rfl) : DE X cm (.Attribute e n pos) (tFld X.K ta n) (m1 (fldD n) fa) := by
  refine ⟨pe_fld h.pe hb, fun F H σ env O d env' Q s e k => ?_⟩
  obtain ⟨x, env1, e1, e⟩ := mb_some e
  obtain ⟨e3, e4⟩ := mo_some e
  dsimp only at e3 e4
  subst e4
  refine h.sm F H σ env O x _ _ s e1 fun F1 H1 v O1 g1 s1 r => ?_
  obtain ⟨a, C, dx, fs, w, h1, h2, h3, h4, h5, h6⟩ := fld_rp r s1.fh e3
  exact ⟨a, C, dx, fs, w, h1, h2, h3, h4, h5, k F1 H1 w O1 g1 s1 h6⟩
/-- a field of the object in slot i, frozen or one's own: looked at where it lies -/
def pxf (i : Nat) (n : Str) : P Fd := fun env => match env[i]? with
  | some (some (.obj _ gs)) => gs.lookup n
  | some (some (.fd (.val (.obj _ gs)))) => (gs.lookup n).map .val
  | _ => none
theorem OwFs.look {K : PySem.W.Frag} {F H : Hp} {n : Str} {fs : List (Str × V)} {gs : List (Str × Fd)} {S : Rg} {x : Fd} (h : OwFs K cm F H fs gs S) : gs.lookup n = some x → ∃ v S', fs.lookup n = some v ∧ OwF K cm F H v x S' ∧ (∀ p, S' p → S p) ∧ n ∈ fs.map (·.1) := by
  induction h with
  | nil => intro e; cases e
  | @cons m v y fs gs S S1 S2 ow r d a b ih =>
    intro e
    rw [List.lookup_cons] at e
    by_cases q : (n == m) = true
    · rw [q] at e
      cases e
      exact ⟨v, S1, by rw [List.lookup_cons, q], ow, a, by rw [List.map_cons, show n = m from eq_of_beq q]; exact List.mem_cons_self⟩
    · have q : (n == m) = false := by simpa using q
      rw [q] at e
      obtain ⟨w, S', e1, e2, e3, e4⟩ := ih e
      exact ⟨w, S', by rw [List.lookup_cons, q]; exact e1, e2, fun p z => b p (e3 p z), by rw [List.map_cons]; exact List.mem_cons_of_mem _ e4⟩
theorem dxf (i : Nat) {x n : Str} {p1 : Pos} (hb : attributeBase (.Name x p1) n X.env (eval (.Name x p1) X.env) = eval (.Name x p1) X.env := by rfl) (hN : X.N[i]? = some x := by rfl) (hv : Vis X.env.scope x := by first | exact Or.inl rfl | exact Or.inr (Or.inl rfl) | exact Or.inr (Or.inr rfl)) (hd : (x == ("__debug__" : Str)) = false := by decide)
    (hcd : (x == ("__classdict__" : Str)) = false := by decide) : DX X cm (.Attribute (.Name x p1) n pos) (tFld X.K (tVar i) n) (pxf i n) := by
  refine ⟨pe_fld (pe_var hN hv hd hcd) hb, fun F H σ env O y Q s e k => ?_⟩
  unfold pxf at e
  split at e
  · rename_i c gs q
    obtain ⟨v, ev, ow⟩ := s.at_ i _ q
    cases ow with
    | @obj p dx c fs gs S S' h c r nn aa z =>
      obtain ⟨w, S2, e1, e2, _, e3⟩ := r.look e
      exact ⟨_, ev, p, _, dx, fs, w, rfl, h, c.ft.cl, c.no _ e3, e1, k w S2 e2⟩
  · rename_i c gs q
    obtain ⟨d', e1, e2⟩ := map_some e
    cases e2
    obtain ⟨v, ev, ow⟩ := s.at_ i _ q
    cases ow with
    | fd r => cases r with
      | val r =>
        obtain ⟨a, C, dx, fs, w, h1, h2, h3, h4, h5, h6⟩ := fld_rp (n := n) r s.fh e1
        exact ⟨v, ev, a, C, dx, fs, w, h1, h2, h3, h4, h5, k w (fun _ => False) (.val h6)⟩
  · cases e
def pdf (i : Nat) (n : Str) : P D := fun env => match pxf i n env with
  | some (.val d) => some d
  | _ => none
theorem dpf (i : Nat) {x n : Str} {p1 : Pos} (hb : attributeBase (.Name x p1) n X.env (eval (.Name x p1) X.env) = eval (.Name x p1) X.env := by rfl) (hN : X.N[i]? = some x := by rfl) (hv : Vis X.env.scope x := by first | exact Or.inl rfl | exact Or.inr (Or.inl rfl) | exact Or.inr (Or.inr rfl)) (hd : (x == ("__debug__" : Str)) = false := by decide)
    (hcd : (x == ("__classdict__" : Str)) = false := by decide) : DP X cm (.Attribute (.Name x p1) n pos) (tFld X.K (tVar i) n) (pdf i n) := by
  have h := dxf (cm := cm) (pos := pos) i hb hN hv hd hcd
  refine ⟨h.pe, fun F H σ env O d Q s e k => ?_⟩
  unfold pdf at e
  split at e
  · rename_i d' q
    cases e
    refine h.sm F H σ env O _ Q s q fun v S ow => ?_
    cases ow with
    | val r => exact k v r
  · cases e
/-! ### operators, comparisons -/
theorem sp_op2 {r : R2} {g : D → D → Option D} (hr : Pure2 X.K cm r g) (ha : Spu X.K cm ta fa) (hb : Spu X.K cm tb fb) : Spu X.K cm (tOp r ta tb) (p2 g fa fb) := fun F H σ env O d Q s e k => by
  obtain ⟨x, e1, e⟩ := bind_some e
  obtain ⟨y, e2, e⟩ := bind_some e
  exact ha F H σ env O x _ s e1 fun v r1 => hb F H σ env O y _ s e2 fun w r2 => hr F H v w x y d Q r1 r2 s.fh e k
theorem dp_op {op : Operator} {r : R2} {g : D → D → Option D} (ho : OpR X (binaryOp op) r) (hr : Pure2 X.K cm r g) (ha : DP X cm a ta fa) (hb : DP X cm b tb fb) : DP X cm (.BinOp a op b pos) (tOp r ta tb) (p2 g fa fb) := ⟨pe_op ho ha.pe hb.pe, sp_op2 hr ha.sm hb.sm⟩
theorem dp_cmp {op : CmpOp} {r : R2} {g : D → D → Option D} (ho : OpR X (compareOp op) r) (hr : Pure2 X.K cm r g) (ha : DP X cm a ta fa) (hb : DP X cm b tb fb) (hm : behindInMarks op b = false) : DP X cm (.Compare a [op] [b] pos) (tOp r ta tb) (p2 g fa fb) := ⟨pe_cmpR ho ha.pe hb.pe hm, sp_op2 hr ha.sm hb.sm⟩
def addI := liI fun i j => .int (i + j)
theorem pu_addI {K : PySem.W.Frag} : Pure2 K cm (rI0 fun i j => .int (i + j)) addI := pu_I0 fun _ _ _ => .int _
def pch (g g' : D → D → Option D) (fa fb fc : P D) : P D := fun env => (fa env).bind fun x => (fb env).bind fun y => ((g x y).bind toB).bind fun k => if k = true then (fc env).bind fun z => g' y z else some (.bl false)
theorem dp_chain {op op' : CmpOp} {r r' : R2} {g g' : D → D → Option D} (ho : OpR X (compareOp op) r) (hr : Pure2 X.K cm r g) (ho' : OpR X (compareOp op') r') (hr' : Pure2 X.K cm r' g') (ha : DP X cm a ta fa) (hb : DP X cm b tb fb) (hc : DP X cm c tc fc)
    (hm : lastMarks [op, op'] [b, c] = false := by with_unfolding_all rfl) : DP X cm (.Compare a [op, op'] [b, c] pos) (tChain r r' ta tb tc) (pch g g' fa fb fc) := by
  refine ⟨pe_chain ho ho' ha.pe hb.pe hc.pe hm, fun F H σ env O d Q s e k => ?_⟩
  obtain ⟨x, e1, e⟩ := bind_some e
  obtain ⟨y, e2, e⟩ := bind_some e
  obtain ⟨w, e3, e⟩ := bind_some e
  obtain ⟨z, e4, e5⟩ := bind_some e3
  cases z <;> cases e5
  refine ha.sm F H σ env O x _ s e1 fun v r1 => hb.sm F H σ env O y _ s e2 fun u r2 => hr F H v u x y (.bl w) _ r1 r2 s.fh e4 fun z rz => ?_
  cases rz
  refine ⟨w, rfl, ?_⟩
  cases w with
  | true =>
    rw [if_pos rfl] at e ⊢
    obtain ⟨z, e6, e⟩ := bind_some e
    exact hc.sm F H σ env O z _ s e6 fun t r3 => hr' F H u t y z d Q r2 r3 s.fh e k
  | false =>
    rw [if_neg Bool.false_ne_true] at e ⊢
    cases e
    exact k _ (.bl false)
/-- pure tests -/
def SpT (K : PySem.W.Frag) (cm : Cm) (te : TT) (f : P Bool) : Prop := ∀ F H σ env O d (Q : Bool → Hp → Prop), Sts K cm F H σ env O → f env = some d → Q d H → te σ H Q
structure DQ (X : Cx) (cm : Cm) (e : Expr) (te : TT) (f : P Bool) : Prop where
  pe : PT X e te
  sm : SpT X.K cm te f
structure DV (X : Cx) (cm : Cm) (e : Expr) (te : TT) (f : P Bool) : Prop where
  pe : PW X e te
  sm : SpT X.K cm te f
def tq (f : P D) : P Bool := fun env => (f env).bind toB
def put (f : P Bool) : M Bool := fun env => (f env).map fun d => (d, env)
theorem spt_of (h : Spu X.K cm te f) : SpT X.K cm (tTest te) (tq f) := fun F H σ env O d Q s e k => by
  obtain ⟨x, e1, e⟩ := bind_some e
  refine h F H σ env O x _ s e1 fun v r => ?_
  cases x <;> cases e
  cases r
  exact ⟨d, rfl, k⟩
theorem dt_q {te : TT} {f : P Bool} (h : DQ X cm e te f) : DT X cm e te (put f) := ⟨h.pe, fun F H σ env O d env' Q s e k => by
  obtain ⟨d', e1, e2⟩ := map_some e
  cases e2
  exact h.sm F H σ env O d Q s e1 (k.here s)⟩
theorem dq_cmp {op : CmpOp} {r : R2} {g : D → D → Option D} (ho : OpR X (compareOp op) r) (hr : Pure2 X.K cm r g) (ha : DP X cm a ta fa) (hb : DP X cm b tb fb) (hm : behindInMarks op b = false) : DQ X cm (.Compare a [op] [b] pos) (tTest (tOp r ta tb)) (tq (p2 g fa fb)) := ⟨pt_cmpR ho ha.pe hb.pe hm, spt_of (sp_op2 hr ha.sm hb.sm)⟩
theorem dq_chain {op op' : CmpOp} {r r' : R2} {g g' : D → D → Option D} (ho : OpR X (compareOp op) r) (hr : Pure2 X.K cm r g) (ho' : OpR X (compareOp op') r') (hr' : Pure2 X.K cm r' g') (ha : DP X cm a ta fa) (hb : DP X cm b tb fb) (hc : DP X cm c tc fc)
    (hm : lastMarks [op, op'] [b, c] = false := by with_unfolding_all rfl) : DQ X cm (.Compare a [op, op'] [b, c] pos) (tTest (tChain r r' ta tb tc)) (tq (pch g g' fa fb fc)) := ⟨pt_chain ho ho' ha.pe hb.pe hc.pe hm, spt_of (dp_chain (pos := pos) ho hr ho' hr' ha hb hc hm).sm⟩
theorem dq_val (h : DP X cm e te f) (he : ∀ whole, isTrue e X.env whole = (do let v ← whole; standAt e.pos; holding [v] (truthy v)) := by intro _; rfl) : DQ X cm e (tB te) (tq f) := ⟨pt_val h.pe he, spt_of h.sm⟩
/-! and, or, not -/
def mand (f g : M Bool) : M Bool := mb f fun k => if k = true then g else mr false
def mor (f g : M Bool) : M Bool := mb f fun k => if k = true then mr true else g
def mnot (f : M Bool) : M Bool := mb f fun k => mr (!k)
def pand (f g : P Bool) : P Bool := fun env => (f env).bind fun k => if k = true then g env else some false
def por (f g : P Bool) : P Bool := fun env => (f env).bind fun k => if k = true then some true else g env
def pnot (f : P Bool) : P Bool := fun env => (f env).bind fun k => some (!k)
theorem sm_and {t u : TT} {f g : M Bool} (h : SmT X.K cm t f) (h' : SmT X.K cm u g) : SmT X.K cm (tAnd t u) (mand f g) := fun F H σ env O d env' Q s e k => by
  obtain ⟨x, env1, e1, e⟩ := mb_some e
  refine h F H σ env O x _ _ s e1 fun F1 H1 O1 g1 s1 => ?_
  cases x with
  | true => rw [if_pos rfl] at e ⊢; exact h' F1 H1 σ _ O1 d _ Q s1 e (k.go g1)
  | false => rw [if_neg Bool.false_ne_true] at e ⊢; cases e; exact k F1 H1 O1 g1 s1
theorem sm_or {t u : TT} {f g : M Bool} (h : SmT X.K cm t f) (h' : SmT X.K cm u g) : SmT X.K cm (tOr t u) (mor f g) := fun F H σ env O d env' Q s e k => by
  obtain ⟨x, env1, e1, e⟩ := mb_some e
  refine h F H σ env O x _ _ s e1 fun F1 H1 O1 g1 s1 => ?_
  cases x with
  | false => rw [if_neg Bool.false_ne_true] at e ⊢; exact h' F1 H1 σ _ O1 d _ Q s1 e (k.go g1)
  | true => rw [if_pos rfl] at e ⊢; cases e; exact k F1 H1 O1 g1 s1
theorem sm_not {t : TT} {f : M Bool} (h : SmT X.K cm t f) : SmT X.K cm (tNot t) (mnot f) := fun F H σ env O d env' Q s e k => by
  obtain ⟨x, env1, e1, e⟩ := mb_some e
  cases e
  exact h F H σ env O x _ _ s e1 fun F1 H1 O1 g1 s1 => k F1 H1 O1 g1 s1
theorem dw_and1 {te : TT} {f : M Bool} (h : DT X cm a te f) : DW X cm (.BoolOp .And [a] pos) te f := ⟨pw_and1 h.pe, h.sm⟩
theorem dw_or1 {te : TT} {f : M Bool} (h : DT X cm a te f) : DW X cm (.BoolOp .Or [a] pos) te f := ⟨pw_or1 h.pe, h.sm⟩
theorem dw_and {te tu : TT} {f g : M Bool} {rest : List Expr} (h : DT X cm a te f) (h' : DW X cm (.BoolOp .And (b :: rest) pos) tu g) : DW X cm (.BoolOp .And (a :: b :: rest) pos) (tAnd te tu) (mand f g) := ⟨pw_and h.pe h'.pe, sm_and h.sm h'.sm⟩
theorem dw_or {te tu : TT} {f g : M Bool} {rest : List Expr} (h : DT X cm a te f) (h' : DW X cm (.BoolOp .Or (b :: rest) pos) tu g) : DW X cm (.BoolOp .Or (a :: b :: rest) pos) (tOr te tu) (mor f g) := ⟨pw_or h.pe h'.pe, sm_or h.sm h'.sm⟩
theorem dt_w {te : TT} {f : M Bool} (h : DW X cm e te f) : DT X cm e te f := ⟨h.pe.pt, h.sm⟩
theorem dt_not {te : TT} {f : M Bool} (h : DT X cm a te f) : DT X cm (.UnaryOp .Not a pos) (tNot te) (mnot f) := ⟨pt_not h.pe, sm_not h.sm⟩
/-! the same as values: truth values alone -/
def vand (f g : M D) : M D := mb (tst f) fun k => if k = true then g else mr (.bl false)
def vor (f g : M D) : M D := mb (tst f) fun k => if k = true then mr (.bl true) else g
def vnot (f : M D) : M D := mb (tst f) fun k => mr (.bl (!k))
theorem tst_some {f : M D} {env env1 : Env} {k : Bool} (h : tst f env = some (k, env1)) : f env = some (.bl k, env1) := by
  obtain ⟨x, env2, e1, e⟩ := mb_some h
  obtain ⟨e3, e4⟩ := mo_some e
  dsimp only at e3 e4
  subst e4
  cases x <;> cases e3
  exact e1
theorem de_one {op} {f : M D} (h : DE X cm a te f) : DE X cm (.BoolOp op [a] pos) te f := ⟨pe_one h.pe, h.sm⟩
theorem de_and {rest : List Expr} {fa fb : M D} (ha : DE X cm a ta fa) (hb : DE X cm (.BoolOp .And (b :: rest) pos) tb fb) : DE X cm (.BoolOp .And (a :: b :: rest) pos) (tAndV ta tb) (vand fa fb) := by
  refine ⟨pe_and ha.pe hb.pe, fun F H σ env O d env' Q s e k => ?_⟩
  obtain ⟨x, env1, e1, e⟩ := mb_some e
  refine ha.sm F H σ env O _ _ _ s (tst_some e1) fun F1 H1 v O1 g1 s1 r => ?_
  cases r
  refine ⟨x, rfl, ?_⟩
  cases x with
  | true => rw [if_pos rfl] at e ⊢; exact hb.sm F1 H1 σ _ O1 d _ Q s1 e (k.go g1)
  | false => rw [if_neg Bool.false_ne_true] at e ⊢; cases e; exact k F1 H1 _ O1 g1 s1 (.bl false)
theorem de_or {rest : List Expr} {fa fb : M D} (ha : DE X cm a ta fa) (hb : DE X cm (.BoolOp .Or (b :: rest) pos) tb fb) : DE X cm (.BoolOp .Or (a :: b :: rest) pos) (tOrV ta tb) (vor fa fb) := by
  refine ⟨pe_or ha.pe hb.pe, fun F H σ env O d env' Q s e k => ?_⟩
  obtain ⟨x, env1, e1, e⟩ := mb_some e
  refine ha.sm F H σ env O _ _ _ s (tst_some e1) fun F1 H1 v O1 g1 s1 r => ?_
  cases r
  refine ⟨x, rfl, ?_⟩
  cases x with
  | false => rw [if_neg Bool.false_ne_true] at e ⊢; exact hb.sm F1 H1 σ _ O1 d _ Q s1 e (k.go g1)
  | true => rw [if_pos rfl] at e ⊢; cases e; exact k F1 H1 _ O1 g1 s1 (.bl true)
theorem de_not {fa : M D} (ha : DE X cm a ta fa) : DE X cm (.UnaryOp .Not a pos) (tNotV ta) (vnot fa) := by
  refine ⟨pe_not ha.pe, fun F H σ env O d env' Q s e k => ?_⟩
  obtain ⟨x, env1, e1, e⟩ := mb_some e
  cases e
  refine ha.sm F H σ env O _ _ _ s (tst_some e1) fun F1 H1 v O1 g1 s1 r => ?_
  cases r
  exact ⟨x, rfl, k F1 H1 _ O1 g1 s1 (.bl _)⟩
def mif {α : Type} (c : M Bool) (f g : M α) : M α := mb c fun k => if k = true then f else g
theorem de_if {tt : TT} {fc : M Bool} {fa fb : M D} (hc : DT X cm c tt fc) (ha : DE X cm a ta fa) (hb : DE X cm b tb fb) : DE X cm (.IfExp c a b pos) (tIf tt ta tb) (mif fc fa fb) := by
  refine ⟨pe_ifExp hc.pe ha.pe hb.pe, fun F H σ env O d env' Q s e k => ?_⟩
  obtain ⟨x, env1, e1, e⟩ := mb_some e
  refine hc.sm F H σ env O x _ _ s e1 fun F1 H1 O1 g1 s1 => ?_
  cases x with
  | true => rw [if_pos rfl] at e ⊢; exact ha.sm F1 H1 σ _ O1 d _ Q s1 e (k.go g1)
  | false => rw [if_neg Bool.false_ne_true] at e ⊢; exact hb.sm F1 H1 σ _ O1 d _ Q s1 e (k.go g1)
/-! ### argument lists, displays -/
def anil : M (List D) := mr []
def acons (f : M D) (g : M (List D)) : M (List D) := mb f fun d => mb g fun ds => mr (d :: ds)
theorem da_nil : DA X cm [] tNil anil := ⟨pa_nil, fun F H σ env O ds env' Q s e k => by cases e; exact k F H [] O Go.refl s .nil⟩
theorem da_cons {fa : M D} {t : TA} {g : M (List D)} (ha : DE X cm e ta fa) (hr : DA X cm es t g) (hs : starEach (e :: es) X.env = (false, eval e X.env) :: starEach es X.env := by rfl) : DA X cm (e :: es) (tCons ta t) (acons fa g) := by
  refine ⟨pa_cons ha.pe hr.pe hs, fun F H σ env O ds env' Q s e k => ?_⟩
  obtain ⟨x, env1, e1, e⟩ := mb_some e
  obtain ⟨y, env2, e2, e⟩ := mb_some e
  cases e
  refine ha.sm F H σ env O x _ _ s e1 fun F1 H1 v O1 g1 s1 r => ?_
  refine hr.sm F1 H1 σ _ O1 y _ _ s1 e2 fun F2 H2 vs O2 g2 s2 rs => ?_
  exact k F2 H2 _ O2 (g1.trans g2) s2 (.cons (r.mono g2.ff) rs)
def szc {α : Type} (n : Nat) (a : α) : Option α := if n ≤ 16777216 then some a else none
theorem szc_some {α : Type} {n : Nat} {a b : α} (h : szc n a = some b) : n ≤ 16777216 ∧ a = b := by
  unfold szc at h
  by_cases c : n ≤ 16777216
  · rw [if_pos c] at h; cases h; exact ⟨c, rfl⟩
  · rw [if_neg c] at h; cases h
def mtup (g : M (List D)) : M D := mb g fun ds => mo (szc ds.length (.tup ds))
def mlst (g : M (List D)) : M Od := mb g fun ds => mo (szc ds.length (.fd (.lst ds)))
theorem de_tup {t : TA} {g : M (List D)} {x1} (h : DA X cm es t g) : DE X cm (.Tuple es x1 pos) (tTup t) (mtup g) := by
  refine ⟨pe_tup h.pe, fun F H σ env O d env' Q s e k => ?_⟩
  obtain ⟨x, env1, e1, e⟩ := mb_some e
  obtain ⟨e3, e4⟩ := mo_some e
  dsimp only at e3 e4
  subst e4
  obtain ⟨hz, rfl⟩ := szc_some e3
  refine h.sm F H σ env O x _ _ s e1 fun F1 H1 vs O1 g1 s1 r => ⟨size_le (by rw [r.len]; exact hz), fun p hp => ?_⟩
  exact (k.go g1).alloc s1 hp fun F' sm e => .tup e (r.mono sm)
theorem do_lst {t : TA} {g : M (List D)} (h : DA X cm es t g) : DO X cm (.List es pos) (tLst t) (mlst g) := by
  refine ⟨pe_lst h.pe, fun F H σ env O d env' Q s e k => ?_⟩
  obtain ⟨x, env1, e1, e⟩ := mb_some e
  obtain ⟨e3, e4⟩ := mo_some e
  dsimp only at e3 e4
  subst e4
  obtain ⟨hz, rfl⟩ := szc_some e3
  refine h.sm F H σ env O x _ _ s e1 fun F1 H1 vs O1 g1 s1 r => ⟨size_le (by rw [r.len]; exact hz), fun p hp => ?_⟩
  exact (k.go g1).fresh s1 hp r
end
end DL

/-! The data layer: equality, membership, subscripts, slices, calls of built-ins, methods of lists. -/
namespace DL
open PySem PySem.Spec PyProof.Rows L2

/-! ### equality of data -/
mutual
def toP : D → Option PyData
  | .non => some .none
  | .bl b => some (.bool b)
  | .int i => some (.int i)
  | .str x => some (.str x)
  | .lst xs => (toPs xs).map .list
  | .tup xs => (toPs xs).map .tuple
  | _ => none
def toPs : List D → Option (List PyData)
  | [] => some []
  | d :: ds => match toP d, toPs ds with
    | some p, some ps => some (p :: ps)
    | _, _ => none
end
section
variable {K : PySem.W.Frag} {cm : Cm} {F H : Hp}
mutual
theorem Rp.dp (fh : SmH F H) : ∀ {v : V} {d : D} {p : PyData}, Rp K cm F v d → toP d = some p → Dp K H v p
  | _, _, p, .non, e => by unfold toP at e; cases e; exact .non
  | _, _, p, .bl b, e => by unfold toP at e; cases e; exact .bl b
  | _, _, p, .int b, e => by unfold toP at e; cases e; exact .int b
  | _, _, p, .str b, e => by unfold toP at e; cases e; exact .str b
  | _, _, p, .lst h r, e => by
    unfold toP at e
    obtain ⟨q, e1, rfl⟩ := map_some e
    exact .lst (.of (fh.at h)) (RpA.dp fh r e1)
  | _, _, p, .tup h r, e => by
    unfold toP at e
    obtain ⟨q, e1, rfl⟩ := map_some e
    exact .tup (tupT fh h) (RpA.dp fh r e1)
  | _, _, p, .cn n, e => by unfold toP at e; cases e
  | _, _, p, .scr h, e => by unfold toP at e; cases e
  | _, _, p, .obj h c n r, e => by unfold toP at e; cases e
  | _, _, p, .dik h n r, e => by unfold toP at e; cases e
  | _, _, p, .dit h n r, e => by unfold toP at e; cases e
  | _, _, p, .memo h, e => by unfold toP at e; cases e
  | _, _, p, .lik h n r, e => by unfold toP at e; cases e
  | _, _, p, .lit h n r, e => by unfold toP at e; cases e
theorem RpA.dp (fh : SmH F H) : ∀ {vs : List V} {ds : List D} {ps : List PyData}, RpA K cm F vs ds → toPs ds = some ps → DpAll K H vs ps
  | _, _, ps, .nil, e => by unfold toPs at e; cases e; exact .nil
  | _, _, ps, .cons h r, e => by
    unfold toPs at e
    split at e
    · rename_i p q e1 e2
      cases e
      exact .cons (Rp.dp fh h e1) (RpA.dp fh r e2)
    · cases e
end
def eqD (a b : D) : Option D := match toP a, toP b with
  | some p, some q => if (SeqAt.shaped p && SeqAt.shaped q) = true then some (.bl (PyData.eqv p q)) else none
  | _, _ => none
def neD (a b : D) : Option D := match toP a, toP b with
  | some p, some q => if (SeqAt.shaped p && SeqAt.shaped q) = true then some (.bl (!PyData.eqv p q)) else none
  | _, _ => none
theorem pu_eq : Pure2 K cm (rEqD K) eqD := fun F H x y a b d Q ra rb fh e k => by
  unfold eqD at e
  split at e
  · rename_i p q e1 e2
    by_cases c : (SeqAt.shaped p && SeqAt.shaped q) = true
    · rw [if_pos c] at e
      cases e
      rw [Bool.and_eq_true] at c
      exact ⟨p, q, ra.dp fh e1, rb.dp fh e2, c.1, c.2, k _ (.bl _)⟩
    · rw [if_neg c] at e; cases e
  · cases e
theorem pu_ne : Pure2 K cm (rNeD K) neD := fun F H x y a b d Q ra rb fh e k => by
  unfold neD at e
  split at e
  · rename_i p q e1 e2
    by_cases c : (SeqAt.shaped p && SeqAt.shaped q) = true
    · rw [if_pos c] at e
      cases e
      rw [Bool.and_eq_true] at c
      exact ⟨p, q, ra.dp fh e1, rb.dp fh e2, c.1, c.2, k _ (.bl _)⟩
    · rw [if_neg c] at e; cases e
  · cases e
/-! is None -/
def isnD (a b : D) : Option D := match b with
  | .non => some (.bl (match a with | .non => true | _ => false))
  | _ => none
def nonD (a b : D) : Option D := match b with
  | .non => some (.bl (!(match a with | .non => true | _ => false)))
  | _ => none
theorem pu_isn : Pure2 K cm (fun x y H Q => y = .non ∧ Q (.bl (decide (x = .non))) H) isnD := fun F H x y a b d Q ra rb fh e k => by
  cases b <;> cases e
  cases rb
  refine ⟨rfl, ?_⟩
  cases ra <;> exact k _ (.bl _)
theorem pu_non : Pure2 K cm (fun x y H Q => y = .non ∧ Q (.bl (!decide (x = .non))) H) nonD := fun F H x y a b d Q ra rb fh e k => by
  cases b <;> cases e
  cases rb
  refine ⟨rfl, ?_⟩
  cases ra <;> exact k _ (.bl _)
/-! ### membership -/
def toV : D → Option V
  | .non => some .non
  | .bl b => some (.bl b)
  | .int i => some (.int i)
  | .str x => some (.str x)
  | _ => none
def toVs : List D → Option (List V)
  | [] => some []
  | d :: ds => (toV d).bind fun v => (toVs ds).map (v :: ·)
theorem Rp.toV {v w : V} {d : D} (r : Rp K cm F v d) (e : toV d = some w) : v = w ∧ flatV v = true := by
  cases r <;> cases e <;> exact ⟨rfl, rfl⟩
theorem RpA.toVs : ∀ {vs : List V} {ds : List D} {ws : List V}, RpA K cm F vs ds → toVs ds = some ws → vs = ws ∧ vs.all flatV = true
  | _, _, _, .nil, e => by unfold DL.toVs at e; cases e; exact ⟨rfl, rfl⟩
  | _, _, ws, .cons h r, e => by
    unfold DL.toVs at e
    obtain ⟨v, e1, e⟩ := bind_some e
    obtain ⟨vs, e2, rfl⟩ := map_some e
    obtain ⟨rfl, f1⟩ := h.toV e1
    obtain ⟨rfl, f2⟩ := RpA.toVs r e2
    exact ⟨rfl, by rw [List.all_cons, f1, f2]; rfl⟩
/-- the items of what is looked at -/
def itemsF : Fd → Option (List D)
  | .val (.tup xs) => some xs
  | .val (.lst xs) => some xs
  | .val (.scr ns) => some (ns.map .int)
  | .lst xs => some xs
  | _ => none
theorem OwF.seq {v : V} {x : Fd} {S : Rg} {ds : List D} (h : OwF K cm F H v x S) (fh : SmH F H) (e : itemsF x = some ds) : ∃ p vs, v = .ref p ∧ (SqL K H p vs ∨ SqT K H p vs) ∧ RpA K cm F vs ds := by
  cases h with
  | val r =>
    cases r <;> cases e
    · rename_i h r; exact ⟨_, _, rfl, .inl (.of (fh.at h)), r⟩
    · rename_i h; exact ⟨_, _, rfl, .inl (fh.seq h), RpA.ints _⟩
    · rename_i h r; exact ⟨_, _, rfl, .inr (tupT fh h), r⟩
  | lst h r z => cases e; exact ⟨_, _, rfl, .inl (.of h), r⟩
  | dik => cases e
  | dit => cases e
def inD (neg : Bool) (a : D) (x : Fd) : Option D := (toV a).bind fun v => (itemsF x).bind fun ds => (toVs ds).map fun vs => .bl (if neg = true then !inV v vs else inV v vs)
end
section
variable {X : Cx} {cm : Cm} {e a b c : Expr} {es : List Expr} {te ta tb tc : TE} {pos : Pos} {f g fa fb fc : P D} {fx : P Fd}
def pin (neg : Bool) (fa : P D) (fx : P Fd) : P D := fun env => (fa env).bind fun a => (fx env).bind fun x => inD neg a x
theorem sp_in {neg : Bool} (ha : Spu X.K cm ta fa) (hb : Spx X.K cm tb fx) : Spu X.K cm (tOp (rIn X.K neg) ta tb) (pin neg fa fx) := fun F H σ env O d Q s e k => by
  obtain ⟨x, e1, e⟩ := bind_some e
  obtain ⟨y, e2, e⟩ := bind_some e
  obtain ⟨v, e3, e⟩ := bind_some e
  obtain ⟨ds, e4, e⟩ := bind_some e
  obtain ⟨vs, e5, rfl⟩ := map_some e
  refine ha F H σ env O x _ s e1 fun u r1 => hb F H σ env O y _ s e2 fun w S ow => ?_
  obtain ⟨p, ws, rfl, hs, ra⟩ := ow.seq s.fh e4
  obtain ⟨rfl, f1⟩ := r1.toV e3
  obtain ⟨rfl, f2⟩ := ra.toVs e5
  exact ⟨p, _, rfl, hs, f1, f2, k _ (.bl _)⟩
theorem dp_in (ha : DP X cm a ta fa) (hb : DX X cm b tb fx) (hm : behindInMarks .In b = false := by with_unfolding_all rfl) : DP X cm (.Compare a [.In] [b] pos) (tOp (rIn X.K false) ta tb) (pin false fa fx) := ⟨pe_cmpR op_in_seq ha.pe hb.pe hm, sp_in ha.sm hb.sm⟩
theorem dp_nin (ha : DP X cm a ta fa) (hb : DX X cm b tb fx) (hm : behindInMarks .NotIn b = false := by with_unfolding_all rfl) : DP X cm (.Compare a [.NotIn] [b] pos) (tOp (rIn X.K true) ta tb) (pin true fa fx) := ⟨pe_cmpR op_notIn_seq ha.pe hb.pe hm, sp_in ha.sm hb.sm⟩
theorem dq_in (ha : DP X cm a ta fa) (hb : DX X cm b tb fx) (hm : behindInMarks .In b = false := by with_unfolding_all rfl) : DQ X cm (.Compare a [.In] [b] pos) (tTest (tOp (rIn X.K false) ta tb)) (tq (pin false fa fx)) := ⟨pt_cmpR op_in_seq ha.pe hb.pe hm, spt_of (sp_in ha.sm hb.sm)⟩
theorem dq_nin (ha : DP X cm a ta fa) (hb : DX X cm b tb fx) (hm : behindInMarks .NotIn b = false := by with_unfolding_all rfl) : DQ X cm (.Compare a [.NotIn] [b] pos) (tTest (tOp (rIn X.K true) ta tb)) (tq (pin true fa fx)) := ⟨pt_cmpR op_notIn_seq ha.pe hb.pe hm, spt_of (sp_in ha.sm hb.sm)⟩
/-- the same where the thing is reckoned with effects: the container is looked at afterwards -/
def minx (neg : Bool) (fa : M D) (fx : P Fd) : M D := mb fa fun a => pu fun env => (fx env).bind fun x => inD neg a x
theorem sm_in {neg : Bool} {fa : M D} (ha : Sm X.K cm ta fa) (hb : Spx X.K cm tb fx) : Sm X.K cm (tOp (rIn X.K neg) ta tb) (minx neg fa fx) := fun F H σ env O d env' Q s e k => by
  obtain ⟨x, env1, e1, e⟩ := mb_some e
  obtain ⟨d', e, e9⟩ := map_some e
  cases e9
  obtain ⟨y, e2, e⟩ := bind_some e
  obtain ⟨v, e3, e⟩ := bind_some e
  obtain ⟨ds, e4, e⟩ := bind_some e
  obtain ⟨vs, e5, rfl⟩ := map_some e
  refine ha F H σ env O x _ _ s e1 fun F1 H1 u O1 g1 s1 r1 => hb F1 H1 σ _ O1 y _ s1 e2 fun w S ow => ?_
  obtain ⟨p, ws, rfl, hs, ra⟩ := ow.seq s1.fh e4
  obtain ⟨rfl, f1⟩ := r1.toV e3
  obtain ⟨rfl, f2⟩ := ra.toVs e5
  exact ⟨p, _, rfl, hs, f1, f2, k F1 H1 _ O1 g1 s1 (.bl _)⟩
theorem de_in {fa : M D} (ha : DE X cm a ta fa) (hb : DX X cm b tb fx) (hm : behindInMarks .In b = false := by with_unfolding_all rfl) : DE X cm (.Compare a [.In] [b] pos) (tOp (rIn X.K false) ta tb) (minx false fa fx) := ⟨pe_cmpR op_in_seq ha.pe hb.pe hm, sm_in ha.sm hb.sm⟩
theorem de_nin {fa : M D} (ha : DE X cm a ta fa) (hb : DX X cm b tb fx) (hm : behindInMarks .NotIn b = false := by with_unfolding_all rfl) : DE X cm (.Compare a [.NotIn] [b] pos) (tOp (rIn X.K true) ta tb) (minx true fa fx) := ⟨pe_cmpR op_notIn_seq ha.pe hb.pe hm, sm_in ha.sm hb.sm⟩
/-! ### subscripts -/
def ixF (x : Fd) (i : D) : Option D := match i with
  | .int i => match x with
    | .val (.str z) => if z.length ≤ 16777216 then (atI z.cps.toList i).map fun c => .str ⟨#[c]⟩ else none
    | x => (itemsF x).bind fun ds => atI ds i
  | _ => none
theorem atI_len {α β : Type} {xs : List α} {ys : List β} {i : Int} {d : β} (hl : xs.length = ys.length) (e : atI ys i = some d) : ∃ j : Nat, ys[j]? = some d ∧ (∀ v, xs[j]? = some v → atI xs i = some v) := by
  unfold atI at e
  obtain ⟨j, e1, e2⟩ := bind_some e
  refine ⟨j, e2, fun v hv => ?_⟩
  unfold atI
  rw [hl, e1]
  exact hv
theorem ix_core {K : PySem.W.Frag} {F H : Hp} {v w : V} {x : Fd} {i d : D} {S : Rg} {Q : VK} (ow : OwF K cm F H v x S) (fh : SmH F H) (ri : Rp K cm F w i) (e : ixF x i = some d) (k : ∀ u, Rp K cm F u d → Q u H) : rIx K v w H Q := by
  cases i <;> try (cases e; done)
  cases ri
  unfold ixF at e
  dsimp only at e
  split at e
  · rename_i z
    by_cases c : z.length ≤ 16777216
    · rw [if_pos c] at e
      obtain ⟨ch, e1, rfl⟩ := map_some e
      cases ow with
      | val r =>
        cases r
        exact .inr (.inr ⟨_, _, _, rfl, rfl, size_le c, e1, k _ (.str _)⟩)
    · rw [if_neg c] at e; cases e
  · obtain ⟨ds, e1, e2⟩ := bind_some e
    obtain ⟨p, vs, rfl, hs, ra⟩ := ow.seq fh e1
    obtain ⟨j, h1, h2⟩ := atI_len ra.len e2
    obtain ⟨u, h3, ru⟩ := ra.getD h1
    rcases hs with hs | hs
    · exact .inl ⟨p, vs, _, u, rfl, rfl, hs, h2 u h3, k u ru⟩
    · exact .inr (.inl ⟨p, vs, _, u, rfl, rfl, hs, h2 u h3, k u ru⟩)
def pix (fx : P Fd) (fb : P D) : P D := fun env => (fx env).bind fun x => (fb env).bind fun i => ixF x i
theorem dp_ix (ha : DX X cm a ta fx) (hb : DP X cm b tb fb) (hs : PlainIx b := by exact fun _ _ => rfl) : DP X cm (.Subscript a b pos) (tOp (rIx X.K) ta tb) (pix fx fb) := ⟨pe_ix ix_seq ha.pe hb.pe hs, fun F H σ env O d Q s e k => by
  obtain ⟨x, e1, e⟩ := bind_some e
  obtain ⟨i, e2, e⟩ := bind_some e
  exact ha.sm F H σ env O x _ s e1 fun v S ow => hb.sm F H σ env O i _ s e2 fun w r => ix_core ow s.fh r e k⟩
def mix (fa fb : M D) : M D := mb fa fun x => mb fb fun i => mo (ixF (.val x) i)
theorem de_ix {fa fb : M D} (ha : DE X cm a ta fa) (hb : DE X cm b tb fb) (hs : PlainIx b := by exact fun _ _ => rfl) : DE X cm (.Subscript a b pos) (tOp (rIx X.K) ta tb) (mix fa fb) := ⟨pe_ix ix_seq ha.pe hb.pe hs, fun F H σ env O d env' Q s e k => by
  obtain ⟨x, env1, e1, e⟩ := mb_some e
  obtain ⟨i, env2, e2, e⟩ := mb_some e
  obtain ⟨e3, e4⟩ := mo_some e
  dsimp only at e3 e4
  subst e4
  exact ha.sm F H σ env O x _ _ s e1 fun F1 H1 v O1 g1 s1 r1 => hb.sm F1 H1 σ _ O1 i _ _ s1 e2 fun F2 H2 w O2 g2 s2 r2 =>
    ix_core (.val (r1.mono g2.ff) : OwF X.K cm F2 H2 v (.val x) (fun _ => False)) s2.fh r2 e3 fun u ru => k F2 H2 u O2 (g1.trans g2) s2 ru⟩
/-! ### slices of tuples and lists -/
structure DPo (X : Cx) (cm : Cm) (e : Option Expr) (te : TO) (f : P (Option Int)) : Prop where
  pe : PO X e te
  sm : ∀ F H σ env O d (Q : Option Int → Hp → Prop), Sts X.K cm F H σ env O → f env = some d → Q d H → te σ H Q
theorem dpo_none : DPo X cm none tNoPart (fun _ => some none) := ⟨po_none, fun F H σ env O d Q s e k => by cases e; exact k⟩
def ptI (f : P D) : P (Option Int) := fun env => (f env).bind fun d => match d with
  | .int i => some (some i)
  | _ => none
theorem dpo_some (h : DP X cm e te f) : DPo X cm (some e) (tPart te) (ptI f) := ⟨po_some h.pe, fun F H σ env O d Q s e k => by
  obtain ⟨x, e1, e⟩ := bind_some e
  cases x <;> cases e
  refine h.sm F H σ env O _ _ s e1 fun v r => ?_
  cases r
  exact ⟨_, rfl, k⟩⟩
def cutD (xs : List D) (lo hi : Option Int) : List D := (xs.drop (HT.sIx xs.length 0 lo)).take (HT.sIx xs.length xs.length hi - HT.sIx xs.length 0 lo)
def slD (x : D) (lo hi : Option Int) : Option D := match x with
  | .tup xs => some (.tup (cutD xs lo hi))
  | .lst xs => some (.lst (cutD xs lo hi))
  | _ => none
def rSlB (K : PySem.W.Frag) : V → Option Int → Option Int → Hp → VK → Prop := fun x lo hi H Q => rSlA K x lo hi H Q ∨ rSlL K x lo hi H Q
theorem RpA.cut {K : PySem.W.Frag} {F : Hp} {vs : List V} {ds : List D} (r : RpA K cm F vs ds) (lo hi : Option Int) : RpA K cm F (cutV vs lo hi) (cutD ds lo hi) := by
  unfold cutV cutD
  rw [r.len]
  exact (r.drop _).take _
theorem cutD_whole {xs : List D} {lo hi : Option Int} (h : HT.sIx xs.length 0 lo = 0 ∧ HT.sIx xs.length xs.length hi = xs.length) : cutD xs lo hi = xs := by
  unfold cutD
  rw [h.1, h.2, List.drop_zero, Nat.sub_zero, List.take_length]
def msl (fa : M D) (fl fh : P (Option Int)) : M D := mb fa fun x env => (fl env).bind fun l => (fh env).bind fun h => (slD x l h).map fun d => (d, env)
theorem de_sl {fa : M D} {lo hi : Option Expr} {tl th : TO} {fl fh : P (Option Int)} {p2 : Pos} (ha : DE X cm a ta fa) (hl : DPo X cm lo tl fl) (hh : DPo X cm hi th fh) : DE X cm (.Subscript a (.Slice lo hi none p2) pos) (tSl (rSlB X.K) ta tl th) (msl fa fl fh) := by
  refine ⟨pe_slice (.or sl_tupA sl_list) ha.pe hl.pe hh.pe, fun F H σ env O d env' Q s e k => ?_⟩
  obtain ⟨x, env1, e1, e⟩ := mb_some e
  obtain ⟨l, e2, e⟩ := bind_some e
  obtain ⟨h, e3, e⟩ := bind_some e
  obtain ⟨d', e4, e5⟩ := map_some e
  cases e5
  refine ha.sm F H σ env O x _ _ s e1 fun F1 H1 v O1 g1 s1 r => hl.sm F1 H1 σ _ O1 l _ s1 e2 (hh.sm F1 H1 σ _ O1 h _ s1 e3 ?_)
  cases x <;> try (cases e4; done)
  · rename_i xs
    cases e4
    cases r with
    | lst hp ra =>
      exact .inr ⟨_, _, rfl, .of (s1.fh.at hp), fun p hp => (k.go g1).alloc s1 hp fun F' sm e => .lst e ((ra.cut l h).mono sm)⟩
  · rename_i xs
    cases e4
    cases r with
    | tup hp ra =>
      refine .inl ⟨_, _, rfl, tupT s1.fh hp, fun w => ?_, fun _ p hp' => (k.go g1).alloc s1 hp' fun F' sm e => .tup e ((ra.cut l h).mono sm)⟩
      rw [ra.len] at w
      have e := cutD_whole w
      refine k F1 H1 _ O1 g1 s1 ?_
      rw [e]
      exact .tup hp ra
/-! ### len and other built-ins by values -/
def lenF (x : Fd) : Option D := match x with
  | .val (.str z) => if z.length ≤ 16777216 then some (.int z.length) else none
  | x => (itemsF x).map fun ds => .int ds.length
def plen (fx : P Fd) : P D := fun env => (fx env).bind lenF
theorem dp_len {p : Pos} (hm : X.mg "len" = none) (ha : DX X cm a ta fx) (hg : Gl X "len" := by rfl) (he : starEach [a] X.env = (false, eval a X.env) :: starEach [] X.env := by rfl) (hpl : (backTo pos (starEach [] X.env)).any (·.1) = false := by rfl) :
    DP X cm (.Call (.Name "len" p) [a] [] pos) (tCB (fun xs H Q => ∃ x n, xs = [x] ∧ LenV X.K x H n ∧ Q (.int n) H) (tCons ta tNil)) (plen fx) := by
  refine ⟨pe_callB call_len hg hm PySem.boot_len (pa_cons ha.pe pa_nil he) (by decide) (by decide) he hpl, fun F H σ env O d Q s e k => ?_⟩
  obtain ⟨x, e1, e⟩ := bind_some e
  refine ha.sm F H σ env O x _ s e1 fun v S ow => ?_
  unfold lenF at e
  split at e
  · rename_i z
    by_cases c : z.length ≤ 16777216
    · rw [if_pos c] at e; cases e
      cases ow with
      | val r => cases r; exact ⟨_, _, rfl, ⟨size_le c, rfl⟩, k _ (.int _)⟩
    · rw [if_neg c] at e; cases e
  · obtain ⟨ds, e1, rfl⟩ := map_some e
    obtain ⟨p, vs, rfl, hs, ra⟩ := ow.seq s.fh e1
    refine ⟨_, vs.length, rfl, ?_, by rw [ra.len]; exact k _ (.int _)⟩
    rcases hs with hs | hs
    · exact .inl ⟨vs, hs, rfl⟩
    · exact .inr ⟨vs, hs, rfl⟩
/-- a call of a built-in upon values, by what it does with them -/
def SmR (K : PySem.W.Frag) (cm : Cm) (r : List V → Hp → VK → Prop) (g : List D → Option Od) : Prop := ∀ F H σ env O vs ds o Q, Sts K cm F H σ env O → RpA K cm F vs ds → g ds = some o → Ko K cm F H σ O env o Q → r vs H Q
def mcb (g : List D → Option Od) (fa : M (List D)) : M Od := mb fa fun ds => mo (g ds)
theorem smo_cb {r : List V → Hp → VK → Prop} {g : List D → Option Od} {t : TA} {fa : M (List D)} (hr : SmR X.K cm r g) (ha : SmA X.K cm t fa) : SmO X.K cm (tCB r t) (mcb g fa) := fun F H σ env O d env' Q s e k => by
  obtain ⟨ds, env1, e1, e⟩ := mb_some e
  obtain ⟨e3, e4⟩ := mo_some e
  dsimp only at e3 e4
  subst e4
  exact ha F H σ env O ds _ _ s e1 fun F1 H1 vs O1 g1 s1 r1 => hr F1 H1 σ _ O1 vs ds d Q s1 r1 e3 (k.go g1)
theorem do_cB {id : String} {x : Str} {p : Pos} {r : List V → Hp → VK → Prop} {g : List D → Option Od} {t : TA} {fa : M (List D)} (hc : CallR X (.builtin id) r) (hr : SmR X.K cm r g) (hm : X.mg x = none) (hv : bootBuiltins x = some (.builtin id)) (ha : DA X cm (a :: es) t fa) (hg : Gl X x := by rfl) (hn : x ≠ "__name__" := by decide) (hdb : (x == ("__debug__" : Str)) = false := by decide)
    (he : starEach (a :: es) X.env = (false, eval a X.env) :: starEach es X.env := by rfl) (hpl : (backTo pos (starEach es X.env)).any (·.1) = false := by rfl) : DO X cm (.Call (.Name x p) (a :: es) [] pos) (tCB r t) (mcb g fa) := ⟨pe_callB hc hg hm hv ha.pe hn hdb he hpl, smo_cb hr ha.sm⟩
theorem do_cT {T : String} {x : Str} {p : Pos} {r : List V → Hp → VK → Prop} {g : List D → Option Od} {t : TA} {fa : M (List D)} (hc : CallR X (.type T) r) (hr : SmR X.K cm r g) (hm : X.mg x = none) (hv : bootBuiltins x = some (.type T)) (ha : DA X cm (a :: es) t fa) (hg : Gl X x := by rfl) (hn : x ≠ "__name__" := by decide) (hdb : (x == ("__debug__" : Str)) = false := by decide)
    (he : starEach (a :: es) X.env = (false, eval a X.env) :: starEach es X.env := by rfl) (hpl : (backTo pos (starEach es X.env)).any (·.1) = false := by rfl) : DO X cm (.Call (.Name x p) (a :: es) [] pos) (tCB r t) (mcb g fa) := ⟨pe_callTy hc hg hm hv ha.pe hn hdb he hpl, smo_cb hr ha.sm⟩
end
section
variable {K : PySem.W.Frag} {cm : Cm}
/-- a rule whose answer is a value -/
theorem smr_v {r : List V → Hp → VK → Prop} {g : List D → Option D} (h : ∀ F H σ env O vs ds d Q, Sts K cm F H σ env O → RpA K cm F vs ds → g ds = some d → Kv K cm F H σ O env d Q → r vs H Q) : SmR K cm r (fun ds => (g ds).map fun d => .fd (.val d)) := fun F H σ env O vs ds o Q s ra e k => by
  obtain ⟨d, e1, rfl⟩ := map_some e
  exact h F H σ env O vs ds d Q s ra e1 (Kv.of k)
theorem RpA.one {F : Hp} {vs : List V} {d : D} (h : RpA K cm F vs [d]) : ∃ v, vs = [v] ∧ Rp K cm F v d := by
  cases h with
  | cons h t => cases t; exact ⟨_, rfl, h⟩
theorem RpA.two {F : Hp} {vs : List V} {d e : D} (h : RpA K cm F vs [d, e]) : ∃ v w, vs = [v, w] ∧ Rp K cm F v d ∧ Rp K cm F w e := by
  cases h with
  | cons h t =>
    obtain ⟨w, rfl, r⟩ := t.one
    exact ⟨_, _, rfl, h, r⟩
def intB : List D → Option D
  | [.int i] => some (.int i)
  | [.bl k] => some (.int (if k then 1 else 0))
  | _ => none
theorem sr_int : SmR K cm (fun xs H Q => (∃ i, xs = [.int i] ∧ Q (.int i) H) ∨ ∃ k, xs = [.bl k] ∧ Q (.int (if k then 1 else 0)) H) (fun ds => (intB ds).map fun d => .fd (.val d)) := smr_v fun F H σ env O vs ds d Q s ra e k => by
  unfold intB at e
  split at e
  · cases e
    obtain ⟨v, rfl, r⟩ := ra.one
    cases r
    exact .inl ⟨_, rfl, k.here s (.int _)⟩
  · cases e
    obtain ⟨v, rfl, r⟩ := ra.one
    cases r
    exact .inr ⟨_, rfl, k.here s (.int _)⟩
  · cases e
def minB : List D → Option D
  | [.int i, .int j] => some (.int (if j < i then j else i))
  | _ => none
def maxB : List D → Option D
  | [.int i, .int j] => some (.int (if j > i then j else i))
  | _ => none
theorem sr_min : SmR K cm (fun xs H Q => ∃ i j, xs = [.int i, .int j] ∧ Q (.int (if j < i then j else i)) H) (fun ds => (minB ds).map fun d => .fd (.val d)) := smr_v fun F H σ env O vs ds d Q s ra e k => by
  unfold minB at e
  split at e
  · cases e
    obtain ⟨v, w, rfl, r1, r2⟩ := ra.two
    cases r1; cases r2
    exact ⟨_, _, rfl, k.here s (.int _)⟩
  · cases e
theorem sr_max : SmR K cm (fun xs H Q => ∃ i j, xs = [.int i, .int j] ∧ Q (.int (if j > i then j else i)) H) (fun ds => (maxB ds).map fun d => .fd (.val d)) := smr_v fun F H σ env O vs ds d Q s ra e k => by
  unfold maxB at e
  split at e
  · cases e
    obtain ⟨v, w, rfl, r1, r2⟩ := ra.two
    cases r1; cases r2
    exact ⟨_, _, rfl, k.here s (.int _)⟩
  · cases e
def absB : List D → Option D
  | [.int i] => some (.int (if i < 0 then -i else i))
  | _ => none
theorem sr_abs : SmR K cm (fun xs H Q => ∃ i, xs = [.int i] ∧ Q (.int (if i < 0 then -i else i)) H) (fun ds => (absB ds).map fun d => .fd (.val d)) := smr_v fun F H σ env O vs ds d Q s ra e k => by
  unfold absB at e
  split at e
  · cases e
    obtain ⟨v, rfl, r1⟩ := ra.one
    cases r1
    exact ⟨_, rfl, k.here s (.int _)⟩
  · cases e
/-- list(x): of a list, a tuple, the script -/
def listB : List D → Option Od
  | [d] => (itemsF (.val d)).map fun ds => .fd (.lst ds)
  | _ => none
theorem sr_list : SmR K cm (fun xs H Q => ∃ p ys, xs = [.ref p] ∧ (SqL K H p ys ∨ SqT K H p ys) ∧ ∀ l, H l = none → Q (.ref l) (upd H l (.lst ys))) listB := fun F H σ env O vs ds o Q s ra e k => by
  unfold listB at e
  split at e
  · obtain ⟨es, e1, rfl⟩ := map_some e
    obtain ⟨v, rfl, r⟩ := ra.one
    obtain ⟨p, ws, rfl, hs, rs⟩ := (OwF.val r : OwF K cm F H v _ fun _ => False).seq s.fh e1
    exact ⟨p, ws, rfl, hs, fun l hl => k.fresh s hl rs⟩
  · cases e
def isort (l : List Int) : List Int := l.mergeSort (fun a b => decide (a ≤ b))
theorem isort_eq {a b : List Int} (h : a.Perm b) (s : a.Pairwise (· ≤ ·)) : a = isort b := by
  have h2 : (isort b).Perm b := List.mergeSort_perm b _
  have h3 : (isort b).Pairwise (· ≤ ·) := by
    have q := List.pairwise_mergeSort (le := fun a b : Int => decide (a ≤ b)) (fun x y z h1 h2 => by
      have h1 := of_decide_eq_true h1
      have h2 := of_decide_eq_true h2
      exact decide_eq_true (by omega)) (fun x y => by
      by_cases c : x ≤ y
      · simp [c]
      · have : y ≤ x := by omega
        simp [this]) b
    exact q.imp fun h => of_decide_eq_true h
  exact List.Perm.eq_of_pairwise (fun x y _ _ h1 h2 => by omega) s h3 (h.trans h2.symm)
/-- sorted of ints -/
def sortB : List D → Option Od
  | [.lst ds] => (toInts ds).map fun ns => .fd (.lst ((isort ns).map .int))
  | _ => none
theorem sr_sorted : SmR K cm (rSortedI K) sortB := fun F H σ env O vs ds o Q s ra e k => by
  unfold sortB at e
  split at e
  · obtain ⟨ns, e1, rfl⟩ := map_some e
    obtain ⟨v, rfl, r⟩ := ra.one
    cases r with
    | lst h rs =>
      have e2 := rs.toInts e1
      subst e2
      refine ⟨_, ns, rfl, .of (s.fh.at h), fun ns' p h1 h2 hp => ?_⟩
      rw [isort_eq h1 h2]
      exact k.fresh s hp (RpA.ints _)
  · cases e
def sumB : List D → Option D
  | [.lst ds] => (toInts ds).map fun ns => .int ns.sum
  | _ => none
theorem sr_sum : SmR K cm (rSum K) (fun ds => (sumB ds).map fun d => .fd (.val d)) := smr_v fun F H σ env O vs ds d Q s ra e k => by
  unfold sumB at e
  split at e
  · obtain ⟨ns, e1, rfl⟩ := map_some e
    obtain ⟨v, rfl, r⟩ := ra.one
    cases r with
    | lst h rs =>
      have e2 := rs.toInts e1
      subst e2
      exact ⟨_, ns, rfl, .of (s.fh.at h), k.here s (.int _)⟩
  · cases e
def allB : List D → Option D
  | [.lst ds] => (toBls ds).map fun ns => .bl (ns.all id)
  | _ => none
def anyB : List D → Option D
  | [.lst ds] => (toBls ds).map fun ns => .bl (ns.any id)
  | _ => none
theorem sr_all : SmR K cm (rAll K) (fun ds => (allB ds).map fun d => .fd (.val d)) := smr_v fun F H σ env O vs ds d Q s ra e k => by
  unfold allB at e
  split at e
  · obtain ⟨ns, e1, rfl⟩ := map_some e
    obtain ⟨v, rfl, r⟩ := ra.one
    cases r with
    | lst h rs =>
      have e2 := rs.toBls e1
      subst e2
      exact ⟨_, ns, rfl, .of (s.fh.at h), k.here s (.bl _)⟩
  · cases e
theorem sr_any : SmR K cm (rAny K) (fun ds => (anyB ds).map fun d => .fd (.val d)) := smr_v fun F H σ env O vs ds d Q s ra e k => by
  unfold anyB at e
  split at e
  · obtain ⟨ns, e1, rfl⟩ := map_some e
    obtain ⟨v, rfl, r⟩ := ra.one
    cases r with
    | lst h rs =>
      have e2 := rs.toBls e1
      subst e2
      exact ⟨_, ns, rfl, .of (s.fh.at h), k.here s (.bl _)⟩
  · cases e
/-! ### isinstance with a built-in class -/
def tyN : D → Option String
  | .non => some "NoneType"
  | .bl _ => some "bool"
  | .int _ => some "int"
  | .str _ => some "str"
  | .lst _ => some "list"
  | .tup _ => some "tuple"
  | .dik _ => some "dict"
  | .dit _ => some "dict"
  | _ => none
theorem Rp.tyX {F H : Hp} {v : V} {d : D} {T : String} (r : Rp K cm F v d) (fh : SmH F H) (e : tyN d = some T) : TyX K H v (.type T) := by
  cases r <;> cases e
  · exact .base .non
  · exact .base (.bl _)
  · exact .base (.int _)
  · exact .base (.str _)
  · rename_i h _; exact .base (.lst (fh.at h))
  · rename_i h _; exact .base (.tup (fh.at h))
  · rename_i h _ _; exact .base (.dK (fh.at h))
  · rename_i h _ _; exact .base (.dT (fh.at h))
theorem Rp.tyO {F H : Hp} {v : V} {c : Nat} {gs : List (Str × D)} (r : Rp K cm F v (.obj c gs)) (fh : SmH F H) : TyX K H v (.ref (cm c)) := by
  cases r with
  | obj h c _ _ => exact .base (.ins (fh.at h) c.ft.cl c.ft.ha c.ft.hn c.ft.ht c.ft.hm)
/-- isinstance(x, T): tab tells the answer for instances of the classes by their numbers -/
def isiB (T : String) (tab : Nat → Option Bool) (d : D) : Option D := match d with
  | .obj c _ => (tab c).map .bl
  | d => (tyN d).bind fun S => (kitB S T).map .bl
def isiC (tab : Nat → Option Bool) (d : D) : Option D := match d with
  | .obj c _ => (tab c).map .bl
  | d => (tyN d).map fun _ => .bl false
end
section
variable {X : Cx} {cm : Cm} {e a b c : Expr} {es : List Expr} {te ta tb tc : TE} {pos : Pos} {f g fa fb fc : P D} {fx : P Fd}
theorem dp_isi {p p2 : Pos} {x : Str} {T : String} {tab : Nat → Option Bool} (hm : X.mg "isinstance" = none) (hmT : X.mg x = none) (hvT : bootBuiltins x = some (.type T)) (hc : ∀ c b, tab c = some b → PySem.W.kitOne X.K (.ref (cm c)) (.type T) = some b) (ha : DP X cm a ta fa)
    (hg : Gl X "isinstance" := by rfl) (hgT : Gl X x := by rfl) (hn : x ≠ "__name__" := by decide) (hd : (x == ("__debug__" : Str)) = false := by decide)
    (he : starEach [a, .Name x p2] X.env = (false, eval a X.env) :: starEach [.Name x p2] X.env := by rfl) (he2 : starEach [.Name x p2] X.env = (false, eval (.Name x p2) X.env) :: starEach [] X.env := by rfl) (hpl : (backTo pos (starEach [.Name x p2] X.env)).any (·.1) = false := by rfl) :
    DP X cm (.Call (.Name "isinstance" p) [a, .Name x p2] [] pos) (tCB (rIsi X.K) (tCons ta (tCons (tC (.ty T)) tNil))) (p1 (isiB T tab) fa) := by
  refine ⟨pe_callB call_isi hg hm (by rfl) (pa_cons ha.pe (pa_cons (pe_bltn hgT hmT hvT rfl hn hd) pa_nil he2) he) (by decide) (by decide) he hpl, fun F H σ env O d Q s e k => ?_⟩
  obtain ⟨x, e1, e⟩ := bind_some e
  refine ha.sm F H σ env O x _ s e1 fun v r => ?_
  unfold isiB at e
  split at e
  · obtain ⟨b, e2, rfl⟩ := map_some e
    exact ⟨v, _, _, _, b, rfl, .ty T, r.tyO s.fh, hc _ _ e2, k _ (.bl _)⟩
  · obtain ⟨S, e2, e⟩ := bind_some e
    obtain ⟨b, e3, rfl⟩ := map_some e
    exact ⟨v, _, _, _, b, rfl, .ty T, r.tyX s.fh e2, kit_ty e3, k _ (.bl _)⟩
theorem dp_isC {p p2 : Pos} {x : Str} {n : Nat} {tab : Nat → Option Bool} (hm : X.mg "isinstance" = none) (hmC : X.mg x = some (.ref (cm n))) (hb : ∀ S ∈ ["NoneType", "bool", "int", "str", "list", "tuple", "dict"], PySem.W.kitOne X.K (.type S) (.ref (cm n)) = some false)
    (hc : ∀ c b, tab c = some b → PySem.W.kitOne X.K (.ref (cm c)) (.ref (cm n)) = some b) (ha : DP X cm a ta fa)
    (hg : Gl X "isinstance" := by rfl) (hgT : Gl X x := by rfl) (hd : (x == ("__debug__" : Str)) = false := by decide)
    (he : starEach [a, .Name x p2] X.env = (false, eval a X.env) :: starEach [.Name x p2] X.env := by rfl) (he2 : starEach [.Name x p2] X.env = (false, eval (.Name x p2) X.env) :: starEach [] X.env := by rfl) (hpl : (backTo pos (starEach [.Name x p2] X.env)).any (·.1) = false := by rfl) :
    DP X cm (.Call (.Name "isinstance" p) [a, .Name x p2] [] pos) (tCB (rIsi X.K) (tCons ta (tCons (tC (.ref (cm n))) tNil))) (p1 (isiC tab) fa) := by
  refine ⟨pe_callB call_isi hg hm (by rfl) (pa_cons ha.pe (pa_cons (pe_glob hgT hmC rfl hd) pa_nil he2) he) (by decide) (by decide) he hpl, fun F H σ env O d Q s e k => ?_⟩
  obtain ⟨x, e1, e⟩ := bind_some e
  refine ha.sm F H σ env O x _ s e1 fun v r => ?_
  unfold isiC at e
  split at e
  · obtain ⟨b, e2, rfl⟩ := map_some e
    exact ⟨v, _, _, _, b, rfl, .own _, r.tyO s.fh, hc _ _ e2, k _ (.bl _)⟩
  · obtain ⟨S, e2, rfl⟩ := map_some e
    have hS : S ∈ ["NoneType", "bool", "int", "str", "list", "tuple", "dict"] := by
      cases x <;> cases e2 <;> decide
    exact ⟨v, _, _, _, false, rfl, .own _, r.tyX s.fh e2, hb S hS, k _ (.bl _)⟩
/-! ### tuple(..), list(range(..)), tuple(range(..)) -/
def tupB (d : D) : Option D := match d with
  | .tup xs => some (.tup xs)
  | .lst xs => some (.tup xs)
  | _ => none
theorem de_tupOf {p : Pos} {fa : M D} (hm : X.mg "tuple" = none) (ha : DE X cm a ta fa) (hg : Gl X "tuple" := by rfl) (na : starEach [a] X.env = (false, eval a X.env) :: starEach [] X.env := by rfl) :
    DE X cm (.Call (.Name "tuple" p) [a] [] pos) (tThen ta (kTup X.K)) (m1 tupB fa) := by
  refine ⟨pe_tupleOf hg hm ha.pe na, fun F H σ env O d env' Q s e k => ?_⟩
  obtain ⟨x, env1, e1, e⟩ := mb_some e
  obtain ⟨e3, e4⟩ := mo_some e
  dsimp only at e3 e4
  subst e4
  refine ha.sm F H σ env O x _ _ s e1 fun F1 H1 v O1 g1 s1 r => ?_
  cases x <;> cases e3
  · cases r with
    | lst h ra => exact .inl ⟨_, _, rfl, .of (s1.fh.at h), fun q hq => (k.go g1).alloc s1 hq fun F' sm e => .tup e (ra.mono sm)⟩
  · cases r with
    | tup h ra => exact .inr ⟨_, _, rfl, tupT s1.fh h, k F1 H1 _ O1 g1 s1 (.tup h ra)⟩
structure DRg (X : Cx) (cm : Cm) (e : Expr) (te : L2.St → Hp → (Int → Int → Hp → Prop) → Prop) (f : M (Int × Int)) : Prop where
  pe : PRg X e te
  sm : ∀ F H σ env O d env' (Q : Int → Int → Hp → Prop), Sts X.K cm F H σ env O → f env = some (d, env') → (∀ F' H' O', Go (Un O) F H (Un O') F' H' → Sts X.K cm F' H' σ env' O' → Q d.1 d.2 H') → te σ H Q
def toI (d : D) : Option Int := match d with
  | .int i => some i
  | _ => none
def rg1 (fa : M D) : M (Int × Int) := mb fa fun x => mo ((toI x).map fun n => (0, n))
def rg2 (fa fb : M D) : M (Int × Int) := mb fa fun x => mb fb fun y => mo ((toI x).bind fun i => (toI y).map fun j => (i, j))
theorem Rp.toI {K : PySem.W.Frag} {F : Hp} {v : V} {d : D} {i : Int} (r : Rp K cm F v d) (e : toI d = some i) : v = .int i := by
  cases r <;> cases e; rfl
theorem drg_1 {p : Pos} {fa : M D} (hm : X.mg "range" = none) (ha : DE X cm a ta fa) (hg : Gl X "range" := by rfl) (na : starEach [a] X.env = (false, eval a X.env) :: starEach [] X.env := by rfl) : DRg X cm (.Call (.Name "range" p) [a] [] pos) (tRg1 ta) (rg1 fa) := by
  refine ⟨prg_1 hg hm ha.pe na, fun F H σ env O d env' Q s e k => ?_⟩
  obtain ⟨x, env1, e1, e⟩ := mb_some e
  obtain ⟨e3, e4⟩ := mo_some e
  dsimp only at e3 e4
  subst e4
  obtain ⟨n, e5, rfl⟩ := map_some e3
  refine ha.sm F H σ env O x _ _ s e1 fun F1 H1 v O1 g1 s1 r => ?_
  exact ⟨n, r.toI e5, k F1 H1 O1 g1 s1⟩
theorem drg_2 {p : Pos} {fa fb : M D} (hm : X.mg "range" = none) (ha : DE X cm a ta fa) (hb : DE X cm b tb fb) (hg : Gl X "range" := by rfl) (na : starEach [a, b] X.env = (false, eval a X.env) :: starEach [b] X.env := by rfl) (nb : starEach [b] X.env = (false, eval b X.env) :: starEach [] X.env := by rfl) (hp : (backTo pos (starEach [b] X.env)).any (·.1) = false := by rfl) :
    DRg X cm (.Call (.Name "range" p) [a, b] [] pos) (tRg2 ta tb) (rg2 fa fb) := by
  refine ⟨prg_2 hg hm ha.pe hb.pe na nb hp, fun F H σ env O d env' Q s e k => ?_⟩
  obtain ⟨x, env1, e1, e⟩ := mb_some e
  obtain ⟨y, env2, e2, e⟩ := mb_some e
  obtain ⟨e3, e4⟩ := mo_some e
  dsimp only at e3 e4
  subst e4
  obtain ⟨i, e5, e6⟩ := bind_some e3
  obtain ⟨j, e7, rfl⟩ := map_some e6
  refine ha.sm F H σ env O x _ _ s e1 fun F1 H1 v O1 g1 s1 r1 => hb.sm F1 H1 σ _ O1 y _ _ s1 e2 fun F2 H2 w O2 g2 s2 r2 => ?_
  exact ⟨i, j, r1.toI e5, r2.toI e7, k F2 H2 O2 (g1.trans g2) s2⟩
def rgL (a b : Int) : List Int := (List.range (b - a).toNat).map fun i => a + (i : Nat)
theorem rgV_map (a b : Int) : rgV a b = (rgL a b).map V.int := by unfold rgV rgL; rw [List.map_map]; rfl
def rgC (d : Int × Int) : Bool := decide (-16777216 ≤ d.1 ∧ d.1 ≤ 16777216 ∧ d.2 ≤ 16777216 ∧ -16777216 ≤ d.2 ∧ d.2 - d.1 ≤ 16777216)
theorem rgC_ok {d : Int × Int} (h : rgC d = true) : RgOk d.1 d.2 := by
  have h := of_decide_eq_true h
  exact ⟨by omega, by omega, by omega, by omega, by omega⟩
def mlrg (f : M (Int × Int)) : M Od := mb f fun d => mo (if rgC d = true then some (.fd (.lst ((rgL d.1 d.2).map .int))) else none)
def mtrg (f : M (Int × Int)) : M D := mb f fun d => mo (if rgC d = true then some (.tup ((rgL d.1 d.2).map .int)) else none)
theorem ite_some {α : Type} {c : Prop} [Decidable c] {a b : α} (h : (if c then some a else none) = some b) : c ∧ a = b := by
  by_cases q : c
  · rw [if_pos q] at h; cases h; exact ⟨q, rfl⟩
  · rw [if_neg q] at h; cases h
theorem do_lrg {p : Pos} {te : L2.St → Hp → (Int → Int → Hp → Prop) → Prop} {f : M (Int × Int)} (hm : X.mg "list" = none) (h : DRg X cm e te f) (hc : X.calm = true := by rfl) (hg : Gl X "list" := by rfl) (na : starEach [e] X.env = (false, eval e X.env) :: starEach [] X.env := by rfl) :
    DO X cm (.Call (.Name "list" p) [e] [] pos) (tLstRg te) (mlrg f) := by
  refine ⟨pe_listRg hc hg hm h.pe na, fun F H σ env O d env' Q s e k => ?_⟩
  obtain ⟨x, env1, e1, e⟩ := mb_some e
  obtain ⟨e3, e4⟩ := mo_some e
  dsimp only at e3 e4
  subst e4
  obtain ⟨c, rfl⟩ := ite_some e3
  refine h.sm F H σ env O x _ _ s e1 fun F1 H1 O1 g1 s1 => ⟨rgC_ok c, fun q hq => ?_⟩
  rw [rgV_map]
  exact (k.go g1).fresh s1 hq (RpA.ints _)
theorem de_trg {p : Pos} {te : L2.St → Hp → (Int → Int → Hp → Prop) → Prop} {f : M (Int × Int)} (hm : X.mg "tuple" = none) (h : DRg X cm e te f) (hc : X.calm = true := by rfl) (hg : Gl X "tuple" := by rfl) (na : starEach [e] X.env = (false, eval e X.env) :: starEach [] X.env := by rfl) :
    DE X cm (.Call (.Name "tuple" p) [e] [] pos) (tTupRg te) (mtrg f) := by
  refine ⟨pe_tupRg hc hg hm h.pe na, fun F H σ env O d env' Q s e k => ?_⟩
  obtain ⟨x, env1, e1, e⟩ := mb_some e
  obtain ⟨e3, e4⟩ := mo_some e
  dsimp only at e3 e4
  subst e4
  obtain ⟨c, rfl⟩ := ite_some e3
  refine h.sm F H σ env O x _ _ s e1 fun F1 H1 O1 g1 s1 => ⟨rgC_ok c, fun q hq => ?_⟩
  rw [rgV_map]
  exact (k.go g1).alloc s1 hq fun F' sm e => .tup e (RpA.ints _)
end
end DL

/-! The data layer: statements, targets, walks, loops, comprehensions. -/
namespace DL
open PySem PySem.Spec PyProof.Rows L2

inductive Out where
  | nx | bk | ct | rt (o : Od)
abbrev G := Env → Option (Out × Env)
/-- the borrowed slots stand -/
structure Bor (B : List Nat) (σ σ' : L2.St) : Prop where
  ln : σ'.length = σ.length
  st : ∀ i ∈ B, σ'[i]? = σ[i]?
theorem Bor.refl {B : List Nat} {σ : L2.St} : Bor B σ σ := ⟨rfl, fun _ _ => rfl⟩
theorem Bor.trans {B : List Nat} {σ σ1 σ2 : L2.St} (a : Bor B σ σ1) (b : Bor B σ1 σ2) : Bor B σ σ2 := ⟨b.ln.trans a.ln, fun i h => (b.st i h).trans (a.st i h)⟩
theorem Bor.set {B : List Nat} {σ : L2.St} {i : Nat} {v : Option V} (h : i ∉ B) : Bor B σ (σ.set i v) := ⟨List.length_set, fun j hj => by
  rw [List.getElem?_set_ne]
  intro e; subst e; exact h hj⟩
/-- what is wanted behind a statement that ends so -/
def EndP (K : PySem.W.Frag) (cm : Cm) (B : List Nat) (Dn : Ends) (F H : Hp) (σ : L2.St) (O : Nat → Rg) (env' : Env) : Out → Prop
  | .nx => ∀ F' H' σ' O', Go (Un O) F H (Un O') F' H' → Sts K cm F' H' σ' env' O' → Bor B σ σ' → Dn.nx σ' H'
  | .bk => ∀ F' H' σ' O', Go (Un O) F H (Un O') F' H' → Sts K cm F' H' σ' env' O' → Bor B σ σ' → Dn.bk σ' H'
  | .ct => ∀ F' H' σ' O', Go (Un O) F H (Un O') F' H' → Sts K cm F' H' σ' env' O' → Bor B σ σ' → Dn.ct σ' H'
  | .rt o => ∀ F' H' σ' v O' R, Go (Un O) F H (fun p => R p ∨ Un O' p) F' H' → Sts K cm F' H' σ' env' O' → Bor B σ σ' → Ow K cm F' H' v o R → New F' H' O' R → Dn.rt v H'
theorem EndP.go {K : PySem.W.Frag} {cm : Cm} {B : List Nat} {Dn : Ends} {F H F1 H1 : Hp} {σ σ1 : L2.St} {O O1 : Nat → Rg} {env' : Env} {out : Out} (k : EndP K cm B Dn F H σ O env' out) (g : Go (Un O) F H (Un O1) F1 H1) (b : Bor B σ σ1) : EndP K cm B Dn F1 H1 σ1 O1 env' out := by
  cases out with
  | nx => exact fun F' H' σ' O' g' s' b' => k F' H' σ' O' (g.trans g') s' (b.trans b')
  | bk => exact fun F' H' σ' O' g' s' b' => k F' H' σ' O' (g.trans g') s' (b.trans b')
  | ct => exact fun F' H' σ' O' g' s' b' => k F' H' σ' O' (g.trans g') s' (b.trans b')
  | rt o => exact fun F' H' σ' v O' R g' s' b' => k F' H' σ' v O' R (g.trans g') s' (b.trans b')
/-- the ends of an inner statement by those of the outer one -/
theorem EndP.imp {K : PySem.W.Frag} {cm : Cm} {B : List Nat} {Dn En : Ends} {F H : Hp} {σ : L2.St} {O : Nat → Rg} {env' : Env} {out : Out} (k : EndP K cm B Dn F H σ O env' out) (h1 : out ≠ .nx) (h2 : En.bk = Dn.bk) (h3 : En.ct = Dn.ct) (h4 : En.rt = Dn.rt) : EndP K cm B En F H σ O env' out := by
  cases out with
  | nx => exact absurd rfl h1
  | bk => unfold EndP at k ⊢; rw [h2]; exact k
  | ct => unfold EndP at k ⊢; rw [h3]; exact k
  | rt o => unfold EndP at k ⊢; rw [h4]; exact k
def SmS (K : PySem.W.Frag) (cm : Cm) (B : List Nat) (ts : TS) (g : G) : Prop := ∀ F H σ env O out env' (Dn : Ends), Sts K cm F H σ env O → g env = some (out, env') → EndP K cm B Dn F H σ O env' out → ts Dn σ H
structure DS (X : Cx) (cm : Cm) (B : List Nat) (st : Stmt) (ts : TS) (g : G) : Prop where
  pe : PS X st ts
  sm : SmS X.K cm B ts g
structure DSs (X : Cx) (cm : Cm) (B : List Nat) (st : List Stmt) (ts : TS) (g : G) : Prop where
  pe : PSs X st ts
  sm : SmS X.K cm B ts g
def gnx : G := fun env => some (.nx, env)
def gseq (g h : G) : G := fun env => (g env).bind fun q => match q.1 with
  | .nx => h q.2
  | o => some (o, q.2)
def gm {α : Type} (f : M α) (g : α → G) : G := fun env => (f env).bind fun q => g q.1 q.2
theorem gm_some {α : Type} {f : M α} {g : α → G} {env : Env} {r : Out × Env} (h : gm f g env = some r) : ∃ a env1, f env = some (a, env1) ∧ g a env1 = some r := by
  unfold gm at h
  obtain ⟨q, e1, e2⟩ := bind_some h
  exact ⟨q.1, q.2, e1, e2⟩
section
variable {X : Cx} {cm : Cm} {B : List Nat} {e a b c : Expr} {es : List Expr} {te ta tb tc : TE} {pos : Pos} {st : Stmt} {rest : List Stmt} {t u : TS} {g h : G}
theorem dss_nil : DSs X cm B [] tNext gnx := ⟨pss_nil, fun F H σ env O out env' Dn s e k => by cases e; exact k F H σ O Go.refl s .refl⟩
theorem sms_seq (h1 : SmS X.K cm B t g) (h2 : SmS X.K cm B u h) : SmS X.K cm B (tSeq t u) (gseq g h) := fun F H σ env O out env' Dn s e k => by
  unfold gseq at e
  obtain ⟨⟨o1, env1⟩, e1, e⟩ := bind_some e
  cases o1 with
  | nx =>
    have e : h env1 = some (out, env') := e
    exact h1 F H σ env O _ env1 _ s e1 fun F1 H1 σ1 O1 g1 s1 b1 => h2 F1 H1 σ1 env1 O1 out env' Dn s1 e (k.go g1 b1)
  | bk =>
    have e : some (Out.bk, env1) = some (out, env') := e
    cases e
    exact h1 F H σ env O _ _ _ s e1 (k.imp (fun z => nomatch z) rfl rfl rfl)
  | ct =>
    have e : some (Out.ct, env1) = some (out, env') := e
    cases e
    exact h1 F H σ env O _ _ _ s e1 (k.imp (fun z => nomatch z) rfl rfl rfl)
  | rt o =>
    have e : some (Out.rt o, env1) = some (out, env') := e
    cases e
    exact h1 F H σ env O _ _ _ s e1 (k.imp (fun z => nomatch z) rfl rfl rfl)
theorem dss_cons (h1 : DS X cm B st t g) (h2 : DSs X cm B rest u h) : DSs X cm B (st :: rest) (tSeq t u) (gseq g h) := ⟨pss_cons h1.pe h2.pe, sms_seq h1.sm h2.sm⟩
theorem dss_one (h1 : DS X cm B st t g) : DSs X cm B [st] t g := ⟨pss_one h1.pe, h1.sm⟩
theorem ds_pass : DS X cm B (.Pass pos) tNext gnx := ⟨ps_pass, dss_nil.sm⟩
theorem ds_break : DS X cm B (.Break pos) tBreak (fun env => some (.bk, env)) := ⟨ps_break, fun F H σ env O out env' Dn s e k => by cases e; exact k F H σ O Go.refl s .refl⟩
theorem ds_continue : DS X cm B (.Continue pos) tCont (fun env => some (.ct, env)) := ⟨ps_continue, fun F H σ env O out env' Dn s e k => by cases e; exact k F H σ O Go.refl s .refl⟩
theorem ds_never : DS X cm B st tNever (fun _ => none) := ⟨ps_never, fun F H σ env O out env' Dn s e k => by cases e⟩
theorem dss_never {sts : List Stmt} : DSs X cm B sts tNever (fun _ => none) := ⟨pss_never, fun F H σ env O out env' Dn s e k => by cases e⟩
def gret (f : M Od) : G := fun env => (f env).map fun q => (.rt q.1, q.2)
theorem ds_ret {f : M Od} (h : DO X cm e te f) : DS X cm B (.Return (some e) pos) (tRet te) (gret f) := ⟨ps_ret h.pe, fun F H σ env O out env' Dn s e k => by
  obtain ⟨⟨o, env1⟩, e1, e2⟩ := map_some e
  cases e2
  exact h.sm F H σ env O o _ _ s e1 fun F' H' v O' R g s' ow n => k F' H' σ v O' R g s' .refl ow n⟩
theorem ds_retN : DS X cm B (.Return none pos) tRetN (fun env => some (.rt (.fd (.val .non)), env)) := ⟨ps_retN, fun F H σ env O out env' Dn s e k => by
  cases e
  exact k F H σ _ O (fun _ => False) (Go.refl.sub fun p z => z.elim False.elim id) s .refl (.fd (.val .non)) fun p z => z.elim⟩
def gif (c : M Bool) (g h : G) : G := gm c fun k => if k = true then g else h
theorem ds_if {tt : TT} {fc : M Bool} {sa sb : List Stmt} (hc : DT X cm c tt fc) (ha : DSs X cm B sa t g) (hb : DSs X cm B sb u h) : DS X cm B (.If c sa sb pos) (tIfS tt t u) (gif fc g h) := ⟨ps_if hc.pe ha.pe hb.pe, fun F H σ env O out env' Dn s e k => by
  obtain ⟨x, env1, e1, e⟩ := gm_some e
  refine hc.sm F H σ env O x _ _ s e1 fun F1 H1 O1 g1 s1 => ?_
  cases x with
  | true => rw [if_pos rfl] at e ⊢; exact ha.sm F1 H1 σ env1 O1 out env' Dn s1 e (k.go g1 .refl)
  | false => rw [if_neg Bool.false_ne_true] at e ⊢; exact hb.sm F1 H1 σ env1 O1 out env' Dn s1 e (k.go g1 .refl)⟩
/-- an expression as a statement -/
def gex (f : M D) : G := fun env => (f env).map fun q => (.nx, q.2)
theorem ds_expr {f : M D} (h : DE X cm e te f) (hs : swapsWith e none pos.line X.env = pure false := by rfl) : DS X cm B (.Expr e pos) (tDrop te) (gex f) := ⟨ps_expr h.pe hs, fun F H σ env O out env' Dn s e k => by
  obtain ⟨⟨o, env1⟩, e1, e2⟩ := map_some e
  cases e2
  exact h.sm F H σ env O o _ _ s e1 fun F' H' v O' g s' r => k F' H' σ O' g s' .refl⟩
/-! ### x = e -/
def ist {α : Type} (i : Nat) (f : M Od) : G := fun env => (f env).bind fun q => if i < q.2.length then some (.nx, q.2.set i (some q.1)) else none
def gst (i : Nat) (f : M Od) : G := fun env => (f env).bind fun q => if i < q.2.length then some (.nx, q.2.set i (some q.1)) else none
theorem sms_asg {i : Nat} {f : M Od} (h : SmO X.K cm te f) (hB : i ∉ B) : SmS X.K cm B (tAsg te (gName i)) (gst i f) := fun F H σ env O out env' Dn s e k => by
  obtain ⟨⟨o, env1⟩, e1, e2⟩ := bind_some e
  obtain ⟨hi, e3⟩ := ite_some e2
  cases e3
  refine h F H σ env O o _ _ s e1 fun F' H' v O' R g s' ow n => ?_
  obtain ⟨O2, s2, sub⟩ := s'.seto (i := i) hi ow n
  exact k F' H' _ O2 (g.sub sub) s2 (.set hB)
theorem ds_set {i : Nat} {x : Str} {pos' : Pos} {f : M Od} (h : DO X cm e te f) (hN : X.N.Nodup) (hB : i ∉ B := by decide) (hi : X.N[i]? = some x := by rfl) (hx : Loc X.env.scope x := by first | exact .inl rfl | exact .inr rfl) (hs : swapsWith e (some (.Name x pos')) pos.line X.env = pure false := by rfl) (hf : X.fn x = true ∨ X.env.scope.names.lookup x = some .local := by first | exact .inl rfl | exact .inr rfl | assumption) :
    DS X cm B (.Assign [.Name x pos'] e pos) (tAsg te (gName i)) (gst i f) := ⟨ps_set hN hi hx h.pe hs hf, sms_asg h.sm hB⟩
/-! ### targets -/
abbrev Tg := D → Env → Option Env
def SmG (K : PySem.W.Frag) (cm : Cm) (B : List Nat) (g : TG) (tg : Tg) : Prop := ∀ F H σ env O x d env' (Q : L2.St → Hp → Prop), Sts K cm F H σ env O → Rp K cm F x d → tg d env = some env' → (∀ σ', Sts K cm F H σ' env' O → Bor B σ σ' → Q σ' H) → g x σ H Q
structure DG (X : Cx) (cm : Cm) (B : List Nat) (e : Expr) (g : TG) (tg : Tg) : Prop where
  pe : PG X e g
  sm : SmG X.K cm B g tg
def tgn (i : Nat) : Tg := fun d env => if i < env.length then some (env.set i (some (.fd (.val d)))) else none
theorem dg_name {i : Nat} {x : Str} (hN : X.N.Nodup) (hB : i ∉ B := by decide) (hi : X.N[i]? = some x := by rfl) (hx : Loc X.env.scope x := by first | exact .inl rfl | exact .inr rfl) (hf : X.fn x = true ∨ X.env.scope.names.lookup x = some .local := by first | exact .inl rfl | exact .inr rfl | assumption) : DG X cm B (.Name x pos) (gName i) (tgn i) := ⟨pg_name hN hi hx hf, fun F H σ env O x d env' Q s r e k => by
  obtain ⟨hi, e3⟩ := ite_some e
  cases e3
  exact k _ (s.setv hi r) (.set hB)⟩
structure DGs (X : Cx) (cm : Cm) (B : List Nat) (es : List Expr) (g : TGs) (tg : List D → Env → Option Env) : Prop where
  pe : PGs X es g
  sm : ∀ F H σ env O xs ds env' (Q : L2.St → Hp → Prop), Sts X.K cm F H σ env O → RpA X.K cm F xs ds → tg ds env = some env' → (∀ σ', Sts X.K cm F H σ' env' O → Bor B σ σ' → Q σ' H) → g xs σ H Q
def tgz : List D → Env → Option Env := fun ds env => match ds with
  | [] => some env
  | _ => none
def tgc (t : Tg) (u : List D → Env → Option Env) : List D → Env → Option Env := fun ds env => match ds with
  | [] => none
  | d :: ds => (t d env).bind fun env1 => u ds env1
theorem dgs_nil : DGs X cm B [] gNil tgz := ⟨pgs_nil, fun F H σ env O xs ds env' Q s r e k => by
  cases r with
  | nil => cases e; exact ⟨rfl, k σ s .refl⟩
  | cons h t => cases e⟩
theorem dgs_cons {t : TG} {u : TGs} {tg : Tg} {tgs : List D → Env → Option Env} (h1 : DG X cm B e t tg) (h2 : DGs X cm B es u tgs) (hs : (assignEach (e :: es) X.env).map (·.2) = assign e X.env :: (assignEach es X.env).map (·.2) := by rfl) : DGs X cm B (e :: es) (gCons t u) (tgc tg tgs) := ⟨pgs_cons h1.pe h2.pe hs, fun F H σ env O xs ds env' Q s r e k => by
  cases r with
  | nil => cases e
  | cons h r =>
    obtain ⟨env1, e1, e2⟩ := bind_some e
    exact ⟨_, _, rfl, h1.sm F H σ env O _ _ _ _ s h e1 fun σ1 s1 b1 => h2.sm F H σ1 env1 O _ _ _ _ s1 r e2 fun σ2 s2 b2 => k σ2 s2 (b1.trans b2)⟩⟩
def tgt (u : List D → Env → Option Env) : Tg := fun d env => match d with
  | .tup ds => u ds env
  | _ => none
theorem dg_tup {k : Nat} {t : TGs} {n : Nat} {tgs : List D → Env → Option Env} (h : DGs X cm B es t tgs) (hl : ∀ ds env env', tgs ds env = some env' → ds.length = n) (hc : X.calm = true := by rfl) (hn : (assignEach es X.env).length = n := by rfl) (hst : (assignEach es X.env).findIdx? (·.1) = none := by rfl) : DG X cm B (.Tuple es k pos) (gTup X.K n t) (tgt tgs) := ⟨pg_tup hc h.pe hn hst, fun F H σ env O x d env' Q s r e k => by
  cases d <;> try (cases e; done)
  cases r with
  | tup hp ra => exact ⟨_, _, rfl, tupT s.fh hp, by rw [ra.len]; exact hl _ _ _ e, h.sm F H σ env O _ _ _ _ s ra e k⟩⟩
theorem tg2_len {t u : Tg} : ∀ ds env env', tgc t (tgc u tgz) ds env = some env' → ds.length = 2
  | [], _, _, e => by cases e
  | [d], env, _, e => by obtain ⟨env1, e1, e2⟩ := bind_some e; cases e2
  | [d, d2], _, _, _ => rfl
  | d :: d2 :: d3 :: ds, env, _, e => by
    obtain ⟨env1, e1, e2⟩ := bind_some e
    obtain ⟨env2, e3, e4⟩ := bind_some e2
    cases e4
theorem tg3_len {t u w : Tg} : ∀ ds env env', tgc t (tgc u (tgc w tgz)) ds env = some env' → ds.length = 3
  | [], _, _, e => by cases e
  | [d], env, _, e => by obtain ⟨env1, e1, e2⟩ := bind_some e; cases e2
  | [d, d2], env, _, e => by obtain ⟨env1, e1, e2⟩ := bind_some e; obtain ⟨env2, e3, e4⟩ := bind_some e2; cases e4
  | [d, d2, d3], _, _, _ => rfl
  | d :: d2 :: d3 :: d4 :: ds, env, _, e => by
    obtain ⟨env1, e1, e2⟩ := bind_some e
    obtain ⟨env2, e3, e4⟩ := bind_some e2
    obtain ⟨env3, e5, e6⟩ := bind_some e4
    cases e6
/-- target = e, the target a tuple of names -/
def gtg (f : M D) (tg : Tg) : G := fun env => (f env).bind fun q => (tg q.1 q.2).map fun env' => (.nx, env')
theorem ds_asg {tgx : Expr} {gt : TG} {tg : Tg} {f : M D} (h : DE X cm e te f) (hg : DG X cm B tgx gt tg) (hs : swapsWithSole [tgx] e pos.line X.env = pure false := by rfl) (hw : swappedStores [tgx] e X.env = pure none := by rfl)
    (h1 : (assignEach [tgx] X.env).map (·.2) = [assign tgx X.env] := by rfl) : DS X cm B (.Assign [tgx] e pos) (tAsg te gt) (gtg f tg) := ⟨ps_asg h.pe hg.pe hs hw h1, fun F H σ env O out env' Dn s e k => by
  obtain ⟨⟨d, env1⟩, e1, e2⟩ := bind_some e
  obtain ⟨env2, e3, e4⟩ := map_some e2
  cases e4
  refine h.sm F H σ env O d _ _ s e1 fun F' H' v O' g s' r => hg.sm F' H' σ _ O' _ _ _ _ s' r e3 fun σ1 s1 b1 => k F' H' σ1 O' g s1 b1⟩
/-- a, b = e1, e2 -/
def gpar (i j : Nat) (f : M (List D)) : G := fun env => (f env).bind fun q => match q.1 with
  | [d1, d2] => if i < q.2.length ∧ j < q.2.length then some (.nx, (q.2.set i (some (.fd (.val d1)))).set j (some (.fd (.val d2)))) else none
  | _ => none
theorem ds_par {i j : Nat} {x y : Str} {a b : Expr} {ta : TA} {f : M (List D)} {px py pt : Pos} {kt k2 pt2} (ha : DA X cm [a, b] ta f) (hN : X.N.Nodup) (hBi : i ∉ B := by decide) (hBj : j ∉ B := by decide) (hp : PS X (.Assign [.Tuple [.Name x px, .Name y py] kt pt] (.Tuple [a, b] k2 pt2) pos) (tPar i j ta)) :
    DS X cm B (.Assign [.Tuple [.Name x px, .Name y py] kt pt] (.Tuple [a, b] k2 pt2) pos) (tPar i j ta) (gpar i j f) := ⟨hp, fun F H σ env O out env' Dn s e k => by
  obtain ⟨⟨ds, env1⟩, e1, e2⟩ := bind_some e
  dsimp only at e2
  split at e2
  · obtain ⟨⟨hi, hj⟩, e3⟩ := ite_some e2
    cases e3
    refine ha.sm F H σ env O _ _ _ s e1 fun F' H' vs O' g s' r => ?_
    obtain ⟨v, w, rfl, r1, r2⟩ := r.two
    exact ⟨v, w, rfl, k F' H' _ O' g ((s'.setv hi r1).setv (by rw [List.length_set]; exact hj) r2) (.trans (.set hBi) (.set hBj))⟩
  · cases e2⟩
/-- x op= e, both values -/
def gaug (i : Nat) (op : D → D → Option D) (f : M D) : G := fun env => (pd i env).bind fun x => (f env).bind fun q => (op x q.1).bind fun z => if i < q.2.length then some (.nx, q.2.set i (some (.fd (.val z)))) else none
theorem ds_aug {i : Nat} {op : Operator} {ti : TIp} {gop : D → D → Option D} {f : M D} (h : DE X cm e te f) (ho : PIp X op ti) (hr : ∀ F H x y a b d Q, Rp X.K cm F x a → Rp X.K cm F y b → gop a b = some d → (∀ v, Rp X.K cm F v d → Q v H) → ti x y H Q)
    (hp : PS X st (tAug i te ti)) (hB : i ∉ B := by decide) : DS X cm B st (tAug i te ti) (gaug i gop f) := ⟨hp, fun F H σ env O out env' Dn s e k => by
  obtain ⟨x, e1, e⟩ := bind_some e
  obtain ⟨⟨y, env1⟩, e2, e⟩ := bind_some e
  obtain ⟨z, e3, e⟩ := bind_some e
  obtain ⟨hi, e4⟩ := ite_some e
  cases e4
  unfold pd at e1
  split at e1
  · rename_i d q
    cases e1
    obtain ⟨v, ev, ow⟩ := s.at_ i _ q
    cases ow with
    | fd r => cases r with
      | val r =>
        refine ⟨v, ev, h.sm F H σ env O y _ _ s e2 fun F' H' w O' g s' r' => ?_⟩
        exact hr F' H' v w x y z _ (r.mono g.ff) r' e3 fun u ru => k F' H' _ O' g (s'.setv hi ru) (.set hB)
  · cases e1⟩
theorem ipI_sm {K : PySem.W.Frag} {g : Int → Int → Int} : ∀ F H x y a b d Q, Rp K cm F x a → Rp K cm F y b → liI (fun i j => .int (g i j)) a b = some d → (∀ v, Rp K cm F v d → Q v H) → ipI g x y H Q := fun F H x y a b d Q ra rb e k => by
  cases a <;> first | (cases e; done) | skip
  cases b <;> cases e
  cases ra; cases rb
  exact ⟨_, _, rfl, rfl, k _ (.int _)⟩
end

/-! ### what a slot owns is changed -/
section
variable {X : Cx} {cm : Cm} {B : List Nat} {e a b c : Expr} {es : List Expr} {te ta tb tc : TE} {pos : Pos} {fb : P D}
/-- a list in slot i -/
def lstAt (i : Nat) (env : Env) : Option (List D) := match env[i]? with
  | some (some (.fd (.lst ds))) => some ds
  | _ => none
theorem lstAt_at {K : PySem.W.Frag} {F H : Hp} {σ : L2.St} {env : Env} {O : Nat → Rg} {i : Nat} {ds : List D} (s : Sts K cm F H σ env O) (e : lstAt i env = some ds) : ∃ p vs, env[i]? = some (some (.fd (.lst ds))) ∧ σ[i]? = some (some (.ref p)) ∧ H p = some (.lst vs) ∧ RpA K cm F vs ds ∧ O i p := by
  unfold lstAt at e
  split at e
  · rename_i q
    cases e
    obtain ⟨v, ev, ow⟩ := s.at_ i _ q
    cases ow with
    | fd r => cases r with
      | lst h r z => exact ⟨_, _, q, ev, h, r, z⟩
  · cases e
theorem Sts.wlst {K : PySem.W.Frag} {F H : Hp} {σ : L2.St} {env : Env} {O : Nat → Rg} {i : Nat} {ds ds' : List D} {p : Addr} {vs' : List V} (s : Sts K cm F H σ env O) (q : env[i]? = some (some (.fd (.lst ds)))) (ev : σ[i]? = some (some (.ref p))) (z : O i p) (r : RpA K cm F vs' ds') :
    Sts K cm F (upd H p (.lst vs')) σ (env.set i (some (.fd (.lst ds')))) O ∧ Go (Un O) F H (Un O) F (upd H p (.lst vs')) := s.write q ev z (.fd (.lst upd_same r z))

theorem szlt {n : Nat} (h : n < 16777216) : n < sizeLine := by rw [sizeLine_eq]; exact h
theorem tyV_l {K : PySem.W.Frag} {H : Hp} {p : Addr} {vs : List V} (h : H p = some (.lst vs)) : tyV K "list" (.ref p) H := .inl ⟨rfl, _, .of h⟩
/-- a method of the list in slot i, upon values -/
def SmM (K : PySem.W.Frag) (cm : Cm) (r : V → List V → Hp → VK → Prop) (g : List D → List D → Option (D × List D)) : Prop := ∀ F H p vs ds xs es d ds' (Q : VK), H p = some (.lst vs) → RpA K cm F vs ds → RpA K cm F xs es → SmH F H → g ds es = some (d, ds') →
  (∀ v vs', Rp K cm F v d → RpA K cm F vs' ds' → Q v (upd H p (.lst vs'))) → r (.ref p) xs H Q
def mme (i : Nat) (g : List D → List D → Option (D × List D)) (f : M (List D)) : M D := fun env => (lstAt i env).bind fun _ => (f env).bind fun q => (lstAt i q.2).bind fun ds => (g ds q.1).map fun r => (r.1, q.2.set i (some (.fd (.lst r.2))))
theorem sm_me {r : V → List V → Hp → VK → Prop} {g : List D → List D → Option (D × List D)} {t : TA} {f : M (List D)} {i : Nat} (hr : SmM X.K cm r g) (ha : SmA X.K cm t f) : Sm X.K cm (tBM X.K "list" r (tVar i) t) (mme i g f) := fun F H σ env O d env' Q s e k => by
  obtain ⟨ds0, e0, e⟩ := bind_some e
  obtain ⟨⟨es, env1⟩, e1, e⟩ := bind_some e
  obtain ⟨ds, e2, e⟩ := bind_some e
  obtain ⟨⟨d', ds'⟩, e3, e4⟩ := map_some e
  cases e4
  obtain ⟨p, vs, q, ev, h, ra, z⟩ := lstAt_at s e0
  refine ⟨_, ev, tyV_l h, ha F H σ env O es env1 _ s e1 fun F1 H1 xs O1 g1 s1 rx => ?_⟩
  obtain ⟨p', vs', q', ev', h', ra', z'⟩ := lstAt_at s1 e2
  have e5 : p' = p := by rw [ev] at ev'; cases ev'; rfl
  subst e5
  refine hr F1 H1 p' vs' ds xs es _ ds' Q h' ra' rx s1.fh e3 fun v vs2 rv r2 => ?_
  obtain ⟨s2, g2⟩ := s1.wlst q' ev' z' r2
  exact k F1 _ v O1 (g1.trans g2) s2 rv
theorem sm_me0 {r : V → List V → Hp → VK → Prop} {g : List D → List D → Option (D × List D)} {i : Nat} (hr : SmM X.K cm r g) : Sm X.K cm (tBM0 X.K "list" r (tVar i)) (mme i g anil) := fun F H σ env O d env' Q s e k => by
  obtain ⟨ds0, e0, e⟩ := bind_some e
  obtain ⟨⟨es, env1⟩, e1, e⟩ := bind_some e
  obtain ⟨ds, e2, e⟩ := bind_some e
  obtain ⟨⟨d', ds'⟩, e3, e4⟩ := map_some e
  cases e4
  cases e1
  obtain ⟨p, vs, q, ev, h, ra, z⟩ := lstAt_at s e2
  refine ⟨_, ev, tyV_l h, ?_⟩
  refine hr F H p vs ds [] [] _ ds' Q h ra .nil s.fh e3 fun v vs2 rv r2 => ?_
  obtain ⟨s2, g2⟩ := s.wlst q ev z r2
  exact k F _ v O g2 s2 rv
def appL (ds : List D) : List D → Option (D × List D)
  | [d] => if ds.length < 16777216 then some (.non, ds ++ [d]) else none
  | _ => none
theorem sr_app {K : PySem.W.Frag} : SmM K cm rAppend appL := fun F H p vs ds xs es d ds' Q h ra rx fh e k => by
  unfold appL at e
  split at e
  · obtain ⟨c, e⟩ := ite_some e
    cases e
    obtain ⟨v, rfl, rv⟩ := rx.one
    exact ⟨p, vs, v, rfl, rfl, h, szlt (by rw [ra.len]; exact c), k _ _ .non (ra.app (.cons rv .nil))⟩
  · cases e
def extL (ds : List D) : List D → Option (D × List D)
  | [.lst es] => if ds.length + es.length ≤ 16777216 then some (.non, ds ++ es) else none
  | _ => none
theorem sr_ext {K : PySem.W.Frag} : SmM K cm rExtend extL := fun F H p vs ds xs es d ds' Q h ra rx fh e k => by
  unfold extL at e
  split at e
  · obtain ⟨c, e⟩ := ite_some e
    cases e
    obtain ⟨v, rfl, rv⟩ := rx.one
    cases rv with
    | lst h2 r2 => exact ⟨p, _, vs, _, rfl, rfl, h, fh.at h2, size_le (by rw [ra.len, r2.len]; exact c), k _ _ .non (ra.app r2)⟩
  · cases e
def popL (ds : List D) : List D → Option (D × List D)
  | [.int i] => if -(2 ^ 63) ≤ i ∧ i < 2 ^ 63 then (seqIndex? i ds.length).bind fun k => (ds[k]?).map fun d => (d, ds.eraseIdx k) else none
  | _ => none
theorem sr_popAt {K : PySem.W.Frag} : SmM K cm rPopAt popL := fun F H p vs ds xs es d ds' Q h ra rx fh e k => by
  unfold popL at e
  split at e
  · rename_i i
    by_cases c : -(2 ^ 63) ≤ i ∧ i < 2 ^ 63
    · rw [if_pos c] at e
      obtain ⟨j, e1, e⟩ := bind_some e
      obtain ⟨d1, e2, e3⟩ := map_some e
      cases e3
      obtain ⟨v, rfl, rv⟩ := rx.one
      cases rv
      obtain ⟨w, h1, r1⟩ := ra.getD e2
      exact ⟨p, vs, _, j, w, rfl, rfl, h, c.1, c.2, by rw [ra.len]; exact e1, h1, k _ _ r1 (ra.erase j)⟩
    · rw [if_neg c] at e; cases e
  · cases e
def pop0L (ds : List D) : List D → Option (D × List D)
  | [] => (ds[ds.length - 1]?).map fun d => (d, ds.dropLast)
  | _ => none
theorem RpA.dropLast {K : PySem.W.Frag} {F : Hp} {vs : List V} {ds : List D} (r : RpA K cm F vs ds) : RpA K cm F vs.dropLast ds.dropLast := by
  rw [List.dropLast_eq_take, List.dropLast_eq_take, r.len]
  exact r.take _
theorem sr_pop {K : PySem.W.Frag} : SmM K cm rPop pop0L := fun F H p vs ds xs es d ds' Q h ra rx fh e k => by
  unfold pop0L at e
  split at e
  · obtain ⟨d1, e2, e3⟩ := map_some e
    cases e3
    cases rx
    obtain ⟨w, h1, r1⟩ := ra.getD e2
    exact ⟨p, vs, w, rfl, rfl, h, by rw [ra.len]; exact h1, k _ _ r1 ra.dropLast⟩
  · cases e
section
variable {x : Str} {pn ap cp : Pos} {t : TA} {f : M (List D)} {i : Nat}
theorem de_app (ha : DA X cm [e] t f) (hN : X.N[i]? = some x := by rfl) (hv : Vis X.env.scope x := by first | exact Or.inl rfl | exact Or.inr (Or.inl rfl) | exact Or.inr (Or.inr rfl)) (hd : (x == ("__debug__" : Str)) = false := by decide) (hcd : (x == ("__classdict__" : Str)) = false := by decide)
    (hbase : attributeBase (.Name x pn) "append" X.env (eval (.Name x pn) X.env) = eval (.Name x pn) X.env := by rfl)
    (hfew : ((backTo cp (starEach [e] X.env)).all (fun x => !x.1) && (backToKw cp (keywordEach [] X.env)).all (fun x => x.1.isSome) && decide ([e].length + ([] : List Keyword).length + (if ([] : List Keyword).isEmpty then 0 else 1) < 30)) = true := by rfl)
    (hline : (ap.endLine == cp.line) = true := by rfl) (hs : starEach [e] X.env = (false, eval e X.env) :: starEach [] X.env := by rfl) (hpl : (backTo cp (starEach [] X.env)).any (·.1) = false := by rfl) :
    DE X cm (.Call (.Attribute (.Name x pn) "append" ap) [e] [] cp) (tBM X.K "list" rAppend (tVar i) t) (mme i appL f) :=
  ⟨pe_bm PySem.F.plainAttrs_list PySem.F.slot_list_append PySem.F.type_list_append mt_append (pe_var hN hv hd hcd) ha.pe hbase hfew hline hs hpl, sm_me sr_app ha.sm⟩
theorem de_ext (ha : DA X cm [e] t f) (hN : X.N[i]? = some x := by rfl) (hv : Vis X.env.scope x := by first | exact Or.inl rfl | exact Or.inr (Or.inl rfl) | exact Or.inr (Or.inr rfl)) (hd : (x == ("__debug__" : Str)) = false := by decide) (hcd : (x == ("__classdict__" : Str)) = false := by decide)
    (hbase : attributeBase (.Name x pn) "extend" X.env (eval (.Name x pn) X.env) = eval (.Name x pn) X.env := by rfl)
    (hfew : ((backTo cp (starEach [e] X.env)).all (fun x => !x.1) && (backToKw cp (keywordEach [] X.env)).all (fun x => x.1.isSome) && decide ([e].length + ([] : List Keyword).length + (if ([] : List Keyword).isEmpty then 0 else 1) < 30)) = true := by rfl)
    (hline : (ap.endLine == cp.line) = true := by rfl) (hs : starEach [e] X.env = (false, eval e X.env) :: starEach [] X.env := by rfl) (hpl : (backTo cp (starEach [] X.env)).any (·.1) = false := by rfl) :
    DE X cm (.Call (.Attribute (.Name x pn) "extend" ap) [e] [] cp) (tBM X.K "list" rExtend (tVar i) t) (mme i extL f) :=
  ⟨pe_bm PySem.F.plainAttrs_list PySem.F.slot_list_extend PySem.F.type_list_extend mt_extend (pe_var hN hv hd hcd) ha.pe hbase hfew hline hs hpl, sm_me sr_ext ha.sm⟩
theorem de_popAt (ha : DA X cm [e] t f) (hN : X.N[i]? = some x := by rfl) (hv : Vis X.env.scope x := by first | exact Or.inl rfl | exact Or.inr (Or.inl rfl) | exact Or.inr (Or.inr rfl)) (hd : (x == ("__debug__" : Str)) = false := by decide) (hcd : (x == ("__classdict__" : Str)) = false := by decide)
    (hbase : attributeBase (.Name x pn) "pop" X.env (eval (.Name x pn) X.env) = eval (.Name x pn) X.env := by rfl)
    (hfew : ((backTo cp (starEach [e] X.env)).all (fun x => !x.1) && (backToKw cp (keywordEach [] X.env)).all (fun x => x.1.isSome) && decide ([e].length + ([] : List Keyword).length + (if ([] : List Keyword).isEmpty then 0 else 1) < 30)) = true := by rfl)
    (hline : (ap.endLine == cp.line) = true := by rfl) (hs : starEach [e] X.env = (false, eval e X.env) :: starEach [] X.env := by rfl) (hpl : (backTo cp (starEach [] X.env)).any (·.1) = false := by rfl) :
    DE X cm (.Call (.Attribute (.Name x pn) "pop" ap) [e] [] cp) (tBM X.K "list" rPopAt (tVar i) t) (mme i popL f) :=
  ⟨pe_bm PySem.F.plainAttrs_list PySem.F.slot_list_pop PySem.F.type_list_pop mt_popAt (pe_var hN hv hd hcd) ha.pe hbase hfew hline hs hpl, sm_me sr_popAt ha.sm⟩
theorem de_pop (hN : X.N[i]? = some x := by rfl) (hv : Vis X.env.scope x := by first | exact Or.inl rfl | exact Or.inr (Or.inl rfl) | exact Or.inr (Or.inr rfl)) (hd : (x == ("__debug__" : Str)) = false := by decide) (hcd : (x == ("__classdict__" : Str)) = false := by decide)
    (hbase : attributeBase (.Name x pn) "pop" X.env (eval (.Name x pn) X.env) = eval (.Name x pn) X.env := by rfl) (hline : (ap.endLine == cp.line) = true := by rfl) :
    DE X cm (.Call (.Attribute (.Name x pn) "pop" ap) [] [] cp) (tBM0 X.K "list" rPop (tVar i)) (mme i pop0L anil) :=
  ⟨pe_bm0 PySem.F.plainAttrs_list PySem.F.slot_list_pop PySem.F.type_list_pop mt_pop (pe_var hN hv hd hcd) hbase hline, sm_me0 sr_pop⟩
end
/-- x[i] = e, x a list in a slot, i plain -/
def gsi (j : Nat) (fb : P D) (f : M D) : G := fun env => (f env).bind fun q => (lstAt j q.2).bind fun ds => (fb q.2).bind fun b => (toI b).bind fun z => (ixN ds.length z).map fun n => (.nx, q.2.set j (some (.fd (.lst (ds.set n q.1)))))
theorem ds_si {j : Nat} {x : Str} {px : Pos} {f : M D} {p2 : Pos} (h : DE X cm e te f) (hb : DP X cm b tb fb) (hN : X.N[j]? = some x := by rfl) (hv : Vis X.env.scope x := by first | exact Or.inl rfl | exact Or.inr (Or.inl rfl) | exact Or.inr (Or.inr rfl)) (hd : (x == ("__debug__" : Str)) = false := by decide) (hcd : (x == ("__classdict__" : Str)) = false := by decide)
    (ha : ∀ v, assign (.Subscript (.Name x px) b p2) X.env v = (do
      let ov ← holding [v] (eval (.Name x px) X.env)
      let iv ← holding [v, ov] (eval b X.env)
      standAt p2
      holding [v, ov, iv] (setItem ov iv v)
      release [v, ov, iv] []) := by intro _; rfl)
    (hs : swapsWithSole [.Subscript (.Name x px) b p2] e pos.line X.env = pure false := by rfl) (hw : swappedStores [.Subscript (.Name x px) b p2] e X.env = pure none := by rfl) (h1 : (assignEach [.Subscript (.Name x px) b p2] X.env).map (·.2) = [assign (.Subscript (.Name x px) b p2) X.env] := by rfl) :
    DS X cm B (.Assign [.Subscript (.Name x px) b p2] e pos) (tAsg te (gSub (tVar j) tb rSetL)) (gsi j fb f) := ⟨ps_asg h.pe (pg_sub (pe_var hN hv hd hcd) hb.pe set_list ha) hs hw h1, fun F H σ env O out env' Dn s e k => by
  obtain ⟨⟨d, env1⟩, e1, e⟩ := bind_some e
  obtain ⟨ds, e2, e⟩ := bind_some e
  obtain ⟨i, e3, e⟩ := bind_some e
  obtain ⟨z, e4, e⟩ := bind_some e
  obtain ⟨n, e5, e6⟩ := map_some e
  cases e6
  refine h.sm F H σ env O d _ _ s e1 fun F1 H1 v O1 g1 s1 r => ?_
  obtain ⟨p, vs, q, ev, hp, ra, zz⟩ := lstAt_at s1 e2
  refine ⟨_, ev, hb.sm F1 H1 σ _ O1 i _ s1 e3 fun w rw' => ?_⟩
  obtain ⟨s2, g2⟩ := s1.wlst (vs' := vs.set n v) (ds' := ds.set n d) q ev zz (ra.set r n)
  exact ⟨p, vs, z, n, rfl, rw'.toI e4, hp, by rw [ra.len]; exact e5, k _ _ σ O1 (g1.trans g2) s2 .refl⟩⟩
end

/-! ### walks -/
/-- what a walk gives at its turns: the data, each frozen, or laid anew as a pair -/
def WkD (K : PySem.W.Frag) (cm : Cm) (F : Hp) (J : It) (ds : List D) : Prop := ∃ Y, Walk J ds.length (fun H => SmH F H) Y ∧ ∀ i H x H' d, ds[i]? = some d → SmH F H → Y i H x H' →
  (H' = H ∧ Rp K cm F x d) ∨ ∃ T vs es, x = .ref T ∧ H T = none ∧ H' = upd H T (.tup vs) ∧ d = .tup es ∧ RpA K cm F vs es
def SmI (K : PySem.W.Frag) (cm : Cm) (wi : TI) (f : M (List D)) : Prop := ∀ F H σ env O ds env' (R : It → Hp → Prop), Sts K cm F H σ env O → f env = some (ds, env') →
  (∀ F' H' O' J, Go (Un O) F H (Un O') F' H' → Sts K cm F' H' σ env' O' → WkD K cm F' J ds → R J H') → wi σ H R
structure DI (X : Cx) (cm : Cm) (tg iter : Expr) (wi : TI) (f : M (List D)) : Prop where
  pe : PI X tg iter wi
  sm : SmI X.K cm wi f
section
variable {X : Cx} {cm : Cm} {B : List Nat} {tg e a b c : Expr} {es : List Expr} {te ta tb tc : TE} {pos : Pos} {fb : P D}
theorem wk_list {K : PySem.W.Frag} {F : Hp} {a : Addr} {vs : List V} {ds : List D} (h : SqL K F a vs) (r : RpA K cm F vs ds) : WkD K cm F (Itl K a) ds :=
  ⟨YAt vs, by rw [← r.len]; exact walk_list.mono (fun H fh => fh.seq h) fun _ _ _ _ _ _ y => y, fun i H x H' d hd fh y => .inl ⟨y.1, r.at2 y.2 hd⟩⟩
theorem wk_tup {K : PySem.W.Frag} {F : Hp} {a : Addr} {vs : List V} {ds : List D} (h : SqT K F a vs) (r : RpA K cm F vs ds) : WkD K cm F (Itt K a) ds :=
  ⟨YAt vs, by rw [← r.len]; exact walk_tup.mono (fun H fh => fh.sqT h) fun _ _ _ _ _ _ y => y, fun i H x H' d hd fh y => .inl ⟨y.1, r.at2 y.2 hd⟩⟩
def itL (f : M D) : M (List D) := mb f fun d => mo (match d with | .lst ds => some ds | .scr ns => some (ns.map .int) | _ => none)
def itT (f : M D) : M (List D) := mb f fun d => mo (match d with | .tup ds => some ds | _ => none)
theorem di_list {f : M D} (h : DE X cm e te f) : DI X cm tg e (iList X.K te) (itL f) := ⟨pi_list h.pe, fun F H σ env O ds env' R s e k => by
  obtain ⟨x, env1, e1, e⟩ := mb_some e
  obtain ⟨e3, e4⟩ := mo_some e
  dsimp only at e3 e4
  subst e4
  refine h.sm F H σ env O x _ _ s e1 fun F1 H1 v O1 g1 s1 r => ?_
  cases x <;> cases e3
  · cases r with
    | lst hp ra => exact ⟨_, rfl, ⟨_, .of (s1.fh.at hp)⟩, k F1 H1 O1 _ g1 s1 (wk_list (.of hp) ra)⟩
  · cases r with
    | scr hp => exact ⟨_, rfl, ⟨_, s1.fh.seq hp⟩, k F1 H1 O1 _ g1 s1 (wk_list hp (RpA.ints _))⟩⟩
theorem di_tup {f : M D} (h : DE X cm e te f) : DI X cm tg e (iTup X.K te) (itT f) := ⟨pi_tup h.pe, fun F H σ env O ds env' R s e k => by
  obtain ⟨x, env1, e1, e⟩ := mb_some e
  obtain ⟨e3, e4⟩ := mo_some e
  dsimp only at e3 e4
  subst e4
  refine h.sm F H σ env O x _ _ s e1 fun F1 H1 v O1 g1 s1 r => ?_
  cases x <;> cases e3
  cases r with
  | tup hp ra => exact ⟨_, rfl, ⟨_, tupT s1.fh hp⟩, k F1 H1 O1 _ g1 s1 (wk_tup (.of hp) ra)⟩⟩
def rgN (lo : Int) (n : Nat) : List D := (List.range n).map fun i => .int (lo + (i : Nat))
theorem wk_range {K : PySem.W.Frag} {F : Hp} {lo : Int} {n : Nat} : WkD K cm F (Itr lo n) (rgN lo n) := by
  have hl : (rgN lo n).length = n := by unfold rgN; rw [List.length_map, List.length_range]
  refine ⟨YFn fun i => .int (lo + i), by rw [hl]; exact walk_range.mono (fun _ _ => trivial) fun _ _ _ _ _ _ y => y, fun i H x H' d hd fh y => .inl ⟨y.1, ?_⟩⟩
  unfold rgN at hd
  rw [List.getElem?_map] at hd
  obtain ⟨j, e1, rfl⟩ := map_some hd
  have hi : i < n := by
    have := (List.getElem?_eq_some_iff.mp e1).1
    rw [List.length_range] at this; exact this
  rw [List.getElem?_range hi] at e1
  cases e1
  rw [y.2]
  exact .int _
def itR1 (f : M D) : M (List D) := mb f fun d => mo ((toI d).bind fun j => if -(2 ^ 62) ≤ j ∧ j < 2 ^ 62 then some (rgN 0 j.toNat) else none)
theorem di_rng1 {p pos : Pos} {f : M D} (hm : X.mg "range" = none) (h : DE X cm a ta f) (hg : Gl X "range" := by rfl) (hs : starEach [a] X.env = [(false, eval a X.env)] := by rfl) : DI X cm tg (.Call (.Name "range" p) [a] [] pos) (iRng1 (tCons ta tNil)) (itR1 f) := ⟨pi_range1 hg hm (pa_cons h.pe pa_nil hs) hs, fun F H σ env O ds env' R s e k => by
  obtain ⟨x, env1, e1, e⟩ := mb_some e
  obtain ⟨e3, e4⟩ := mo_some e
  dsimp only at e3 e4
  subst e4
  obtain ⟨j, e5, e6⟩ := bind_some e3
  obtain ⟨c, rfl⟩ := ite_some e6
  refine h.sm F H σ env O x _ _ s e1 fun F1 H1 v O1 g1 s1 r => ?_
  exact ⟨j, by rw [r.toI e5], c.1, c.2, k F1 H1 O1 _ g1 s1 wk_range⟩⟩
def itR2 (f g : M D) : M (List D) := mb f fun d => mb g fun d2 => mo ((toI d).bind fun i => (toI d2).bind fun j => if -(2 ^ 62) ≤ i ∧ i < 2 ^ 62 ∧ -(2 ^ 62) ≤ j ∧ j < 2 ^ 62 then some (rgN i (j - i).toNat) else none)
theorem di_rng2 {p pos : Pos} {f g : M D} (hm : X.mg "range" = none) (h : DE X cm a ta f) (h2 : DE X cm b tb g) (hg : Gl X "range" := by rfl) (hs : starEach [a, b] X.env = [(false, eval a X.env), (false, eval b X.env)] := by rfl) (hs2 : starEach [b] X.env = [(false, eval b X.env)] := by rfl) :
    DI X cm tg (.Call (.Name "range" p) [a, b] [] pos) (iRng2 (tCons ta (tCons tb tNil))) (itR2 f g) := ⟨pi_range2 hg hm (pa_cons h.pe (pa_cons h2.pe pa_nil hs2) (by rw [hs, hs2])) hs hs2, fun F H σ env O ds env' R s e k => by
  obtain ⟨x, env1, e1, e⟩ := mb_some e
  obtain ⟨y, env2, e2, e⟩ := mb_some e
  obtain ⟨e3, e4⟩ := mo_some e
  dsimp only at e3 e4
  subst e4
  obtain ⟨i, e5, e6⟩ := bind_some e3
  obtain ⟨j, e7, e8⟩ := bind_some e6
  obtain ⟨c, rfl⟩ := ite_some e8
  refine h.sm F H σ env O x _ _ s e1 fun F1 H1 v O1 g1 s1 r1 => h2.sm F1 H1 σ _ O1 y _ _ s1 e2 fun F2 H2 w O2 g2 s2 r2 => ?_
  exact ⟨i, j, by rw [r1.toI e5, r2.toI e7], c, k F2 H2 O2 _ (g1.trans g2) s2 wk_range⟩⟩
/-! enumerate, zip -/
theorem RpA.idx {K : PySem.W.Frag} {F : Hp} {vs : List V} {ds : List D} (r : RpA K cm F vs ds) {i : Nat} {v : V} (h : vs[i]? = some v) : ∃ d, ds[i]? = some d ∧ Rp K cm F v d := r.get h
def enD : Nat → List D → List D
  | _, [] => []
  | n, d :: ds => .tup [.int (n : Nat), d] :: enD (n + 1) ds
theorem enD_len : ∀ (n : Nat) (ds : List D), (enD n ds).length = ds.length
  | _, [] => rfl
  | n, d :: ds => by unfold enD; rw [List.length_cons, List.length_cons, enD_len]
theorem enD_at : ∀ (n : Nat) (ds : List D) (i : Nat) (d : D), (enD n ds)[i]? = some d → ∃ x, ds[i]? = some x ∧ d = .tup [.int ((n + i : Nat) : Nat), x]
  | _, [], i, d, e => by simp [enD] at e
  | n, y :: ds, 0, d, e => by simp [enD] at e; exact ⟨y, rfl, e.symm⟩
  | n, y :: ds, i + 1, d, e => by
    simp only [enD, List.getElem?_cons_succ] at e
    obtain ⟨x, h1, h2⟩ := enD_at (n + 1) ds i d e
    exact ⟨x, by simpa using h1, by rw [h2, show n + 1 + i = n + (i + 1) by omega]⟩
theorem wk_enum {K : PySem.W.Frag} {F : Hp} {a : Addr} {vs : List V} {ds : List D} (h : SqL K F a vs) (r : RpA K cm F vs ds) : WkD K cm F (Ite K a) (enD 0 ds) := by
  refine ⟨_, by rw [enD_len, ← r.len]; exact walk_enum.mono (fun H fh => fh.seq h) fun _ _ _ _ _ _ y => y, fun i H x H' d hd fh y => .inr ?_⟩
  obtain ⟨T, u, v, e1, e2, e3, e4, e5⟩ := y
  obtain ⟨z, h1, rfl⟩ := enD_at 0 ds i d hd
  cases e4
  exact ⟨T, _, _, e1, e2, e3, rfl, .cons (by rw [Nat.zero_add]; exact .int _) (.cons (r.at2 e5 h1) .nil)⟩
theorem wk_enumT {K : PySem.W.Frag} {F : Hp} {a : Addr} {vs : List V} {ds : List D} (h : SqT K F a vs) (r : RpA K cm F vs ds) : WkD K cm F (IteT K a) (enD 0 ds) := by
  refine ⟨_, by rw [enD_len, ← r.len]; exact walk_enumT.mono (fun H fh => fh.sqT h) fun _ _ _ _ _ _ y => y, fun i H x H' d hd fh y => .inr ?_⟩
  obtain ⟨T, u, v, e1, e2, e3, e4, e5⟩ := y
  obtain ⟨z, h1, rfl⟩ := enD_at 0 ds i d hd
  cases e4
  exact ⟨T, _, _, e1, e2, e3, rfl, .cons (by rw [Nat.zero_add]; exact .int _) (.cons (r.at2 e5 h1) .nil)⟩
def itEL (f : M D) : M (List D) := mb f fun d => mo (match d with | .lst ds => some (enD 0 ds) | _ => none)
def itET (f : M D) : M (List D) := mb f fun d => mo (match d with | .tup ds => some (enD 0 ds) | _ => none)
theorem di_enL {f : M D} {p pos tpos : Pos} {elts : List Expr} {kk : Nat} (hm : X.mg "enumerate" = none) (h : DE X cm a ta f) (hg : Gl X "enumerate" := by rfl) (hs : starEach [a] X.env = [(false, eval a X.env)] := by rfl) : DI X cm (.Tuple elts kk tpos) (.Call (.Name "enumerate" p) [a] [] pos) (iEnum X.K (tCons ta tNil)) (itEL f) := ⟨pi_enum hg hm (pa_cons h.pe pa_nil hs) hs, fun F H σ env O ds env' R s e k => by
  obtain ⟨x, env1, e1, e⟩ := mb_some e
  obtain ⟨e3, e4⟩ := mo_some e
  dsimp only at e3 e4
  subst e4
  refine h.sm F H σ env O x _ _ s e1 fun F1 H1 v O1 g1 s1 r => ?_
  cases x <;> cases e3
  cases r with
  | lst hp ra => exact ⟨_, _, rfl, .of (s1.fh.at hp), k F1 H1 O1 _ g1 s1 (wk_enum (.of hp) ra)⟩⟩
theorem di_enT {f : M D} {p pos tpos : Pos} {elts : List Expr} {kk : Nat} (hm : X.mg "enumerate" = none) (h : DE X cm a ta f) (hg : Gl X "enumerate" := by rfl) (hs : starEach [a] X.env = [(false, eval a X.env)] := by rfl) : DI X cm (.Tuple elts kk tpos) (.Call (.Name "enumerate" p) [a] [] pos) (iEnumT X.K (tCons ta tNil)) (itET f) := ⟨pi_enumT hg hm (pa_cons h.pe pa_nil hs) hs, fun F H σ env O ds env' R s e k => by
  obtain ⟨x, env1, e1, e⟩ := mb_some e
  obtain ⟨e3, e4⟩ := mo_some e
  dsimp only at e3 e4
  subst e4
  refine h.sm F H σ env O x _ _ s e1 fun F1 H1 v O1 g1 s1 r => ?_
  cases x <;> cases e3
  cases r with
  | tup hp ra => exact ⟨_, _, rfl, tupT s1.fh hp, k F1 H1 O1 _ g1 s1 (wk_enumT (.of hp) ra)⟩⟩
def zpD : List D → List D → List D
  | x :: xs, y :: ys => .tup [x, y] :: zpD xs ys
  | _, _ => []
theorem zpD_len : ∀ xs ys : List D, (zpD xs ys).length = min xs.length ys.length
  | [], _ => by simp [zpD]
  | _ :: _, [] => by simp [zpD]
  | x :: xs, y :: ys => by simp only [zpD, List.length_cons, zpD_len xs ys]; omega
theorem zpD_at : ∀ (xs ys : List D) (i : Nat) (d : D), (zpD xs ys)[i]? = some d → ∃ x y, xs[i]? = some x ∧ ys[i]? = some y ∧ d = .tup [x, y]
  | [], _, i, d, e => by simp [zpD] at e
  | _ :: _, [], i, d, e => by simp [zpD] at e
  | x :: xs, y :: ys, 0, d, e => by simp [zpD] at e; exact ⟨x, y, rfl, rfl, e.symm⟩
  | x :: xs, y :: ys, i + 1, d, e => by
    simp only [zpD, List.getElem?_cons_succ] at e
    obtain ⟨a, b, h1, h2, h3⟩ := zpD_at xs ys i d e
    exact ⟨a, b, by simpa using h1, by simpa using h2, h3⟩
theorem walk_zipT {K : PySem.W.Frag} {a b : Addr} {xs ys : List V} {n : Nat} (hn : n = min xs.length ys.length) : Walk (RZ.ItzT K a b) n (fun H => SqT K H a xs ∧ SqT K H b ys) (YPair (fun i => xs[i]?) (fun i => ys[i]?)) :=
  ⟨fun i H hi h => ⟨xs, ys, xs[i]'(by omega), ys[i]'(by omega), h.1, h.2, List.getElem?_eq_getElem (by omega), List.getElem?_eq_getElem (by omega)⟩, fun H h => ⟨xs, ys, h.1, h.2, by omega⟩, fun i H x H' hi h y => by
    obtain ⟨T, z, u, e1, e2, e3, e4, e5⟩ := y
    exact ⟨T, z, u, e1, e2, e3, e4 xs h.1, e5 ys h.2⟩⟩
def itZ (f : M (List D)) : M (List D) := mb f fun ds => mo (match ds with | [.tup xs, .tup ys] => some (zpD xs ys) | [.lst xs, .lst ys] => some (zpD xs ys) | _ => none)
theorem wk_pair {K : PySem.W.Frag} {F : Hp} {J : It} {vs ws : List V} {xs ys : List D} {G : Hp → Prop} (w : Walk J (min vs.length ws.length) G (YPair (fun i => vs[i]?) (fun i => ws[i]?))) (hG : ∀ H, SmH F H → G H) (r1 : RpA K cm F vs xs) (r2 : RpA K cm F ws ys) : WkD K cm F J (zpD xs ys) := by
  refine ⟨_, by rw [zpD_len, ← r1.len, ← r2.len]; exact w.mono hG fun _ _ _ _ _ _ y => y, fun i H x H' d hd fh y => .inr ?_⟩
  obtain ⟨T, u, v, e1, e2, e3, e4, e5⟩ := y
  obtain ⟨a, b, h1, h2, rfl⟩ := zpD_at xs ys i d hd
  exact ⟨T, _, _, e1, e2, e3, rfl, .cons (r1.at2 e4 h1) (.cons (r2.at2 e5 h2) .nil)⟩
theorem di_zip {t : TA} {f : M (List D)} {p pos tpos : Pos} {elts : List Expr} {kk : Nat} (hm : X.mg "zip" = none) (h : DA X cm [a, b] t f) (hg : Gl X "zip" := by rfl) (hs : starEach [a, b] X.env = (false, eval a X.env) :: starEach [b] X.env := by rfl) (hpl : (backTo pos (starEach [b] X.env)).any (·.1) = false := by rfl) :
    DI X cm (.Tuple elts kk tpos) (.Call (.Name "zip" p) [a, b] [] pos) (RZ.iZipA X.K t) (itZ f) := ⟨RZ.pi_zipA hg hm h.pe hs hpl, fun F H σ env O ds env' R s e k => by
  obtain ⟨x, env1, e1, e⟩ := mb_some e
  obtain ⟨e3, e4⟩ := mo_some e
  dsimp only at e3 e4
  subst e4
  refine h.sm F H σ env O x _ _ s e1 fun F1 H1 vs O1 g1 s1 r => ?_
  split at e3
  · cases e3
    obtain ⟨v, w, rfl, r1, r2⟩ := r.two
    cases r1 with
    | tup h1 ra =>
      cases r2 with
      | tup h2 rb => exact ⟨_, _, _, _, rfl, .inr ⟨tupT s1.fh h1, tupT s1.fh h2, k F1 H1 O1 _ g1 s1 (wk_pair (walk_zipT rfl) (fun H fh => ⟨tupT fh h1, tupT fh h2⟩) ra rb)⟩⟩
  · cases e3
    obtain ⟨v, w, rfl, r1, r2⟩ := r.two
    cases r1 with
    | lst h1 ra =>
      cases r2 with
      | lst h2 rb => exact ⟨_, _, _, _, rfl, .inl ⟨.of (s1.fh.at h1), .of (s1.fh.at h2), k F1 H1 O1 _ g1 s1 (wk_pair (walk_zip rfl) (fun H fh => ⟨.of (fh.at h1), .of (fh.at h2)⟩) ra rb)⟩⟩
  · cases e3⟩
end

/-! ### for -/
/-- a target's step: a pair that was laid anew is frozen first -/
def forD (tg : Tg) (body : G) : List D → G
  | [], env => some (.nx, env)
  | d :: ds, env => (tg d env).bind fun env1 => (body env1).bind fun q => match q.1 with
    | .nx => forD tg body ds q.2
    | .ct => forD tg body ds q.2
    | .bk => some (.nx, q.2)
    | .rt o => some (.rt o, q.2)
def gfor (f : M (List D)) (tg : Tg) (body : G) : G := fun env => (f env).bind fun q => forD tg body q.1 q.2
section
variable {X : Cx} {cm : Cm} {B : List Nat} {tg e a b c iter : Expr} {es : List Expr} {te ta tb tc : TE} {pos : Pos} {fb : P D}
/-- the item of a turn as a frozen datum -/
theorem wk_turn {K : PySem.W.Frag} {F0 F H H' : Hp} {J : It} {ds : List D} {x : V} {d : D} {σ : L2.St} {env : Env} {O : Nat → Rg} (h : (H' = H ∧ Rp K cm F0 x d) ∨ ∃ T vs es, x = .ref T ∧ H T = none ∧ H' = upd H T (.tup vs) ∧ d = .tup es ∧ RpA K cm F0 vs es) (sm : Same F0 F) (s : Sts K cm F H σ env O) :
    ∃ F', Sts K cm F' H' σ env O ∧ Go (Un O) F H (Un O) F' H' ∧ Rp K cm F' x d := by
  rcases h with ⟨rfl, r⟩ | ⟨T, vs, es, rfl, hT, rfl, rfl, r⟩
  · exact ⟨F, s, Go.refl, r.mono sm⟩
  · obtain ⟨s1, g1⟩ := s.alloc (o := .tup vs) hT
    exact ⟨_, s1, g1, .tup upd_same ((r.mono sm).mono (same_new (s.fnone hT)))⟩
theorem ds_for {wi : TI} {g : TG} {tgd : Tg} {t : TS} {f : M (List D)} {body : List Stmt} {gb : G} (hi : DI X cm tg iter wi f) (hg : DG X cm B tg g tgd) (hb : DSs X cm B body t gb) (hc : X.calm = true := by rfl) (hp : PassesOwn (model X.prog X.w) X.A X.env X.xe := by exact PassesOwn.never) (hs : ∀ x, foldedSetIterable iter X.env x = pure x := by intro _; rfl) :
    DS X cm B (.For tg iter body [] pos) (tFor wi g t) (gfor f tgd gb) := ⟨ps_for hp hc hi.pe hg.pe hb.pe hs, fun F H σ env O out env' Dn s e k => by
  obtain ⟨⟨ds, env1⟩, e1, e⟩ := bind_some e
  dsimp only at e
  refine hi.sm F H σ env O ds env1 _ s e1 fun F1 H1 O1 J g1 s1 ⟨Y, W, hY⟩ => ?_
  refine for_it W (fun i σ2 H2 => ∃ F2 env2 O2, Go (Un O) F H (Un O2) F2 H2 ∧ Same F1 F2 ∧ Sts X.K cm F2 H2 σ2 env2 O2 ∧ Bor B σ σ2 ∧ forD tgd gb (ds.drop i) env2 = some (out, env'))
    ⟨F1, env1, O1, g1, Same.refl _, s1, .refl, e⟩ (fun i σ2 H2 _ ⟨F2, env2, O2, _, sm, s2, _, _⟩ => sm.trh s2.fh) ?_ ?_
  · rintro i x σ2 H2 H' hi2 ⟨F2, env2, O2, g2, sm, s2, b2, e2⟩ hy
    have hd : ds[i]? = some ds[i] := List.getElem?_eq_getElem hi2
    rw [List.drop_eq_getElem_cons hi2] at e2
    unfold forD at e2
    obtain ⟨env3, e3, e2⟩ := bind_some e2
    obtain ⟨⟨o4, env4⟩, e4, e2⟩ := bind_some e2
    obtain ⟨F3, s3, g3, r3⟩ := wk_turn (J := J) (ds := ds) (hY i H2 x H' ds[i] hd (sm.trh s2.fh) hy) sm s2
    refine hg.sm F3 H' σ2 env2 O2 x _ env3 _ s3 r3 e3 fun σ4 s4 b4 => ?_
    refine hb.sm F3 H' σ4 env3 O2 o4 env4 _ s4 e4 ?_
    have gg := g2.trans g3
    have bb := b2.trans b4
    cases o4 with
    | nx => exact fun F5 H5 σ5 O5 g5 s5 b5 => ⟨F5, env4, O5, gg.trans g5, (sm.trans g3.ff).trans g5.ff, s5, bb.trans b5, e2⟩
    | ct => exact fun F5 H5 σ5 O5 g5 s5 b5 => ⟨F5, env4, O5, gg.trans g5, (sm.trans g3.ff).trans g5.ff, s5, bb.trans b5, e2⟩
    | bk =>
      have e2 : some (Out.nx, env4) = some (out, env') := e2
      cases e2
      exact fun F5 H5 σ5 O5 g5 s5 b5 => k F5 H5 σ5 O5 (gg.trans g5) s5 (bb.trans b5)
    | rt o =>
      have e2 : some (Out.rt o, env4) = some (out, env') := e2
      cases e2
      exact fun F5 H5 σ5 v O5 R g5 s5 b5 ow n => k F5 H5 σ5 v O5 R (gg.trans g5) s5 (bb.trans b5) ow n
  · rintro σ2 H2 ⟨F2, env2, O2, g2, sm, s2, b2, e2⟩
    rw [List.drop_length] at e2
    cases e2
    exact k F2 H2 σ2 O2 g2 s2 b2⟩
/-! ### while, with so many turns at most -/
def whD (c : M Bool) (body : G) : Nat → G
  | 0, _ => none
  | n + 1, env => (c env).bind fun q => if q.1 = true then (body q.2).bind fun r => match r.1 with
      | .nx => whD c body n r.2
      | .ct => whD c body n r.2
      | .bk => some (.nx, r.2)
      | .rt o => some (.rt o, r.2)
    else some (.nx, q.2)
theorem ds_while {tt : TT} {fc : M Bool} {t : TS} {body : List Stmt} {gb : G} (n : Nat) (hc : DT X cm c tt fc) (hb : DSs X cm B body t gb) (hp : PassesOwn (model X.prog X.w) X.A X.env X.xe := by exact PassesOwn.never) :
    DS X cm B (.While c body [] pos) (tWhile tt t) (whD fc gb n) := ⟨ps_while hp hc.pe hb.pe, fun F H σ env O out env' Dn s e k => by
  refine ⟨fun m σ2 H2 => ∃ F2 env2 O2, Go (Un O) F H (Un O2) F2 H2 ∧ Sts X.K cm F2 H2 σ2 env2 O2 ∧ Bor B σ σ2 ∧ whD fc gb m env2 = some (out, env'), ⟨n, F, env, O, Go.refl, s, .refl, e⟩, ?_⟩
  rintro m σ2 H2 ⟨F2, env2, O2, g2, s2, b2, e2⟩
  cases m with
  | zero => cases e2
  | succ m =>
    unfold whD at e2
    obtain ⟨⟨kb, env3⟩, e3, e2⟩ := bind_some e2
    dsimp only at e2
    refine hc.sm F2 H2 σ2 env2 O2 kb env3 _ s2 e3 fun F3 H3 O3 g3 s3 => ?_
    cases kb with
    | false =>
      rw [if_neg Bool.false_ne_true] at e2 ⊢
      cases e2
      exact k F3 H3 σ2 O3 (g2.trans g3) s3 b2
    | true =>
      rw [if_pos rfl] at e2 ⊢
      obtain ⟨⟨o4, env4⟩, e4, e2⟩ := bind_some e2
      refine ⟨fun σ5 H5 => ∃ F5 env5 O5, Go (Un O) F H (Un O5) F5 H5 ∧ Sts X.K cm F5 H5 σ5 env5 O5 ∧ Bor B σ σ5 ∧ whD fc gb m env5 = some (out, env'), fun σ5 H5 h5 => ⟨m, Nat.lt_succ_self m, h5⟩, ?_⟩
      refine hb.sm F3 H3 σ2 env3 O3 o4 env4 _ s3 e4 ?_
      have gg := g2.trans g3
      cases o4 with
      | nx => exact fun F5 H5 σ5 O5 g5 s5 b5 => ⟨F5, env4, O5, gg.trans g5, s5, b2.trans b5, e2⟩
      | ct => exact fun F5 H5 σ5 O5 g5 s5 b5 => ⟨F5, env4, O5, gg.trans g5, s5, b2.trans b5, e2⟩
      | bk =>
        have e2 : some (Out.nx, env4) = some (out, env') := e2
        cases e2
        exact fun F5 H5 σ5 O5 g5 s5 b5 => k F5 H5 σ5 O5 (gg.trans g5) s5 (b2.trans b5)
      | rt o =>
        have e2 : some (Out.rt o, env4) = some (out, env') := e2
        cases e2
        exact fun F5 H5 σ5 v O5 R g5 s5 b5 ow n => k F5 H5 σ5 v O5 R (gg.trans g5) s5 (b2.trans b5) ow n⟩
end
end DL

/-! The data layer: comprehensions. -/
namespace DL
open PySem PySem.Spec PyProof.Rows L2

def wipeE (env : Env) : List Nat → Env
  | [] => env
  | v :: vs => (wipeE env vs).set v none
def valOnly (env : Env) (i : Nat) : Option Od := match env[i]? with
  | some (some (.fd (.val d))) => some (.fd (.val d))
  | _ => none
def restE (env0 : Env) : List Nat → Env → Env
  | [], env => env
  | v :: vs, env => (restE env0 vs env).set v (valOnly env0 v)
def lcD (vs : List Nat) (tg : Tg) (ft : M Bool) (fe : M D) : List D → List D → Env → Option (List D × Env)
  | [], acc, env => some (acc, env)
  | d :: ds, acc, env => (tg d env).bind fun e1 => (ft e1).bind fun q => if q.1 = true then (fe q.2).bind fun r => if acc.length < 16777216 then lcD vs tg ft fe ds (acc ++ [r.1]) (wipeE r.2 vs) else none else lcD vs tg ft fe ds acc (wipeE q.2 vs)
def mlc (n : Nat) (vs : List Nat) (f : M (List D)) (tg : Tg) (ft : M Bool) (fe : M D) : M Od := fun env => (f env).bind fun q => if q.2.length = n then (lcD vs tg ft fe q.1 [] (wipeE q.2 vs)).map fun r => (.fd (.lst r.1), restE q.2 vs r.2) else none
def compl (n : Nat) (vs : List Nat) : List Nat := (List.range n).filter fun i => !vs.contains i
theorem restE_len (env0 : Env) : ∀ (vs : List Nat) (env : Env), (restE env0 vs env).length = env.length
  | [], _ => rfl
  | v :: vs, env => by unfold restE; rw [List.length_set, restE_len]
theorem restE_out {env0 : Env} {i : Nat} : ∀ {vs : List Nat} {env : Env}, i ∉ vs → (restE env0 vs env)[i]? = env[i]?
  | [], _, _ => rfl
  | v :: vs, env, h => by
    unfold restE
    rw [List.getElem?_set_ne (fun e => h (by rw [e]; exact List.mem_cons_self))]
    exact restE_out fun z => h (List.mem_cons_of_mem _ z)
theorem restE_in {env0 : Env} {i : Nat} {o : Od} : ∀ {vs : List Nat} {env : Env}, i ∈ vs → (restE env0 vs env)[i]? = some (some o) → valOnly env0 i = some o
  | [], _, h, _ => absurd h (by simp)
  | v :: vs, env, h, e => by
    unfold restE at e
    by_cases hv : v = i
    · subst hv
      by_cases hl : v < (restE env0 vs env).length
      · rw [List.getElem?_set_self hl] at e
        exact Option.some.inj e
      · rw [List.getElem?_eq_none (by rw [List.length_set]; omega)] at e; cases e
    · rw [List.getElem?_set_ne hv] at e
      exact restE_in ((List.mem_cons.mp h).resolve_left fun z => hv z.symm) e
section
variable {K : PySem.W.Frag} {cm : Cm} {F H F1 H1 : Hp} {σ : L2.St} {env env1 : Env} {O O1 : Nat → Rg}
theorem Sts.unset2 (s : Sts K cm F H σ env O) (i : Nat) : Sts K cm F H (σ.set i none) (env.set i none) O := by
  refine ⟨s.fh, by rw [List.length_set, List.length_set]; exact s.len, fun j x q => ?_, s.ow, s.dj, s.mm⟩
  by_cases hj : j = i
  · subst hj
    by_cases hl : j < env.length
    · rw [List.getElem?_set_self hl] at q; cases q
    · rw [List.getElem?_eq_none (by rw [List.length_set]; omega)] at q; cases q
  · rw [List.getElem?_set_ne (Ne.symm hj)] at q ⊢
    exact s.at_ j x q
theorem Sts.wipe (s : Sts K cm F H σ env O) : ∀ vs : List Nat, Sts K cm F H (L2.wipe σ vs) (wipeE env vs) O
  | [] => s
  | v :: vs => (Sts.wipe s vs).unset2 v
theorem Sts.rest {vs : List Nat} (s0 : Sts K cm F H σ env O) (s : Sts K cm F1 H1 (L2.wipe σ vs) env1 O1) (sm : Same F F1) : Sts K cm F1 H1 σ (restE env vs env1) O1 := by
  refine ⟨s.fh, by rw [restE_len, ← s.len, wipe_length], fun i o e => ?_, s.ow, s.dj, s.mm⟩
  by_cases hi : i ∈ vs
  · have e1 := restE_in hi e
    unfold valOnly at e1
    split at e1
    · rename_i d q
      cases e1
      obtain ⟨v, ev, ow⟩ := s0.at_ i _ q
      cases ow with
      | fd r => cases r with
        | val r => exact ⟨v, ev, .fd (.val (r.mono sm))⟩
    · cases e1
  · rw [restE_out hi] at e
    obtain ⟨v, ev, ow⟩ := s.at_ i o e
    exact ⟨v, (wipe_some ev).1, ow⟩
/-- a cell that is in no slot -/
structure Apart (F H : Hp) (O : Nat → Rg) (D : Addr) (u : HO) : Prop where
  h : H D = some u
  f : F D = none
  o : ¬ Un O D
  n : NT u
theorem Apart.go {D : Addr} {u : HO} (a : Apart F H O D u) (g : Go (Un O) F H (Un O1) F1 H1) : Apart F1 H1 O1 D u := by
  refine ⟨g.hh _ ⟨u, a.n⟩ a.h a.f a.o, ?_, fun z => ?_, a.n⟩
  · cases q : F1 D with
    | none => rfl
    | some w =>
      rcases g.fr D (by rw [q]; exact fun z => nomatch z) with z | z | z | ⟨w, z, nw⟩
      · exact absurd a.f z
      · rw [a.h] at z; cases z
      · exact absurd z a.o
      · rw [a.h] at z; exact (nw (Option.some.inj z ▸ a.n)).elim
  · rcases g.ss D z with z | z
    · exact a.o z
    · rw [a.h] at z; cases z
theorem Go.lift {S S1 : Rg} (g : Go S F H S1 F1 H1) (R : Rg) : Go (fun p => R p ∨ S p) F H (fun p => R p ∨ S1 p) F1 H1 :=
  ⟨g.ff, fun p u e f n => g.hh p u e f fun z => n (.inr z), fun p z => (g.fr p z).imp id (.imp id (.imp .inr id)), fun p z => z.elim (fun z => .inl (.inl z)) fun z => (g.ss p z).imp .inr id, g.al⟩
theorem Apart.put {D : Addr} {u w : HO} (a : Apart F H O D u) (s : Sts K cm F H σ env O) (hw : NT w := by first | exact nt_l | exact nt_k | exact nt_t | exact nt_i) : Sts K cm F (upd H D w) σ env O ∧ Go (fun p => p = D ∨ Un O p) F H (fun p => p = D ∨ Un O p) F (upd H D w) ∧ Apart F (upd H D w) O D w := by
  refine ⟨⟨fun p x e => ?_, s.len, fun i o e => ?_, fun i p z => ?_, s.dj, s.mm.upd a.f⟩, ⟨Same.refl _, fun p x e _ n => ?_, fun p z => .inl z, fun p z => .inl z, fun p z => ?_⟩, ⟨upd_same, a.f, a.o, hw⟩⟩
  · rw [upd_ne (ne_of_none e a.f)]; exact s.fh _ _ e
  · obtain ⟨v, ev, ow⟩ := s.at_ i o e
    exact ⟨v, ev, ow.mono (Same.refl _) (fun q y e2 z => by rw [upd_ne (show q ≠ D from fun h => a.o ⟨i, by rw [← h]; exact z⟩)]; exact e2) fun _ z => z⟩
  · obtain ⟨h1, x, h2⟩ := s.ow i p z
    exact ⟨h1, x, by rw [upd_ne (show p ≠ D from fun h => a.o ⟨i, by rw [← h]; exact z⟩)]; exact h2⟩
  · rw [upd_ne (show p ≠ D from fun h => n (.inl h))]; exact e
  · by_cases h : p = D
    · subst h; rw [upd_same]; exact fun z => nomatch z
    · rw [upd_ne h]; exact z
theorem wipe_in {i n : Nat} (τ : L2.St) (vs : List Nat) : i ∈ vs → τ.length = n → (L2.wipe τ vs)[i]? = if i < n then some none else none := by
  induction vs with
  | nil => intro h; exact absurd h (by simp)
  | cons v vs ih =>
    intro h ht
    unfold L2.wipe
    by_cases hv : v = i
    · subst hv
      by_cases c : v < n
      · rw [if_pos c, List.getElem?_set_self (by rw [wipe_length, ht]; exact c)]
      · rw [if_neg c, List.getElem?_eq_none (by rw [List.length_set, wipe_length, ht]; omega)]
    · rw [List.getElem?_set_ne hv]
      exact ih ((List.mem_cons.mp h).resolve_left fun z => hv z.symm) ht
theorem wipe_same {σ2 : L2.St} {n : Nat} {vs : List Nat} (hn : σ.length = n) (hb : Bor (compl n vs) (L2.wipe σ vs) σ2) : L2.wipe σ2 vs = L2.wipe σ vs := by
  have hl : σ2.length = n := by rw [hb.ln, wipe_length]; exact hn
  refine List.ext_getElem? fun i => ?_
  by_cases hi : i ∈ vs
  · rw [wipe_in σ2 vs hi hl, wipe_in σ vs hi hn]
  · rw [wipe_out hi]
    by_cases c : i < n
    · exact hb.st i (List.mem_filter.mpr ⟨List.mem_range.mpr c, by simpa using hi⟩)
    · rw [List.getElem?_eq_none (by omega), List.getElem?_eq_none (by rw [wipe_length]; omega)]
end
structure DTs (X : Cx) (cm : Cm) (ifs : List Expr) (te : TT) (f : M Bool) : Prop where
  pe : PTs X ifs te
  sm : SmT X.K cm te f
section
variable {X : Cx} {cm : Cm} {elt tg iter c : Expr} {ifs : List Expr} {scope : Scope} {own : List (Str × Nat)} {pos : Pos} {wi : TI} {g : TG} {tt : TT} {te : TE} {f : M (List D)} {tgd : Tg} {ft : M Bool} {fe : M D}
theorem dts_nil : DTs X cm [] tYes (mr true) := ⟨pts_nil, fun F H σ env O d env' Q s e k => by cases e; exact k.here s⟩
theorem dts_one (h : DT X cm c tt ft) : DTs X cm [c] tt ft := ⟨pts_one h.pe, h.sm⟩
theorem sm_lc {n : Nat} {K : PySem.W.Frag} {vs : List Nat} (hi : SmI K cm wi f) (hg : SmG K cm (compl n vs) g tgd) (ht : SmT K cm tt ft) (he : Sm K cm te fe) : SmO K cm (tLc wi g tt te vs) (mlc n vs f tgd ft fe) := fun F H σ env O o env' Q s e k => by
  obtain ⟨⟨ds, env1⟩, e1, e⟩ := bind_some e
  have hen : env1.length = n := by
    by_cases c : env1.length = n
    · exact c
    · rw [if_neg c] at e; cases e
  rw [if_pos hen] at e
  obtain ⟨⟨ys, envf⟩, e2, e3⟩ := map_some e
  cases e3
  dsimp only at e2
  refine hi F H σ env O ds env1 _ s e1 fun F1 H1 O1 J g1 s1 ⟨Y, W, hY⟩ D hD => ?_
  obtain ⟨sf, gf, f1, f2⟩ := s1.fresh (o := .lst []) hD
  refine lc_it W (fun i H2 => ∃ F2 env2 O2 acc ws, Go (Un O) F H (fun p => p = D ∨ Un O2 p) F2 H2 ∧ Same F1 F2 ∧ Sts K cm F2 H2 (wipe σ vs) env2 O2 ∧ Apart F2 H2 O2 D (.lst ws) ∧ RpA K cm F2 ws acc ∧ lcD vs tgd ft fe (ds.drop i) acc env2 = some (ys, envf))
    ⟨F1, wipeE env1 vs, O1, [], [], g1.trans gf, Same.refl _, sf.wipe vs, ⟨upd_same, f1, f2, nt_l⟩, .nil, e2⟩ (fun i H2 _ ⟨F2, env2, O2, _, _, _, sm, s2, _⟩ => sm.trh s2.fh) ?_ ?_
  · rintro i x H2 H' hi2 ⟨F2, env2, O2, acc, ws, g2, sm, s2, ap, ra, e4⟩ hy
    have hd : ds[i]? = some ds[i] := List.getElem?_eq_getElem hi2
    rw [List.drop_eq_getElem_cons hi2] at e4
    unfold lcD at e4
    obtain ⟨env3, e5, e4⟩ := bind_some e4
    obtain ⟨⟨kb, env4⟩, e6, e4⟩ := bind_some e4
    dsimp only at e4
    obtain ⟨F3, s3, g3, r3⟩ := wk_turn (J := J) (ds := ds) (hY i H2 x H' ds[i] hd (sm.trh s2.fh) hy) sm s2
    have ap3 := ap.go g3
    have gg3 := g2.trans ((g3.lift fun p => p = D))
    refine hg F3 H' (wipe σ vs) env2 O2 x _ env3 _ s3 r3 e5 fun σ4 s4 b4 => ?_
    have ew : wipe σ4 vs = wipe σ vs := wipe_same (by rw [s1.len]; exact hen) b4
    refine ⟨ew, ht F3 H' σ4 env3 O2 kb env4 _ s4 e6 fun F5 H5 O5 g5 s5 => ?_⟩
    have ap5 := ap3.go g5
    have gg5 := gg3.trans (g5.lift fun p => p = D)
    have sm5 := (sm.trans g3.ff).trans g5.ff
    cases kb with
    | false =>
      rw [if_neg Bool.false_ne_true] at e4 ⊢
      refine ⟨F5, wipeE env4 vs, O5, acc, ws, gg5, sm5, ?_, ap5, (ra.mono g3.ff).mono g5.ff, e4⟩
      have := s5.wipe vs
      rw [ew] at this
      exact this
    | true =>
      rw [if_pos rfl] at e4 ⊢
      obtain ⟨⟨y, env6⟩, e7, e4⟩ := bind_some e4
      dsimp only at e4
      have hz : acc.length < 16777216 := by
        by_cases c : acc.length < 16777216
        · exact c
        · rw [if_neg c] at e4; cases e4
      rw [if_pos hz] at e4
      refine he F5 H5 σ4 env4 O5 y env6 _ s5 e7 fun F6 H6 v O6 g6 s6 r6 => ?_
      have ap6 := ap5.go g6
      have ra6 := ((ra.mono g3.ff).mono g5.ff).mono g6.ff
      refine ⟨ws, ap6.h, szlt (by rw [ra6.len]; exact hz), ?_⟩
      obtain ⟨s7, g7, ap7⟩ := ap6.put (w := .lst (ws ++ [v])) s6
      refine ⟨F6, wipeE env6 vs, O6, acc ++ [y], ws ++ [v], (gg5.trans (g6.lift fun p => p = D)).trans g7, sm5.trans g6.ff, ?_, ap7, ra6.app (.cons r6 .nil), e4⟩
      have := s7.wipe vs
      rw [ew] at this
      exact this
  · rintro H2 ⟨F2, env2, O2, acc, ws, g2, sm, s2, ap, ra, e4⟩
    rw [List.drop_length] at e4
    cases e4
    refine k F2 H2 (.ref D) O2 (fun p => p = D) g2 (s1.rest s2 sm) (.fd (.lst ap.h ra rfl)) fun p e => ?_
    subst e
    exact ⟨ap.f, ⟨⟨_, ap.n⟩, ap.h⟩, ap.o⟩

/-- what a meaning alone tells of a value, a test, a target -/
def teOf (K : PySem.W.Frag) (cm : Cm) (f : M D) : TE := fun σ H Q => ∃ F env O d env', Sts K cm F H σ env O ∧ f env = some (d, env') ∧ Kv K cm F H σ O env' d Q
def ttOf (K : PySem.W.Frag) (cm : Cm) (f : M Bool) : TT := fun σ H Q => ∃ F env O d env', Sts K cm F H σ env O ∧ f env = some (d, env') ∧ Kt K cm F H σ O env' d Q
def tgOf (K : PySem.W.Frag) (cm : Cm) (B : List Nat) (tg : Tg) : TG := fun x σ H Q => ∃ F env O d env', Sts K cm F H σ env O ∧ Rp K cm F x d ∧ tg d env = some env' ∧ ∀ σ', Sts K cm F H σ' env' O → Bor B σ σ' → Q σ' H
theorem de_cn {X : Cx} {e : Expr} {f : M D} (h : ∃ te, DE X cm e te f) : DE X cm e (teOf X.K cm f) f := by
  obtain ⟨te, h⟩ := h
  exact ⟨⟨fun pins s σ H Q I ⟨F, env, O, d, env', st, e1, k⟩ => h.pe.run pins s σ H Q I (h.sm F H σ env O d env' Q st e1 k)⟩, fun F H σ env O d env' Q s e k => ⟨F, env, O, d, env', s, e, k⟩⟩
theorem dts_cn {X : Cx} {f : M Bool} (h : ∃ te, DTs X cm ifs te f) : DTs X cm ifs (ttOf X.K cm f) f := by
  obtain ⟨te, h⟩ := h
  exact ⟨⟨fun pins s σ H Q I ⟨F, env, O, d, env', st, e1, k⟩ => h.pe.run pins s σ H Q I (h.sm F H σ env O d env' Q st e1 k)⟩, fun F H σ env O d env' Q s e k => ⟨F, env, O, d, env', s, e, k⟩⟩
theorem dg_cn {X : Cx} {B : List Nat} {e : Expr} {f : Tg} (h : ∃ te, DG X cm B e te f) : DG X cm B e (tgOf X.K cm B f) f := by
  obtain ⟨te, h⟩ := h
  exact ⟨⟨fun pins s σ H v u Q I r ⟨F, env, O, d, env', st, rp, e1, k⟩ => h.pe.run pins s σ H v u Q I r (h.sm F H σ env O v d env' Q st rp e1 k)⟩, fun F H σ env O x d env' Q s r e k => ⟨F, env, O, d, env', s, r, e, k⟩⟩
theorem do_lc {n : Nat} {vs : List Nat} (hN : X.N.Nodup) (hi : DI X cm tg iter wi f) (ok : BlkOk X.N X.env.scope scope own)
    (hg : ∀ (s : Shared) (H : Hp) (C : Addr) (cl : List (Str × Addr)) (fp : List Addr), ∃ g, DG (X.blk s H scope (compEnvC scope cl C X.env) fp) cm (compl n vs) tg g tgd) (ht : ∀ (s : Shared) (H : Hp) (C : Addr) (cl : List (Str × Addr)) (fp : List Addr), ∃ tt, DTs (X.blk s H scope (compEnvC scope cl C X.env) fp) cm ifs tt ft)
    (he : ∀ (s : Shared) (H : Hp) (C : Addr) (cl : List (Str × Addr)) (fp : List Addr), ∃ te, DE (X.blk s H scope (compEnvC scope cl C X.env) fp) cm elt te fe) (hvs : own.map (·.2) = vs := by rfl) (hc : X.calm = true := by rfl) (hs : ∀ x, foldedSetIterable iter X.env x = pure x := by intro _; rfl) :
    DO X cm (.ListComp elt [⟨tg, iter, ifs, 0⟩] scope pos) (tLc wi (tgOf X.K cm (compl n vs) tgd) (ttOf X.K cm ft) (teOf X.K cm fe) vs) (mlc n vs f tgd ft fe) := by
  subst hvs
  have hg := fun s H C cl fp => dg_cn (hg s H C cl fp)
  have ht := fun s H C cl fp => dts_cn (ht s H C cl fp)
  have he := fun s H C cl fp => de_cn (he s H C cl fp)
  exact ⟨pe_lc hc hN hi.pe ok (fun s H C cl fp => (hg s H C cl fp).pe) (fun s H C cl fp => (ht s H C cl fp).pe) (fun s H C cl fp => (he s H C cl fp).pe) hs, sm_lc hi.sm (hg X.s_0 X.H_0 0 [] []).sm (ht X.s_0 X.H_0 0 [] []).sm (he X.s_0 X.H_0 0 [] []).sm⟩
end
end DL

/-! The data layer: defs and calls. -/
namespace DL
open PySem PySem.Spec PyProof.Rows L2

section
variable {X : Cx} {cm : Cm} {B : List Nat} {elt tg iter c : Expr} {ifs : List Expr} {scope : Scope} {own : List (Str × Nat)} {pos : Pos} {wi : TI} {g : TG} {tt : TT} {te : TE} {f : M (List D)} {tgd : Tg} {ft : M Bool} {fe : M D}
/-- y = [elt for ..] -/
theorem ds_setLc {i n : Nat} {vs : List Nat} {y : Str} {py spos : Pos} (hN : X.N.Nodup) (hsw : swapsWith (.ListComp elt [⟨tg, iter, ifs, 0⟩] scope pos) (some (.Name y py)) spos.line X.env = pure true) (hi : DI X cm tg iter wi f) (ok : BlkOk X.N X.env.scope scope own)
    (hg : ∀ (s : Shared) (H : Hp) (C : Addr) (cl : List (Str × Addr)) (fp : List Addr), ∃ g, DG (X.blk s H scope (compEnvC scope cl C X.env) fp) cm (compl n vs) tg g tgd) (ht : ∀ (s : Shared) (H : Hp) (C : Addr) (cl : List (Str × Addr)) (fp : List Addr), ∃ tt, DTs (X.blk s H scope (compEnvC scope cl C X.env) fp) cm ifs tt ft)
    (he : ∀ (s : Shared) (H : Hp) (C : Addr) (cl : List (Str × Addr)) (fp : List Addr), ∃ te, DE (X.blk s H scope (compEnvC scope cl C X.env) fp) cm elt te fe) (hvs : own.map (·.2) = vs := by rfl) (hB : i ∉ B := by decide) (hy : X.N[i]? = some y := by rfl) (hyl : X.env.scope.names.lookup y = some .local := by rfl) (hc : X.calm = true := by rfl) (hs : ∀ x, foldedSetIterable iter X.env x = pure x := by intro _; rfl) :
    DS X cm B (.Assign [.Name y py] (.ListComp elt [⟨tg, iter, ifs, 0⟩] scope pos) spos) (tAsg (tLc wi (tgOf X.K cm (compl n vs) tgd) (ttOf X.K cm ft) (teOf X.K cm fe) vs) (gName i)) (gst i (mlc n vs f tgd ft fe)) := by
  subst hvs
  have hg := fun s H C cl fp => dg_cn (hg s H C cl fp)
  have ht := fun s H C cl fp => dts_cn (ht s H C cl fp)
  have he := fun s H C cl fp => de_cn (he s H C cl fp)
  exact ⟨ps_setLc hc hN hy hyl hsw hi.pe ok (fun s H C cl fp => (hg s H C cl fp).pe) (fun s H C cl fp => (ht s H C cl fp).pe) (fun s H C cl fp => (he s H C cl fp).pe) hs, sms_asg (sm_lc hi.sm (hg X.s_0 X.H_0 0 [] []).sm (ht X.s_0 X.H_0 0 [] []).sm (he X.s_0 X.H_0 0 [] []).sm) hB⟩
end

/-! ### what a def does with its arguments -/
abbrev Fn := Env → Option (Od × Env)
def outA (B : List Nat) (args env : Env) : Env := (List.range args.length).map fun i => if B.contains i = true then (env[i]?).join else valOnly args i
def runD (np n : Nat) (B : List Nat) (g : G) : Fn := fun args => if args.length = np then (g (args ++ List.replicate (n - np) none)).bind fun q => match q.1 with
    | .nx => some (.fd (.val .non), outA B args q.2)
    | .rt o => some (o, outA B args q.2)
    | _ => none
  else none
def spD (K : PySem.W.Frag) (cm : Cm) (p : Fn) (n : Nat) : Sp := fun vs H Q _ => vs.length = n ∧ ∃ F args O o args', Sts K cm F H (vs.map some) args O ∧ p args = some (o, args') ∧ Ko K cm F H (vs.map some) O args' o Q
theorem spD_imp {K : PySem.W.Frag} {cm : Cm} {p p' : Fn} {n : Nat} (h : ∀ args r, p' args = some r → p args = some r) : ∀ vs H Q E, spD K cm p' n vs H Q E → spD K cm p n vs H Q E := fun vs H Q E ⟨hl, F, args, O, o, args', s, e, k⟩ => ⟨hl, F, args, O, o, args', s, h _ _ e, k⟩
section
variable {K : PySem.W.Frag} {cm : Cm} {F H : Hp} {σ : L2.St} {env : Env} {O : Nat → Rg}
theorem Sts.more (s : Sts K cm F H σ env O) (m : Nat) : Sts K cm F H (σ ++ List.replicate m none) (env ++ List.replicate m none) O := by
  refine ⟨s.fh, by rw [List.length_append, List.length_append, s.len, List.length_replicate, List.length_replicate], fun i o e => ?_, s.ow, s.dj, s.mm⟩
  by_cases hi : i < env.length
  · rw [List.getElem?_append_left hi] at e
    rw [List.getElem?_append_left (by rw [s.len]; exact hi)]
    exact s.at_ i o e
  · rw [List.getElem?_append_right (by omega), List.getElem?_replicate] at e
    by_cases c : i - env.length < m
    · rw [if_pos c] at e; cases e
    · rw [if_neg c] at e; cases e
/-- the arguments behind the body -/
theorem Sts.back {F1 H1 : Hp} {σ1 : L2.St} {env1 : Env} {O1 : Nat → Rg} {B : List Nat} {m : Nat} (s : Sts K cm F H σ env O) (s1 : Sts K cm F1 H1 σ1 env1 O1) (b : Bor B (σ ++ List.replicate m none) σ1) (ff : Same F F1) :
    Sts K cm F1 H1 σ (outA B env env1) (fun i p => B.contains i = true ∧ i < env.length ∧ O1 i p) := by
  have hl : (outA B env env1).length = env.length := by unfold outA; rw [List.length_map, List.length_range]
  refine ⟨s1.fh, by rw [hl]; exact s.len, fun i o e => ?_, fun i p z => s1.ow i p z.2.2, fun i j p z w => s1.dj i j p z.2.2 w.2.2, s1.mm⟩
  have hi : i < env.length := by rw [← hl]; exact (List.getElem?_eq_some_iff.mp e).1
  unfold outA at e
  rw [List.getElem?_map, List.getElem?_range hi] at e
  have e : (if B.contains i = true then (env1[i]?).join else valOnly env i) = some o := Option.some.inj e
  by_cases c : B.contains i = true
  · rw [if_pos c] at e
    have e2 : env1[i]? = some (some o) := by
      cases q : env1[i]? with
      | none => rw [q] at e; cases e
      | some x => rw [q] at e; exact congrArg some e
    obtain ⟨v, ev, ow⟩ := s1.at_ i o e2
    refine ⟨v, ?_, ow.mono (Same.refl _) (fun _ _ q _ => q) fun p z => ⟨c, hi, z⟩⟩
    have := b.st i (by simpa using c)
    rw [List.getElem?_append_left (by rw [s.len]; exact hi)] at this
    rw [← this]; exact ev
  · rw [if_neg c] at e
    unfold valOnly at e
    split at e
    · rename_i d q
      cases e
      obtain ⟨v, ev, ow⟩ := s.at_ i _ q
      cases ow with
      | fd r => cases r with
        | val r => exact ⟨v, ev, .fd (.val (r.mono ff))⟩
    · cases e
theorem un_sub {O1 : Nat → Rg} {B : List Nat} {n : Nat} {p : Addr} (h : Un (fun i p => B.contains i = true ∧ i < n ∧ O1 i p) p) : Un O1 p := let ⟨i, _, _, z⟩ := h; ⟨i, z⟩
end
section
variable {P : Program} {w : World} {K : PySem.W.Frag} {mg : Str → Option Value} {base : Heap} {cm : Cm}
/-- THE RULE for a def: its body's meaning is what it does with its arguments -/
theorem fn_d {x qual : Str} {st : Stmt} {f : Addr} {fd : FuncData} {N ps : List Str} {k : Nat} {B : List Nat} {g : G} {ts : TS} (Fu : Fun K x qual st f fd) (S : FnScope N ps (defScope st)) (hle : ps.length ≤ N.length)
    (hbody : ∀ (cdv : Value) (A : Around) (outer : List PySem.Env) (s : Shared) (H : Hp) (E : XK), Room k (A.deeper (envOfC qual (defScope st) s.heap.objs.size f cdv)) → DSs (cxOf CX0 P w K mg base N qual (defScope st) f cdv A outer s H E).nox cm B (defBody st) ts g) :
    FnOk P w K mg base CX0 (k + 1) f fd ps (spD K cm (runD ps.length N.length B g) ps.length) := by
  refine Fu.ok S (fun vs H Q E h => h.1) fun cdv A outer s H vs Q E hr h => ?_
  obtain ⟨hl, F, args, O, o, args', s1, e, kk⟩ := h
  have D := hbody cdv A outer s H E hr
  refine ⟨ts, D.pe, ?_⟩
  unfold runD at e
  have ha : args.length = ps.length := by rw [← s1.len, List.length_map]; exact hl
  rw [if_pos ha] at e
  obtain ⟨⟨out, env1⟩, e1, e2⟩ := bind_some e
  have es : L2.start N vs = vs.map some ++ List.replicate (N.length - ps.length) none := by unfold L2.start; rw [hl]
  rw [es]
  refine D.sm F H _ _ O out env1 _ (s1.more (N.length - ps.length)) e1 ?_
  cases out with
  | nx =>
    have e2 : some ((.fd (.val .non) : Od), outA B args env1) = some (o, args') := e2
    cases e2
    intro F' H' σ' O' g' s' b'
    exact kk F' H' .non _ (fun _ => False) (g'.sub fun p z => z.elim False.elim un_sub) (s1.back s' b' g'.ff) (.fd (.val .non)) fun p z => z.elim
  | rt o1 =>
    have e2 : some (o1, outA B args env1) = some (o, args') := e2
    cases e2
    intro F' H' σ' v O' R g' s' b' ow n
    exact kk F' H' v _ R (g'.sub fun p z => z.imp id un_sub) (s1.back s' b' g'.ff) ow fun p z => ⟨(n p z).1, (n p z).2.1, fun w => (n p z).2.2 (un_sub w)⟩
  | bk => cases e2
  | ct => cases e2
end
/-! ### calls by values -/
def vals (ds : List D) : Env := ds.map fun d => some (.fd (.val d))
theorem sts_vals {K : PySem.W.Frag} {cm : Cm} {F H : Hp} (fh : SmH F H) (mm : MM K cm F H) : ∀ {vs : List V} {ds : List D}, RpA K cm F vs ds → Sts K cm F H (vs.map some) (vals ds) (fun _ _ => False) := fun {vs ds} r => by
  refine ⟨fh, by unfold vals; rw [List.length_map, List.length_map, r.len], fun i o e => ?_, fun i p z => z.elim, fun i j p z => z.elim, mm⟩
  unfold vals at e
  rw [List.getElem?_map] at e
  obtain ⟨d, e1, e2⟩ := map_some e
  cases e2
  obtain ⟨v, h1, h2⟩ := r.getD e1
  exact ⟨v, by rw [List.getElem?_map, h1]; rfl, .fd (.val h2)⟩
section
variable {K : PySem.W.Frag} {cm : Cm} {F H F1 H1 F2 H2 : Hp} {σ σc : L2.St} {env envc : Env} {O Oc : Nat → Rg} {R : Rg} {v : V} {o : Od} {Q : VK}
/-- behind a call that was handed values alone -/
theorem Sts.callV (s : Sts K cm F H σ env O) (g : Go (Un fun _ _ => False) F H (fun p => R p ∨ Un Oc p) F1 H1) (fh : SmH F1 H1) (mm : MM K cm F1 H1) : Sts K cm F1 H1 σ env O ∧ Go (Un O) F H (fun p => R p ∨ Un O p) F1 H1 := by
  have nn : ∀ p, ¬ Un (fun (_ : Nat) (_ : Addr) => False) p := fun p ⟨_, z⟩ => z
  refine ⟨⟨fh, s.len, fun i o e => ?_, fun i p z => ?_, s.dj, mm⟩, ⟨g.ff, fun p u e f _ => g.hh p u e f (nn p), fun p z => (g.fr p z).imp id (.imp id (.imp (fun z => absurd z (nn p)) id)), fun p z => ?_, g.al⟩⟩
  · obtain ⟨w, ev, ow⟩ := s.at_ i o e
    exact ⟨w, ev, ow.mono g.ff (fun p u q z => g.keepO q (s.ow _ _ z) (nn p)) fun _ z => z⟩
  · obtain ⟨a, u, b⟩ := s.ow i p z
    refine ⟨?_, u, g.hh p u b a (nn p)⟩
    cases q : F1 p with
    | none => rfl
    | some w =>
      rcases g.fr p (by rw [q]; exact fun z => nomatch z) with z | z | z | ⟨w, z, nw⟩
      · exact absurd a z
      · rw [b] at z; cases z
      · exact absurd z (nn p)
      · rw [b] at z; exact (nw (Option.some.inj z ▸ u.2)).elim
  · rcases z with z | z
    · rcases g.ss p (.inl z) with w | w
      · exact absurd w (nn p)
      · exact .inr w
    · exact .inl z
theorem Ko.callV (k : Ko K cm F H σ O env o Q) (s : Sts K cm F H σ env O) {vs : List V} {args' : Env} : Ko K cm F H (vs.map some) (fun _ _ => False) args' o Q := fun F1 H1 v Oc R g sc ow n => by
  obtain ⟨s1, g1⟩ := s.callV g sc.fh sc.mm
  refine k F1 H1 v O R g1 s1 ow fun p z => ⟨(n p z).1, (n p z).2.1, fun w => ?_⟩
  rcases g.ss p (.inl z) with ⟨_, y⟩ | y
  · exact y
  · obtain ⟨i, y2⟩ := w
    obtain ⟨_, u, b⟩ := s.ow i p y2
    rw [y] at b; cases b
/-- slot i is lent to a call as its first argument -/
theorem Sts.lend (s : Sts K cm F H σ env O) {i : Nat} {v0 : V} {o0 : Od} (e : env[i]? = some (some o0)) (ev : σ[i]? = some (some v0)) {vs : List V} {ds : List D} (r : RpA K cm F vs ds) :
    Sts K cm F H ((v0 :: vs).map some) (some o0 :: vals ds) (fun j p => j = 0 ∧ O i p) := by
  have sv := sts_vals (cm := cm) s.fh s.mm r
  refine ⟨s.fh, by rw [List.length_map, List.length_cons, List.length_cons]; have := sv.len; rw [List.length_map] at this; rw [this], fun j o q => ?_, fun j p z => s.ow i p z.2, fun j l p z w => z.1.trans w.1.symm, s.mm⟩
  cases j with
  | zero =>
    cases q
    obtain ⟨v, ev', ow⟩ := s.at_ i o0 e
    rw [ev] at ev'; cases ev'
    exact ⟨v0, rfl, ow.mono (Same.refl _) (fun _ _ q _ => q) fun p z => ⟨rfl, z⟩⟩
  | succ j =>
    obtain ⟨v, e1, ow⟩ := sv.at_ j o q
    exact ⟨v, e1, ow.mono (Same.refl _) (fun _ _ q _ => q) fun p z => z.elim⟩
theorem Ko.lend {o1 : Option Od} {rest : Env} {i : Nat} {v0 : V} {vs : List V} (k : Ko K cm F H σ O (env.set i o1) o Q) (s : Sts K cm F H σ env O) (ev : σ[i]? = some (some v0)) (hi : i < env.length) :
    Ko K cm F H ((v0 :: vs).map some) (fun j p => j = 0 ∧ O i p) (o1 :: rest) o Q := fun F1 H1 v Oc R g sc ow n => by
  have ui : ∀ p, Un (fun j p => j = 0 ∧ O i p) p → O i p := fun p ⟨_, _, z⟩ => z
  have oth : ∀ j p, j ≠ i → O j p → ¬ Un (fun j p => j = 0 ∧ O i p) p := fun j p hj z w => hj (s.dj j i p z (ui p w))
  have hOc : ∀ p, Oc 0 p → O i p ∨ H p = none := fun p z => (g.ss p (.inr ⟨0, z⟩)).imp (ui p) id
  refine k F1 H1 v (fun j p => (j = i ∧ Oc 0 p) ∨ (j ≠ i ∧ O j p)) R ?_ ?_ ow ?_
  · refine ⟨g.ff, fun p u e f z => g.hh p u e f fun w => z ⟨i, ui p w⟩, fun p z => (g.fr p z).imp id (.imp id (.imp (fun w => ⟨i, ui p w⟩) id)), fun p z => ?_, g.al⟩
    rcases z with z | ⟨j, ⟨_, z⟩ | ⟨_, z⟩⟩
    · exact (g.ss p (.inl z)).imp (fun w => ⟨i, ui p w⟩) id
    · exact (hOc p z).imp (fun w => ⟨i, w⟩) id
    · exact .inl ⟨j, z⟩
  · refine ⟨sc.fh, by rw [List.length_set]; exact s.len, fun j o q => ?_, fun j p z => ?_, fun j l p z w => ?_, sc.mm⟩
    · by_cases hj : j = i
      · subst hj
        rw [List.getElem?_set_self hi] at q
        have q := Option.some.inj q
        subst q
        obtain ⟨u, e1, ow1⟩ := sc.at_ 0 o rfl
        have e1 : some (some v0) = some (some u) := e1
        cases e1
        exact ⟨v0, ev, ow1.mono (Same.refl _) (fun _ _ q _ => q) fun p z => .inl ⟨rfl, z⟩⟩
      · rw [List.getElem?_set_ne (Ne.symm hj)] at q
        obtain ⟨u, e1, ow1⟩ := s.at_ j o q
        exact ⟨u, e1, ow1.mono g.ff (fun p y e z => g.keepO e (s.ow _ _ z) (oth j p hj z)) fun p z => .inr ⟨hj, z⟩⟩
    · rcases z with ⟨_, z⟩ | ⟨hj, z⟩
      · exact sc.ow 0 p z
      · obtain ⟨a, u, b⟩ := s.ow j p z
        refine ⟨?_, u, g.hh p u b a (oth j p hj z)⟩
        cases q : F1 p with
        | none => rfl
        | some w =>
          rcases g.fr p (by rw [q]; exact fun z => nomatch z) with y | y | y | ⟨w, y, nw⟩
          · exact absurd a y
          · rw [b] at y; cases y
          · exact absurd y (oth j p hj z)
          · rw [b] at y; exact (nw (Option.some.inj y ▸ u.2)).elim
    · have cross : ∀ m, m ≠ i → Oc 0 p → O m p → False := fun m hm z w => by
        rcases hOc p z with y | y
        · exact hm (s.dj m i p w y)
        · obtain ⟨_, u, b⟩ := s.ow m p w
          rw [y] at b; cases b
      rcases z with ⟨hj, z⟩ | ⟨hj, z⟩ <;> rcases w with ⟨hl, w⟩ | ⟨hl, w⟩
      · rw [hj, hl]
      · exact (cross l hl z w).elim
      · exact (cross j hj w z).elim
      · exact s.dj j l p z w
  · intro p z
    refine ⟨(n p z).1, (n p z).2.1, fun ⟨j, w⟩ => ?_⟩
    rcases w with ⟨_, w⟩ | ⟨hj, w⟩
    · exact (n p z).2.2 ⟨0, w⟩
    · rcases g.ss p (.inl z) with y | y
      · exact oth j p hj w y
      · obtain ⟨_, u, b⟩ := s.ow j p w
        rw [y] at b; cases b
end
section
variable {X : Cx} {cm : Cm} {a b c e : Expr} {es : List Expr} {te ta tb tc : TE} {pos : Pos} {t : TA} {fa : M (List D)} {p : Fn} {n : Nat} {k : Nat} {f C : Addr} {fd : FuncData} {ps : List Str} {x : Str} {pp : Pos} {i : Nat}
theorem smo_cv {E : XK} (ha : SmA X.K cm t fa) : SmO X.K cm (tCall (spD X.K cm p n) [] E t) (fun env => (fa env).bind fun q => if q.1.length = n then (p (vals q.1)).map fun r => (r.1, q.2) else none) := fun F H σ env O o env' Q s e kk => by
  obtain ⟨⟨ds, env1⟩, e1, e⟩ := bind_some e
  dsimp only at e
  have hl : ds.length = n := by
    by_cases c : ds.length = n
    · exact c
    · rw [if_neg c] at e; cases e
  rw [if_pos hl] at e
  obtain ⟨⟨o1, args'⟩, e2, e3⟩ := map_some e
  cases e3
  refine ha F H σ env O ds _ _ s e1 fun F1 H1 vs O1 g1 s1 r => ⟨by rw [List.append_nil, r.len]; exact hl, F1, vals ds, _, _, args', by rw [List.append_nil]; exact sts_vals s1.fh s1.mm r, e2, ?_⟩
  rw [List.append_nil]
  exact (kk.go g1).callV s1
def mcl (p : Fn) (n : Nat) (fa : M (List D)) : M Od := fun env => (fa env).bind fun q => if q.1.length = n then (p (vals q.1)).map fun r => (r.1, q.2) else none
/-- f(e, ..), values alone -/
theorem do_call (Fo : FnOk X.prog X.w X.K X.mg X.base CX0 k f fd ps (spD X.K cm p n)) (hr : Room k X.A) (hm : X.mg x = some (.ref f)) (hk : PySem.W.keepIn X.K (.ref f) = true) (hb : Binds X.K fd ps []) (ha : DA X cm (e :: es) t fa) (hg : Gl X x := by rfl) (hdb : (x == ("__debug__" : Str)) = false := by decide) (he : starEach (e :: es) X.env = (false, eval e X.env) :: starEach es X.env := by rfl) (hpl : (backTo pos (starEach es X.env)).any (·.1) = false := by rfl) :
    DO X cm (.Call (.Name x pp) (e :: es) [] pos) (tCall (spD X.K cm p n) [] E0 t) (mcl p n fa) := ⟨pe_call Fo hr hg hm hk hb .nil pass0 ha.pe hdb he hpl, smo_cv ha.sm⟩
theorem do_call0 (Fo : FnOk X.prog X.w X.K X.mg X.base CX0 k f fd ps (spD X.K cm p n)) (hr : Room k X.A) (hm : X.mg x = some (.ref f)) (hk : PySem.W.keepIn X.K (.ref f) = true) (hb : Binds X.K fd ps []) (hg : Gl X x := by rfl) (hdb : (x == ("__debug__" : Str)) = false := by decide) :
    DO X cm (.Call (.Name x pp) [] [] pos) (tCall (spD X.K cm p n) [] E0 tNil) (mcl p n anil) := ⟨pe_call0 Fo hr hg hm hk hb .nil pass0 hdb, smo_cv da_nil.sm⟩
/-- what slot i holds is lent as the first argument -/
def mcb1 (i : Nat) (p : Fn) (n : Nat) (fa : M (List D)) : M Od := fun env => ((env[i]?).join).bind fun _ => (fa env).bind fun q => ((q.2[i]?).join).bind fun o => if q.1.length + 1 = n then (p (some o :: vals q.1)).bind fun r => (r.2[0]?).map fun o1 => (r.1, q.2.set i o1) else none
theorem join_some {α : Type} {o : Option (Option α)} {a : α} (h : o.join = some a) : o = some (some a) := by
  cases o with
  | none => cases h
  | some x => exact congrArg some h
theorem smo_cb1 {E : XK} (ha : SmA X.K cm t fa) : SmO X.K cm (tCall (spD X.K cm p n) [] E (tCons (tVar i) t)) (mcb1 i p n fa) := fun F H σ env O o env' Q s e kk => by
  obtain ⟨o0, e0, e⟩ := bind_some e
  obtain ⟨⟨ds, env1⟩, e1, e⟩ := bind_some e
  obtain ⟨o2, e2, e⟩ := bind_some e
  dsimp only at e
  have hl : ds.length + 1 = n := by
    by_cases c : ds.length + 1 = n
    · exact c
    · rw [if_neg c] at e; cases e
  rw [if_pos hl] at e
  obtain ⟨⟨o3, args'⟩, e3, e⟩ := bind_some e
  obtain ⟨o1, e4, e5⟩ := map_some e
  cases e5
  obtain ⟨v0, ev0, _⟩ := s.at_ i o0 (join_some e0)
  refine ⟨v0, ev0, ha F H σ env O ds _ _ s e1 fun F1 H1 vs O1 g1 s1 r => ?_⟩
  have hi : i < env1.length := (List.getElem?_eq_some_iff.mp (join_some e2)).1
  refine ⟨by rw [List.append_nil, List.length_cons, r.len]; exact hl, F1, some o2 :: vals ds, _, _, args', by rw [List.append_nil]; exact s1.lend (join_some e2) ev0 r, e3, ?_⟩
  rw [List.append_nil]
  cases args' with
  | nil => cases e4
  | cons y rest =>
    have e4 : some y = some o1 := e4
    cases e4
    exact (kk.go g1).lend s1 ev0 hi
theorem do_callB (i : Nat) {y : Str} {py : Pos} (Fo : FnOk X.prog X.w X.K X.mg X.base CX0 k f fd ps (spD X.K cm p n)) (hr : Room k X.A) (hm : X.mg x = some (.ref f)) (hk : PySem.W.keepIn X.K (.ref f) = true) (hb : Binds X.K fd ps []) (ha : DA X cm es t fa) (hg : Gl X x := by rfl) (hdb : (x == ("__debug__" : Str)) = false := by decide) (he : starEach (.Name y py :: es) X.env = (false, eval (.Name y py) X.env) :: starEach es X.env := by rfl) (hpl : (backTo pos (starEach es X.env)).any (·.1) = false := by rfl)
    (hN : X.N[i]? = some y := by rfl) (hv : Vis X.env.scope y := by first | exact Or.inl rfl | exact Or.inr (Or.inl rfl) | exact Or.inr (Or.inr rfl)) (hd : (y == ("__debug__" : Str)) = false := by decide) (hcd : (y == ("__classdict__" : Str)) = false := by decide) :
    DO X cm (.Call (.Name x pp) (.Name y py :: es) [] pos) (tCall (spD X.K cm p n) [] E0 (tCons (tVar i) t)) (mcb1 i p n fa) := ⟨pe_call Fo hr hg hm hk hb .nil pass0 (pa_cons (pe_var hN hv hd hcd) ha.pe he) hdb he hpl, smo_cb1 ha.sm⟩
end
/-! ### methods -/
def noM (m : Str) (c : Nat) (o : Od) : Bool := match o with
  | .obj c' gs => c' == c && (gs.lookup m).isNone
  | .fd (.val (.obj c' gs)) => c' == c && (gs.lookup m).isNone
  | _ => false
def mmt (m : Str) (c : Nat) (i : Nat) (p : Fn) (n : Nat) (fa : M (List D)) : M Od := fun env => ((env[i]?).join).bind fun o0 => if noM m c o0 = true then (fa env).bind fun q => ((q.2[i]?).join).bind fun o => if q.1.length + 1 = n then (p (some o :: vals q.1)).bind fun r => (r.2[0]?).map fun o1 => (r.1, q.2.set i o1) else none else none
theorem lookup_names {α β : Type} {m : Str} : ∀ {fs : List (Str × α)} {gs : List (Str × β)}, fs.map (·.1) = gs.map (·.1) → (gs.lookup m).isNone = true → fs.lookup m = none
  | [], _, _, _ => rfl
  | _ :: _, [], h, _ => by cases h
  | (a, x) :: fs, (b, y) :: gs, h, e => by
    rw [List.map_cons, List.map_cons] at h
    obtain ⟨h1, h2⟩ := List.cons.inj h
    have h1 : a = b := h1
    subst h1
    rw [List.lookup_cons] at e ⊢
    by_cases q : (m == a) = true
    · rw [q] at e; cases e
    · have q : (m == a) = false := by simpa using q
      rw [q] at e ⊢
      exact lookup_names h2 e
section
variable {X : Cx} {cm : Cm} {a b c e : Expr} {es : List Expr} {te ta tb tc : TE} {pos apos : Pos} {t : TA} {fa : M (List D)} {p : Fn} {n : Nat} {k : Nat} {f : Addr} {fd : FuncData} {ps : List Str} {x m : Str} {pp : Pos} {i cl : Nat}
theorem noM_at {K : PySem.W.Frag} {F H : Hp} {v : V} {o : Od} {S : Rg} (ow : Ow K cm F H v o S) (fh : SmH F H) (h : noM m cl o = true) : ∃ q dx fs, v = .ref q ∧ H q = some (.ins (cm cl) dx fs) ∧ fs.lookup m = none := by
  cases ow with
  | ll => cases h
  | fd r =>
    cases r with
    | val r =>
      cases r <;> try (cases h; done)
      rename_i c fs gs h1 h2 h3 h4
      have h : (c == cl && (gs.lookup m).isNone) = true := h
      rw [Bool.and_eq_true] at h
      have := beq_iff_eq.mp h.1
      subst this
      exact ⟨_, _, _, rfl, fh.at h1, lookup_names h3 h.2⟩
    | lst => cases h
    | dik => cases h
    | dit => cases h
  | obj h1 h2 h3 h4 h5 h6 =>
    rename_i c fs gs S'
    have h : (c == cl && (gs.lookup m).isNone) = true := h
    rw [Bool.and_eq_true] at h
    have := beq_iff_eq.mp h.1
    subst this
    exact ⟨_, _, _, rfl, h1, lookup_names h3.names h.2⟩
theorem smo_mt {E : XK} (ha : SmA X.K cm t fa) : SmO X.K cm (tMeth (cm cl) m (spD X.K cm p n) [] E (tVar i) t) (mmt m cl i p n fa) := fun F H σ env O o env' Q s e kk => by
  obtain ⟨o0, e0, e⟩ := bind_some e
  have hm : noM m cl o0 = true := by
    by_cases c : noM m cl o0 = true
    · exact c
    · rw [if_neg c] at e; cases e
  rw [if_pos hm] at e
  obtain ⟨⟨ds, env1⟩, e1, e⟩ := bind_some e
  obtain ⟨o2, e2, e⟩ := bind_some e
  dsimp only at e
  have hl : ds.length + 1 = n := by
    by_cases c : ds.length + 1 = n
    · exact c
    · rw [if_neg c] at e; cases e
  rw [if_pos hl] at e
  obtain ⟨⟨o3, args'⟩, e3, e⟩ := bind_some e
  obtain ⟨o1, e4, e5⟩ := map_some e
  cases e5
  obtain ⟨v0, ev0, ow0⟩ := s.at_ i o0 (join_some e0)
  obtain ⟨q, dx, fs, rfl, hq, hf⟩ := noM_at ow0 s.fh hm
  refine ⟨_, ev0, q, dx, fs, rfl, hq, hf, ha F H σ env O ds _ _ s e1 fun F1 H1 vs O1 g1 s1 r => ?_⟩
  have hi : i < env1.length := (List.getElem?_eq_some_iff.mp (join_some e2)).1
  refine ⟨by rw [List.append_nil, List.length_cons, r.len]; exact hl, F1, some o2 :: vals ds, _, _, args', by rw [List.append_nil]; exact s1.lend (join_some e2) ev0 r, e3, ?_⟩
  rw [List.append_nil]
  cases args' with
  | nil => cases e4
  | cons y rest =>
    have e4 : some y = some o1 := e4
    cases e4
    exact (kk.go g1).lend s1 ev0 hi
theorem do_meth {pl : Sem Bool} (i cl : Nat) {y : Str} {py : Pos} (ct : Cls X.K (cm cl)) (hm : Meth X.K (cm cl) m f) (Fo : FnOk X.prog X.w X.K X.mg X.base CX0 k f fd ps (spD X.K cm p n)) (hr : Room k X.A) (hb : Binds X.K fd ps []) (ha : DA X cm (e :: es) t fa)
    (hN : X.N[i]? = some y := by rfl) (hv : Vis X.env.scope y := by first | exact Or.inl rfl | exact Or.inr (Or.inl rfl) | exact Or.inr (Or.inr rfl)) (hd : (y == ("__debug__" : Str)) = false := by decide) (hcd : (y == ("__classdict__" : Str)) = false := by decide)
    (hst : starEach (e :: es) X.env = (false, eval e X.env) :: starEach es X.env := by rfl) (hpl : (backTo pos (starEach es X.env)).any (·.1) = false := by rfl)
    (ht : eval (.Call (.Attribute (.Name y py) m apos) (e :: es) [] pos) X.env = (do
      let ov ← eval (.Name y py) X.env
      standAt apos.atName
      let (f, first) ← holding [ov] (getMethod ov m pl)
      callWith pos f first (backTo pos (starEach (e :: es) X.env)) (backToKw pos (keywordEach [] X.env))) := by rfl) :
    DO X cm (.Call (.Attribute (.Name y py) m apos) (e :: es) [] pos) (tMeth (cm cl) m (spD X.K cm p n) [] E0 (tVar i) t) (mmt m cl i p n fa) := ⟨pe_meth (pe_var hN hv hd hcd) ct hm Fo hr hb .nil pass0 ha.pe hst hpl ht, smo_mt ha.sm⟩
theorem do_meth0 {pl : Sem Bool} (i cl : Nat) {y : Str} {py : Pos} (ct : Cls X.K (cm cl)) (hm : Meth X.K (cm cl) m f) (Fo : FnOk X.prog X.w X.K X.mg X.base CX0 k f fd ps (spD X.K cm p n)) (hr : Room k X.A) (hb : Binds X.K fd ps [])
    (hN : X.N[i]? = some y := by rfl) (hv : Vis X.env.scope y := by first | exact Or.inl rfl | exact Or.inr (Or.inl rfl) | exact Or.inr (Or.inr rfl)) (hd : (y == ("__debug__" : Str)) = false := by decide) (hcd : (y == ("__classdict__" : Str)) = false := by decide)
    (ht : eval (.Call (.Attribute (.Name y py) m apos) [] [] pos) X.env = (do
      let ov ← eval (.Name y py) X.env
      standAt apos.atName
      let (f, first) ← holding [ov] (getMethod ov m pl)
      callWith pos f first (backTo pos (starEach [] X.env)) (backToKw pos (keywordEach [] X.env))) := by rfl) :
    DO X cm (.Call (.Attribute (.Name y py) m apos) [] [] pos) (tMeth (cm cl) m (spD X.K cm p n) [] E0 (tVar i) tNil) (mmt m cl i p n anil) := ⟨pe_meth0 (pe_var hN hv hd hcd) ct hm Fo hr hb .nil pass0 ht, smo_mt da_nil.sm⟩
/-! ### C(..) -/
def mmk (c : Nat) (p : Fn) (n : Nat) (fa : M (List D)) : M Od := fun env => (fa env).bind fun q => if q.1.length + 1 = n then (p (some (.obj c []) :: vals q.1)).bind fun r => match r.1, r.2 with
    | .fd (.val .non), some o :: _ => some (o, q.2)
    | _, _ => none
  else none
theorem smo_mk {E : XK} (ct : CFt X.K (cm cl)) (ha : SmA X.K cm t fa) : SmO X.K cm (tMake (cm cl) (spD X.K cm p n) [] E t) (mmk cl p n fa) := fun F H σ env O o env' Q s e kk => by
  obtain ⟨⟨ds, env1⟩, e1, e⟩ := bind_some e
  dsimp only at e
  have hl : ds.length + 1 = n := by
    by_cases c : ds.length + 1 = n
    · exact c
    · rw [if_neg c] at e; cases e
  rw [if_pos hl] at e
  obtain ⟨⟨o3, args'⟩, e3, e⟩ := bind_some e
  dsimp only at e
  split at e
  · rename_i o4 rest
    cases e
    refine ha F H σ env O ds _ _ s e1 fun F1 H1 vs O1 g1 s1 r x dx nx nd ne => ?_
    have ndx : upd H1 dx (.own x) x = none := by rw [upd_ne (Ne.symm ne)]; exact nx
    -- the dict's own cell is frozen, the instance's is one's own
    obtain ⟨s2, g2⟩ := s1.alloc (o := .own x) nd
    obtain ⟨s3, g3, f3, o3⟩ := s2.fresh (o := .ins (cm cl) dx []) ndx
    have r3 := r.mono g2.ff
    have sv := sts_vals (cm := cm) s3.fh s3.mm r3
    refine ⟨by rw [List.append_nil, List.length_cons, r.len]; exact hl, upd F1 dx (.own x), some (.obj cl []) :: vals ds, fun j p => j = 0 ∧ p = x, _, some o :: rest, ?_, e3, ?_⟩
    · rw [List.append_nil]
      refine ⟨s3.fh, by rw [List.length_map, List.length_cons, List.length_cons]; have := sv.len; rw [List.length_map] at this; rw [this], fun j o q => ?_, fun j p z => ?_, fun j l p z w => z.1.trans w.1.symm, s3.mm⟩
      · cases j with
        | zero =>
          cases q
          exact ⟨.ref x, rfl, .obj (S' := fun _ => False) upd_same ⟨ct, fun f hf => absurd hf (by simp)⟩ .nil id (fun q z => z.elim) ⟨rfl, rfl⟩⟩
        | succ j =>
          obtain ⟨v, e1, ow⟩ := sv.at_ j o q
          exact ⟨v, e1, ow.mono (Same.refl _) (fun _ _ q _ => q) fun p z => z.elim⟩
      · obtain ⟨_, rfl⟩ := z
        exact ⟨f3, ⟨_, nt_i⟩, upd_same⟩
    · rw [List.append_nil]
      intro F4 H4 v Oc R g sc ow n4
      cases ow with
      | fd rr =>
        cases rr with
        | val rr =>
          cases rr
          refine ⟨rfl, ?_⟩
          obtain ⟨u, eu, owu⟩ := sc.at_ 0 o rfl
          have eu : some (some (V.ref x)) = some (some u) := eu
          cases eu
          -- from the maker's state to the caller's
          have ux : ∀ p, Un (fun j p => j = 0 ∧ p = x) p → p = x := fun p ⟨_, _, z⟩ => z
          have oth : ∀ j p, O1 j p → p ≠ x := fun j p z h => o3 ⟨j, by rw [← h]; exact z⟩
          have hOc : ∀ p, Oc 0 p → p = x ∨ upd (upd H1 dx (.own x)) x (.ins (cm cl) dx []) p = none := fun p z => (g.ss p (.inr ⟨0, z⟩)).imp (ux p) id
          have gg : Go (fun p => p = x ∨ Un O1 p) (upd F1 dx (.own x)) (upd (upd H1 dx (.own x)) x (.ins (cm cl) dx [])) (fun p => Oc 0 p ∨ Un O1 p) F4 H4 := by
            refine ⟨g.ff, fun p u e f z => g.hh p u e f fun w => z (.inl (ux p w)), fun p z => (g.fr p z).imp id (.imp id (.imp (fun w => .inl (ux p w)) id)), fun p z => ?_, g.al⟩
            rcases z with z | z
            · exact (hOc p z).imp .inl id
            · exact .inl (.inr z)
          have s4 : Sts X.K cm F4 H4 σ env' O1 := by
            refine ⟨sc.fh, s3.len, fun j o q => ?_, fun j p z => ?_, s3.dj, sc.mm⟩
            · obtain ⟨u, e1, ow1⟩ := s3.at_ j o q
              exact ⟨u, e1, ow1.mono g.ff (fun p y e z => g.keepO e (s3.ow _ _ z) fun w => oth j p z (ux p w)) fun _ z => z⟩
            · obtain ⟨a, u, b⟩ := s3.ow j p z
              refine ⟨?_, u, g.hh p u b a fun w => oth j p z (ux p w)⟩
              cases q : F4 p with
              | none => rfl
              | some w =>
                rcases g.fr p (by rw [q]; exact fun z => nomatch z) with y | y | y | ⟨w, y, nw⟩
                · exact absurd a y
                · rw [b] at y; cases y
                · exact absurd (ux p y) (oth j p z)
                · rw [b] at y; exact (nw (Option.some.inj y ▸ u.2)).elim
          refine kk F4 H4 (.ref x) O1 (Oc 0) (((g1.trans g2).trans g3).trans gg) s4 owu fun p z => ⟨(sc.ow 0 p z).1, (sc.ow 0 p z).2, fun ⟨j, w⟩ => ?_⟩
          rcases hOc p z with y | y
          · exact oth j p w y
          · obtain ⟨_, u, b⟩ := s3.ow j p w
            rw [y] at b; cases b
  · cases e
theorem do_make (cl : Nat) (ct : CFt X.K (cm cl)) (Mq : Mk X.K (cm cl) f) (Fo : FnOk X.prog X.w X.K X.mg X.base CX0 k f fd ps (spD X.K cm p n)) (hr : Room (k + 1) X.A) (hm : X.mg x = some (.ref (cm cl))) (hb : Binds X.K fd ps []) (ha : DA X cm (e :: es) t fa) (hg : Gl X x := by rfl) (hdb : (x == ("__debug__" : Str)) = false := by decide) (he : starEach (e :: es) X.env = (false, eval e X.env) :: starEach es X.env := by rfl) (hpl : (backTo pos (starEach es X.env)).any (·.1) = false := by rfl) :
    DO X cm (.Call (.Name x pp) (e :: es) [] pos) (tMake (cm cl) (spD X.K cm p n) [] E0 t) (mmk cl p n fa) := ⟨pe_make Mq Fo hr hg hm hb .nil pass0 ha.pe hdb he hpl, smo_mk ct ha.sm⟩
end
end DL

/-! The data layer: fields stored, own ==, sets. -/
namespace DL
open PySem PySem.Spec PyProof.Rows L2

/-! ### x.f = e, x an own object in a slot -/
def putG (n : Str) (x : Fd) : List (Str × Fd) → List (Str × Fd)
  | [] => [(n, x)]
  | (m, y) :: r => if m = n then (m, x) :: r else (m, y) :: putG n x r
theorem putF_names {n : Str} {v : V} {x : Fd} : ∀ {fs : List (Str × V)} {gs : List (Str × Fd)}, fs.map (·.1) = gs.map (·.1) → (putF n v fs).map (·.1) = (putG n x gs).map (·.1)
  | [], [], _ => rfl
  | [], _ :: _, h => by cases h
  | _ :: _, [], h => by cases h
  | (a, y) :: fs, (b, z) :: gs, h => by
    rw [List.map_cons, List.map_cons] at h
    obtain ⟨h1, h2⟩ := List.cons.inj h
    have h1 : a = b := h1
    subst h1
    unfold putF putG
    by_cases q : a = n
    · rw [if_pos q, if_pos q, List.map_cons, List.map_cons, h2]
    · rw [if_neg q, if_neg q, List.map_cons, List.map_cons, putF_names h2]
theorem putF_mem {n f : Str} {v : V} : ∀ {fs : List (Str × V)}, f ∈ (putF n v fs).map (·.1) → f = n ∨ f ∈ fs.map (·.1)
  | [], h => by unfold putF at h; simp at h; exact .inl h
  | (a, y) :: fs, h => by
    unfold putF at h
    by_cases q : a = n
    · rw [if_pos q, List.map_cons] at h
      exact .inr (by rw [List.map_cons]; exact h)
    · rw [if_neg q, List.map_cons] at h
      rw [List.map_cons]
      rcases List.mem_cons.mp h with h | h
      · exact .inr (by rw [h]; exact List.mem_cons_self)
      · exact (putF_mem h).imp id (List.mem_cons_of_mem _)
section
variable {K : PySem.W.Frag} {cm : Cm} {F H : Hp}
theorem OwFs.put {n : Str} {v : V} {x : Fd} {R : Rg} (ow : OwF K cm F H v x R) : ∀ {fs : List (Str × V)} {gs : List (Str × Fd)} {S : Rg}, OwFs K cm F H fs gs S → (∀ p, R p → ¬ S p) → OwFs K cm F H (putF n v fs) (putG n x gs) (fun p => R p ∨ S p) := by
  intro fs gs S h
  induction h with
  | nil => intro _; exact .cons ow .nil (S2 := fun _ => False) (fun _ _ z => z) (fun p z => .inl z) fun p z => z.elim
  | @cons m w y fs gs S S1 S2 o1 r d a b ih =>
    intro hd
    unfold putF putG
    by_cases q : m = n
    · rw [if_pos q, if_pos q]
      exact .cons ow r (fun p z w => hd p z (b p w)) (fun p z => .inl z) fun p z => .inr (b p z)
    · rw [if_neg q, if_neg q]
      exact .cons o1 (ih fun p z w => hd p z (b p w)) (fun p z w => w.elim (fun w => hd p w (a p z)) (d p z)) (fun p z => .inr (a p z)) fun p z => z.imp id (b p)
end
def gfs (i : Nat) (n : Str) (cs : List Nat) (f : M Od) : G := fun env => (f env).bind fun q => match q.1, q.2[i]? with
  | .fd x, some (some (.obj c gs)) => if cs.contains c = true ∧ gs.length < 1000 then some (.nx, q.2.set i (some (.obj c (putG n x gs)))) else none
  | _, _ => none
section
variable {X : Cx} {cm : Cm} {B : List Nat} {a b c e : Expr} {es : List Expr} {te ta tb tc : TE} {pos apos : Pos} {t : TA} {i : Nat} {x n : Str}
theorem ds_fs {f : M Od} {p1 p2 : Pos} (cs : List Nat) (h : DO X cm e te f) (hno : ∀ c ∈ cs, NoAttr X.K (cm c) n) (hN : X.N[i]? = some x := by rfl) (hv : Vis X.env.scope x := by first | exact Or.inl rfl | exact Or.inr (Or.inl rfl) | exact Or.inr (Or.inr rfl)) (hd : (x == ("__debug__" : Str)) = false := by decide) (hcd : (x == ("__classdict__" : Str)) = false := by decide)
    (hs : swapsWith e (some (.Attribute (.Name x p1) n p2)) pos.line X.env = pure false := by rfl) :
    DS X cm B (.Assign [.Attribute (.Name x p1) n p2] e pos) (sFld X.K (tVar i) te n) (gfs i n cs f) := ⟨ps_fld (pe_var hN hv hd hcd) h.pe hs, fun F H σ env O out env' Dn s e k => by
  obtain ⟨⟨o, env1⟩, e1, e⟩ := bind_some e
  dsimp only at e
  split at e
  · rename_i y c gs q
    obtain ⟨⟨c1, c2⟩, e3⟩ := ite_some e
    cases e3
    refine h.sm F H σ env O _ _ _ s e1 fun F1 H1 v O1 R g1 s1 ow nw => ?_
    obtain ⟨w, ev, ow1⟩ := s1.at_ i _ q
    cases ow with
    | fd r =>
    cases ow1 with
    | @obj p dx c fs gs S S' h1 h2 h3 h4 h5 h6 =>
      have hln : fs.length = gs.length := by
        have := congrArg List.length h3.names
        rwa [List.length_map, List.length_map] at this
      have hcn := hno c (by simpa using c1)
      refine ⟨_, ev, p, _, dx, fs, rfl, h1, h2.ft.cl, hcn, by rw [hln]; exact c2, ?_⟩
      have hi : i < env1.length := (List.getElem?_eq_some_iff.mp q).1
      have pR : ¬ R p := fun z => (nw p z).2.2 ⟨i, h6⟩
      have Fp : F1 p = none := (s1.ow i p h6).1
      have RO : ∀ p, R p → ¬ S' p := fun p z w => (nw p z).2.2 ⟨i, h5 p w⟩
      have own : OwFs X.K cm F1 (upd H1 p (.ins (cm c) dx (putF n v fs))) (putF n v fs) (putG n y gs) (fun p => R p ∨ S' p) :=
        (h3.put r RO).mono (Same.refl _) (fun q u e z => by rw [upd_ne (show q ≠ p from fun h => by subst h; exact z.elim pR h4)]; exact e) fun _ z => z
      have nm : COk X.K (cm c) ((putF n v fs).map (·.1)) := ⟨h2.ft, fun f hf => (putF_mem hf).elim (fun h => by rw [h]; exact hcn) (h2.no f)⟩
      have up : ∀ q u, q ≠ p → H1 q = some u → upd H1 p (.ins (cm c) dx (putF n v fs)) q = some u := fun q u h e => by rw [upd_ne h]; exact e
      refine k F1 _ σ (fun j q => (j = i ∧ (R q ∨ O1 i q)) ∨ (j ≠ i ∧ O1 j q)) (g1.trans ⟨Same.refl _, fun q u e _ z => up q u (fun h => z (.inr ⟨i, by rw [h]; exact h6⟩)) e, fun q z => .inl z, fun q z => ?_, fun q z => ?_⟩) ⟨fun q u e => ?_, by rw [List.length_set]; exact s1.len, fun j o qq => ?_, fun j q z => ?_, fun j l q z w => ?_, s1.mm.upd Fp⟩ .refl
      · obtain ⟨j, z⟩ := z
        rcases z with ⟨_, z | z⟩ | ⟨_, z⟩
        · exact .inl (.inl z)
        · exact .inl (.inr ⟨i, z⟩)
        · exact .inl (.inr ⟨j, z⟩)
      · by_cases h : q = p
        · subst h; rw [upd_same]; exact fun z => nomatch z
        · rw [upd_ne h]; exact z
      · rw [upd_ne (ne_of_none e Fp)]; exact s1.fh _ _ e
      · by_cases hj : j = i
        · subst hj
          rw [List.getElem?_set_self hi] at qq
          cases qq
          exact ⟨.ref p, ev, .obj upd_same nm own (fun z => z.elim pR h4) (fun q z => .inl ⟨rfl, z.imp id (h5 q)⟩) (.inl ⟨rfl, .inr h6⟩)⟩
        · rw [List.getElem?_set_ne (Ne.symm hj)] at qq
          obtain ⟨u, e2, ow2⟩ := s1.at_ j o qq
          exact ⟨u, e2, ow2.mono (Same.refl _) (fun q y e z => up q y (fun h => hj (s1.dj j i q z (by rw [h]; exact h6))) e) fun q z => .inr ⟨hj, z⟩⟩
      · have hex : ∀ q, (∃ u : HU, H1 q = some u.1) → ∃ u : HU, upd H1 p (.ins (cm c) dx (putF n v fs)) q = some u.1 := fun q ⟨u, e⟩ => by
          by_cases h : q = p
          · subst h; exact ⟨⟨_, nt_i⟩, upd_same⟩
          · exact ⟨u, up q u.1 h e⟩
        rcases z with ⟨_, z | z⟩ | ⟨_, z⟩
        · exact ⟨(nw q z).1, hex q (nw q z).2.1⟩
        · exact ⟨(s1.ow i q z).1, hex q (s1.ow i q z).2⟩
        · exact ⟨(s1.ow j q z).1, hex q (s1.ow j q z).2⟩
      · rcases z with ⟨z0, z | z⟩ | ⟨z0, z⟩ <;> rcases w with ⟨w0, w | w⟩ | ⟨w0, w⟩
        · rw [z0, w0]
        · rw [z0, w0]
        · exact absurd ⟨l, w⟩ (nw q z).2.2
        · rw [z0, w0]
        · rw [z0, w0]
        · exact absurd (s1.dj l i q w z) w0
        · exact absurd ⟨j, z⟩ (nw q w).2.2
        · exact absurd (s1.dj j i q z w) z0
        · exact s1.dj j l q z w
  · cases e⟩
end

/-! ### sorted(set(..)), sorted(..) of tuples of ints below 64 -/
def toTup : D → Option (List Int)
  | .tup ds => toInts ds
  | _ => none
def toTups : List D → Option (List (List Int))
  | [] => some []
  | d :: ds => (toTup d).bind fun t => (toTups ds).map (t :: ·)
def okT (d : Nat) (t : List Int) : Bool := t.length == d && t.all fun m => decide (0 ≤ m ∧ m < 64)
def okTs (ts : List (List Int)) : Bool := match ts with
  | [] => true
  | t :: r => decide (1 ≤ t.length) && (t :: r).all (okT t.length) && decide ((t :: r).length < 64)
def dd : List (List Int) → List (List Int)
  | [] => []
  | x :: xs => if x ∈ dd xs then dd xs else x :: dd xs
theorem dd_nodup : ∀ xs, (dd xs).Nodup
  | [] => List.nodup_nil
  | x :: xs => by
    unfold dd
    by_cases c : x ∈ dd xs
    · rw [if_pos c]; exact dd_nodup xs
    · rw [if_neg c]; exact List.nodup_cons.mpr ⟨c, dd_nodup xs⟩
theorem dd_mem {a : List Int} : ∀ {xs}, a ∈ dd xs ↔ a ∈ xs
  | [] => Iff.rfl
  | x :: xs => by
    unfold dd
    by_cases c : x ∈ dd xs
    · rw [if_pos c, dd_mem, List.mem_cons]
      exact ⟨.inr, fun h => h.elim (fun h => by rw [h]; exact dd_mem.mp c) id⟩
    · rw [if_neg c, List.mem_cons, List.mem_cons, dd_mem]
def tsort (l : List (List Int)) : List (List Int) := l.mergeSort fun a b => decide (TS.code 64 a ≤ TS.code 64 b)
abbrev tupI (t : List Int) : D := .tup (t.map .int)
theorem tsort_perm (l : List (List Int)) : (tsort l).Perm l := List.mergeSort_perm l _
theorem tsort_sorted (l : List (List Int)) : (tsort l).Pairwise fun a b => TS.code 64 a ≤ TS.code 64 b := by
  have q := List.pairwise_mergeSort (le := fun a b : List Int => decide (TS.code 64 a ≤ TS.code 64 b)) (fun x y z h1 h2 => by
    have h1 := of_decide_eq_true h1
    have h2 := of_decide_eq_true h2
    exact decide_eq_true (by omega)) (fun x y => by
    by_cases c : TS.code 64 x ≤ TS.code 64 y
    · simp [c]
    · have : TS.code 64 y ≤ TS.code 64 x := by omega
      simp [this]) l
  exact q.imp fun h => of_decide_eq_true h
theorem code_inj {B : Int} : ∀ {r q : List Int}, r.length = q.length → TS.Bd B r → TS.Bd B q → TS.code B r = TS.code B q → r = q
  | [], [], _, _, _, _ => rfl
  | [], _ :: _, h, _, _, _ => by cases h
  | _ :: _, [], h, _, _, _ => by cases h
  | d :: r, e :: q, hl, h1, h2, hc => by
    have hl2 : r.length = q.length := by simpa using hl
    rcases Int.lt_trichotomy d e with h | h | h
    · have := TS.code_lt hl2 h1.tail h2.tail h; omega
    · subst h
      have e1 : d * B ^ r.length + TS.code B r = d * B ^ q.length + TS.code B q := hc
      rw [← hl2] at e1
      rw [code_inj hl2 h1.tail h2.tail (by omega)]
    · have := TS.code_lt hl2.symm h2.tail h1.tail h; omega
theorem okTs_of {ts : List (List Int)} (h : okTs ts = true) : ts.length < 64 ∧ ∃ d, 1 ≤ d ∧ ∀ t ∈ ts, t.length = d ∧ TS.Bd 64 t := by
  cases ts with
  | nil => exact ⟨by decide, 1, by decide, fun t ht => absurd ht (by simp)⟩
  | cons t r =>
    have h : (decide (1 ≤ t.length) && (t :: r).all (okT t.length) && decide ((t :: r).length < 64)) = true := h
    rw [Bool.and_eq_true, Bool.and_eq_true] at h
    refine ⟨of_decide_eq_true h.2, t.length, of_decide_eq_true h.1.1, fun u hu => ?_⟩
    have q := List.all_eq_true.mp h.1.2 u hu
    unfold okT at q
    rw [Bool.and_eq_true] at q
    exact ⟨beq_iff_eq.mp q.1, fun m hm => of_decide_eq_true (List.all_eq_true.mp q.2 m hm)⟩
theorem tsort_eq {a b : List (List Int)} {d : Nat} (hb : ∀ t ∈ b, t.length = d ∧ TS.Bd 64 t) (hp : a.Perm b) (hs : a.Pairwise fun x y => TS.code 64 x ≤ TS.code 64 y) : a = tsort b :=
  List.Perm.eq_of_pairwise (fun x y hx hy h1 h2 => by
    obtain ⟨l1, b1⟩ := hb x (hp.mem_iff.mp hx)
    obtain ⟨l2, b2⟩ := hb y ((tsort_perm b).mem_iff.mp hy)
    exact code_inj (l1.trans l2.symm) b1 b2 (by omega)) hs (tsort_sorted b) (hp.trans (tsort_perm b).symm)
section
variable {K : PySem.W.Frag} {cm : Cm} {F H : Hp}
theorem RpA.tups : ∀ {vs : List V} {ds : List D} {ts : List (List Int)}, RpA K cm F vs ds → toTups ds = some ts → ∃ ks : List (Addr × List Int), vs = ks.map (fun p => V.ref p.1) ∧ ts = ks.map (·.2) ∧ ∀ p ∈ ks, F p.1 = some (.tup (p.2.map V.int))
  | _, _, ts, .nil, e => by unfold toTups at e; cases e; exact ⟨[], rfl, rfl, fun p h => absurd h (by simp)⟩
  | _, _, ts, .cons (d := d) h r, e => by
    unfold toTups at e
    obtain ⟨t, e1, e⟩ := bind_some e
    obtain ⟨us, e2, rfl⟩ := map_some e
    obtain ⟨ks, h1, h2, h3⟩ := RpA.tups r e2
    cases h <;> try (cases e1; done)
    rename_i a xs ds ha ra
    have e1 : DL.toInts ds = some t := e1
    have := ra.toInts e1
    subst this
    refine ⟨(a, t) :: ks, by rw [List.map_cons, h1], by rw [List.map_cons, h2], fun p hp => ?_⟩
    rcases List.mem_cons.mp hp with rfl | hp
    · exact ha
    · exact h3 p hp
theorem RpA.of_tups : ∀ (ks : List (Addr × List Int)), (∀ p ∈ ks, F p.1 = some (.tup (p.2.map V.int))) → RpA K cm F (ks.map fun p => V.ref p.1) (ks.map fun p => tupI p.2)
  | [], _ => .nil
  | p :: ks, h => .cons (.tup (h p List.mem_cons_self) (RpA.ints _)) (RpA.of_tups ks fun q hq => h q (List.mem_cons_of_mem _ hq))
end
def ssetB : List D → Option Od
  | [.lst ds] => (toTups ds).bind fun ts => if okTs ts = true then some (.fd (.lst ((tsort (dd ts)).map tupI))) else none
  | _ => none
def mss (f : M D) : M Od := mb f fun d => mo (ssetB [d])
section
variable {X : Cx} {cm : Cm} {B : List Nat} {a b c e : Expr} {es : List Expr} {te ta tb tc : TE} {pos apos : Pos} {t : TA} {i : Nat} {x n : Str}
/-- sorted(set(e)) -/
theorem do_sset {p1 p2 pos2 : Pos} {k : Nat} {f : M D} (hm1 : X.mg "sorted" = none) (hm2 : X.mg "set" = none) (hr : Room k X.A) (h : DE X cm a ta f) (hc : X.calm = true := by rfl) (hg1 : Gl X "sorted" := by rfl) (hg2 : Gl X "set" := by rfl)
    (he1 : starEach [.Call (.Name "set" p2) [a] [] pos2] X.env = (false, eval (.Call (.Name "set" p2) [a] [] pos2) X.env) :: starEach [] X.env := by rfl) (he2 : starEach [a] X.env = (false, eval a X.env) :: starEach [] X.env := by rfl) :
    DO X cm (.Call (.Name "sorted" p1) [.Call (.Name "set" p2) [a] [] pos2] [] pos) (tCB (rSortedT X.K X.prog X.w) (tCons (tCB (rSetOfT X.K X.prog X.w) (tCons ta tNil)) tNil)) (mss f) := by
  refine ⟨pe_callB (cr_sortedT hc) hg1 hm1 (by decide +kernel) (pa_cons (pe_callTy (cr_setOfT hc hr.units) hg2 hm2 (by decide +kernel) (pa_cons h.pe pa_nil he2) (by decide) (by decide) he2 (by rfl)) pa_nil he1) (by decide) (by decide) he1 (by rfl), fun F H σ env O o env' Q s e k => ?_⟩
  obtain ⟨d, env1, e1, e⟩ := mb_some e
  obtain ⟨e3, e4⟩ := mo_some e
  dsimp only at e3 e4
  subst e4
  cases d <;> try (cases e3; done)
  rename_i ds
  obtain ⟨ts, e5, e6⟩ := bind_some e3
  obtain ⟨c, rfl⟩ := ite_some e6
  obtain ⟨hlen, dd', hd1, hts⟩ := okTs_of c
  refine h.sm F H σ env O _ _ _ s e1 fun F1 H1 v O1 g1 s1 r => ?_
  cases r with
  | lst hp ra =>
    rename_i pa vs
    obtain ⟨ks, h1, h2, h3⟩ := ra.tups e5
    subst h1
    subst h2
    refine ⟨pa, ks, rfl, .of (s1.fh.at hp), fun p hp => tupT s1.fh (h3 p hp), by rw [List.length_map] at hlen; exact hlen, fun a L na hL hL2 => ?_⟩
    -- the set is laid: a frozen cell
    obtain ⟨s2, g2⟩ := s1.alloc (o := SetTO X.prog X.w a L) na
    have h3' : ∀ p ∈ L, (upd F1 a (SetTO X.prog X.w a L)) p.1 = some (.tup (p.2.map V.int)) := fun p hp => g2.ff _ _ (h3 p (hL p hp))
    refine ⟨a, L, dd', 64, rfl, upd_same, fun p hp => tupT s2.fh (h3' p hp), hd1, fun p hp => hts p.2 (List.mem_map_of_mem (hL p hp)), fun L' q hperm hnd hl64 hsort nq => ?_⟩
    have eL : L'.map (·.2) = tsort (dd (ks.map (·.2))) := by
      have hp2 : (L'.map (·.2)).Perm (dd (ks.map (·.2))) := by
        refine (List.perm_ext_iff_of_nodup hnd (dd_nodup _)).mpr fun t => ?_
        rw [dd_mem]
        constructor
        · intro ht
          obtain ⟨p, hp, rfl⟩ := List.mem_map.mp ht
          exact List.mem_map_of_mem (hL p (hperm.mem_iff.mp hp))
        · intro ht
          obtain ⟨p, hp, rfl⟩ := List.mem_map.mp ht
          obtain ⟨p', hp', e'⟩ := List.mem_map.mp (hL2 p hp)
          exact List.mem_map.mpr ⟨p', hperm.mem_iff.mpr hp', e'⟩
      refine tsort_eq (d := dd') (fun t ht => hts t (dd_mem.mp ht)) hp2 ?_
      rw [List.pairwise_map]
      exact hsort
    have rl := RpA.of_tups (cm := cm) (K := X.K) (F := upd F1 a (SetTO X.prog X.w a L)) L' fun p hp => h3' p (hperm.mem_iff.mp hp)
    have em : L'.map (fun p => tupI p.2) = (tsort (dd (ks.map (·.2)))).map tupI := by rw [← eL, List.map_map]; rfl
    rw [em] at rl
    exact ((k.go g1).go g2).fresh s2 nq rl
end
/-! ### own == and != -/
section
variable {X : Cx} {cm : Cm} {B : List Nat} {a b c e : Expr} {es : List Expr} {te ta tb tc : TE} {pos apos : Pos} {t : TA} {i : Nat} {x n : Str}
/-- x == y by x's own __eq__ (y's class does not come first) -/
def rOEq (K : PySem.W.Frag) (cm : Cm) (cl : List Nat) (sp : Sp) : R2 := fun x y H Q => ∃ a c dx fs t, x = .ref a ∧ H a = some (.ins (cm c) dx fs) ∧ c ∈ cl ∧ TyX K H y t ∧ PySem.W.notFirst K (cm c) t = true ∧ sp [x, y] H (fun v H' => ∃ k, v = .bl k ∧ Q (.bl k) H') E0
def EqF (K : PySem.W.Frag) (cm : Cm) (cl : List Nat) (f : Addr) : Prop := ∀ c ∈ cl, PySem.W.findIn K (.ref (cm c)) "__eq__" = some (some (.ref f))
theorem run_eqf {k : Nat} {f : Addr} {fd : FuncData} {ps : List Str} {sp : Sp} (Fo : FnOk X.prog X.w X.K X.mg X.base CX0 k f fd ps sp) (hr : Room k X.A) (hb : Binds X.K fd ps []) {pins : List (Addr × Obj)} {s : Shared} {σ : L2.St} {H : Hp} {x y : V} {u w : Value} {Q : VK} (I : Inv X pins σ H s) (rx : RelV x u) (ry : RelV y w)
    (h : sp [x, y] H Q E0) : wpAny (model X.prog X.w) X.A (call (.ref f) [u, w]) (EP X pins σ Q) X.xe s := by
  have := run_fn (E := E0) (ds := []) (dvs := []) Fo hr hb .nil pass0 I (.cons rx (.cons ry .nil)) (Q := Q) (by simpa using h)
  exact this
theorem op_oeq {k : Nat} {cl : List Nat} {f : Addr} {fd : FuncData} {ps : List Str} {sp : Sp} (Fo : FnOk X.prog X.w X.K X.mg X.base CX0 k f fd ps sp) (hr : Room k X.A) (hb : Binds X.K fd ps []) (he : EqF X.K cm cl f) (hf : PySem.W.isFn X.K (.ref f) = true) : OpR X (compareOp .Eq) (rOEq X.K cm cl sp) := by
  intro pins s σ H x y v u Q I rx ry h
  obtain ⟨a, c, dx, fs, t, rfl, ha, hc, ty, nf, hsp⟩ := h
  cases rx
  obtain ⟨mA, J, _⟩ := ins_get I.hok ha
  obtain ⟨od, J, _⟩ := J.look
  obtain ⟨m, hF⟩ := I.fr
  obtain ⟨P, Z, p, _⟩ := kit_of I ry ty
  show wpAny (model X.prog X.w) X.A (richCompare .Eq (.ref a) u) (EP X pins σ Q) X.xe s
  refine PySem.W.cmp_K (op := .Eq) (tb := t) hr.units0 hF I.ok.mod.kin J (Z.ty _ _ I.kIn p) nf (he c hc) hf ?_
  refine thn (run_eqf Fo hr hb I (x := .ref a) rfl ry hsp) fun r s' hq => ?_
  obtain ⟨z, H', I', rz, kk, ez, q⟩ := hq
  subst ez
  cases rz
  exact ⟨.bl kk, H', I', rfl, q⟩

theorem ifBound_KB {M : Model} {A : Around} {E : Value → Shared → Prop} {s : Shared} {K : PySem.W.Frag} {x C : Addr} {ox : Obj} {od : Option Obj} {name : Str} {T id : String} {args : List Value} {Q : Option Value → Shared → Prop} (X : K.In s.heap) (I : PySem.W.InstAt s.heap x ox C od) (hs : PySem.W.findIn K (.ref C) name = some (some (.builtin id))) (S : Slot T name id)
    (h : wpAny M A (call (.builtin id) (.ref x :: args)) (fun v => Q (some v)) E s) : wpAny M A (callSpecialIfBound? (.ref x) name args) Q E s := by
  simp only [callSpecialIfBound?, bindSpecialIfBound?]
  refine wpAny_holding (wpAny_bind (wpAny_bind (wpAny_bind (I.type.here ((PySem.W.looks_findIn X hs).here ?_)))))
  simp only [S.bind]
  refine wpAny_bind (wpAny_askSetting (wpAny_ite ?_))
  have fin : wpAny M A (call (.builtin id) ([.ref x] ++ args) >>= fun v => pure (some v)) Q E s :=
    wpAny_bind (wpAny_mono h (fun v s' h' => wpAny_pure h') fun _ _ h' => h')
  split
  · exact wpAny_bind (wpAny_pure (wpAny_pure fin))
  · exact wpAny_tryCatch (wpAny_bind (wpAny_pure (wpAny_pure fin)))
theorem check_slot_K {M : Model} {A : Around} {E : Value → Shared → Prop} {s : Shared} {K : PySem.W.Frag} {x C : Addr} {ox : Obj} {od : Option Obj} {id owner n : String} {rest : List Value} {Q : Unit → Shared → Prop} (X : K.In s.heap) (I : PySem.W.InstAt s.heap x ox C od) (hk : builtinKind id = some .slot) (hs : splitId id = some (owner, n))
    (ha : argsOk id ⟨.ref x :: rest, []⟩) (hob : PySem.W.subIn K (.ref C) (.type owner) = some true) (hq : Q () s) : wpAny M A (checkBuiltinCall id ⟨.ref x :: rest, []⟩) Q E s := by
  simp only [checkBuiltinCall, hk, hs]
  refine wpAny_bind ?_
  unfold isInstance
  refine wpAny_bind (I.type.here ((PySem.W.looks_subIn X hob).here ?_))
  simp only [Bool.not_true, Bool.false_eq_true, if_false]
  cases hsig : Manifest.signature? id with
  | none => exact wpAny_pure hq
  | some sig =>
    simp only [argsOk, hsig] at ha
    have h2 : Bind.checkArgs id sig ⟨.ref x :: rest, []⟩ = pure () := ha
    show wpAny M A (Bind.checkArgs id sig ⟨.ref x :: rest, []⟩) Q E _
    rw [h2]; exact wpAny_pure hq
/-- what != of an instance with an own __eq__ and no own __ne__ asks of its class -/
structure NeF (K : PySem.W.Frag) (C : Addr) : Prop where
  ne : PySem.W.findIn K (.ref C) "__ne__" = some (some (.builtin "object.__ne__"))
  ob : PySem.W.subIn K (.ref C) (.type "object") = some true
theorem cmp_NeK {prog : Program} {w : World} {A : Around} {E : Value → Shared → Prop} {s : Shared} {K : PySem.W.Frag} {h₀ : Heap} {L x C f : Addr} {m : Str → Option Value} {ox : Obj} {od : Option Obj} {b tb : Value} {Q : Value → Shared → Prop} (hu : A.units + 1 < cLine) (Fq : PyProof.Rows.Fr h₀ L s.heap m) (X₀ : K.In h₀) (I : PySem.W.InstAt s.heap x ox C od) (hb : PySem.W.Looks (model prog w) s.heap (typeOf b) tb) (hn : PySem.W.notFirst K C tb = true)
    (N : NeF K C) (hs : PySem.W.findIn K (.ref C) "__eq__" = some (some (.ref f))) (hf : PySem.W.isFn K (.ref f) = true)
    (h : wpAny (model prog w) A.in1 (call (.ref f) [.ref x, b]) (fun v s' => ∃ k, v = .bool k ∧ Q (.bool (!k)) s') E s) : wpAny (model prog w) A (richCompare .NotEq (.ref x) b) Q E s := by
  have X := X₀.keeps Fq.keep
  have entry : wpAny (model prog w) A.in1 (Builtin.«object.__ne__» ⟨[.ref x, b], []⟩) (fun fin s' => match fin with | .done fl => (∃ v, fl = .ret v ∧ ∃ k, v = .bool k ∧ Q v s') | .again _ => False) E s := by
    unfold Builtin.«object.__ne__»
    show wpAny (model prog w) A.in1 (cRoomFor "comparison" [.ref x, b] >>= fun _ => callSpecialIfBound? (.ref x) "__eq__" [b] >>= _) _ E s
    refine wpAny_bind (wpAny_cRoomFor (by show A.units + 1 < cLine; exact hu) (wpAny_bind ?_))
    refine PySem.W.ifBound_K X I hs hf (wpAny_mono h (fun v s' hv => ?_) fun _ _ e => e)
    obtain ⟨k, rfl, q⟩ := hv
    show wpAny (model prog w) A.in1 (truthy (.bool k) >>= _) _ E s'
    refine wpAny_bind (wpAny_truthy_bool ?_)
    exact wpAny_pure ⟨_, rfl, _, rfl, q⟩
  have one : wpAny (model prog w) A (tryCompare (.ref x) "__ne__" b) (fun r s' => ∃ v, r = some v ∧ Q v s') E s := by
    unfold tryCompare
    refine wpAny_bind (ifBound_KB X I N.ne PySem.F.cmp_object.ne (wpAny_call (codeAny_call_builtin PySem.F.cmp_object.ne.plain PySem.F.cmpEntry_ne (check_slot_K X I PySem.F.cmpKind_ne PySem.F.cmpSplit_ne (PySem.F.cmpArgs_ne _ _) N.ob ?_))))
    refine wpAny_mono entry (fun fin s' hv => ?_) fun _ _ e => e
    cases fin with
    | again c => exact hv.elim
    | done fl =>
      obtain ⟨v, rfl, k, rfl, q⟩ := hv
      exact wpAny_pure ⟨_, rfl, q⟩
  unfold richCompare
  simp only [oneThing_ref]
  refine wpAny_holding (wpAny_bind (wpAny_cRoomFor (Nat.lt_of_succ_lt hu) ?_))
  refine wpAny_bind (I.type.here (wpAny_bind (hb.here ?_)))
  split
  · rename_i q
    have e : PySem.W.subIn K tb (.ref C) = some false := by
      rcases Bool.or_eq_true_iff.mp hn with e | e
      · rw [beq_iff_eq.mp e] at q; simp at q
      · exact beq_iff_eq.mp e
    refine wpAny_bind ((PySem.W.looks_subIn X e).here ?_)
    simp only [Bool.false_eq_true, if_false]
    refine wpAny_bind (wpAny_mono one (fun r s' z => ?_) fun _ _ e => e)
    obtain ⟨v, rfl, hq⟩ := z
    exact wpAny_pure hq
  · refine wpAny_bind (wpAny_pure ?_)
    simp only [Bool.false_eq_true, if_false]
    refine wpAny_bind (wpAny_mono one (fun r s' z => ?_) fun _ _ e => e)
    obtain ⟨v, rfl, hq⟩ := z
    exact wpAny_pure hq

theorem op_one {k : Nat} {cl : List Nat} {f : Addr} {fd : FuncData} {ps : List Str} {sp : Sp} (Fo : FnOk X.prog X.w X.K X.mg X.base CX0 k f fd ps sp) (hr : Room (k + 1) X.A) (hb : Binds X.K fd ps []) (he : EqF X.K cm cl f) (hne : ∀ c ∈ cl, NeF X.K (cm c)) (hf : PySem.W.isFn X.K (.ref f) = true) :
    OpR X (compareOp .NotEq) (fun x y H Q => rOEq X.K cm cl sp x y H fun v H' => ∃ z, v = .bl z ∧ Q (.bl (!z)) H') := by
  intro pins s σ H x y v u Q I rx ry h
  obtain ⟨a, c, dx, fs, t, rfl, ha, hc, ty, nf, hsp⟩ := h
  cases rx
  obtain ⟨mA, J, _⟩ := ins_get I.hok ha
  obtain ⟨od, J, _⟩ := J.look
  obtain ⟨m, hF⟩ := I.fr
  obtain ⟨P, Z, p, _⟩ := kit_of I ry ty
  show wpAny (model X.prog X.w) X.A (richCompare .NotEq (.ref a) u) (EP X pins σ Q) X.xe s
  refine cmp_NeK (Nat.lt_of_le_of_lt (Nat.add_le_add_left (by decide : 1 ≤ 64) _) hr.units) hF I.ok.mod.kin J (Z.ty _ _ I.kIn p) nf (hne c hc) (he c hc) hf ?_
  have r2 : Vals [V.ref a, y] [Value.ref a, u] := .cons rfl (.cons ry .nil)
  have hl := Fo.len _ _ _ _ hsp
  refine wpAny_call (codeAny_mono (Fo.run X.A.in1 X.stack s H ⟨[.ref a, u], []⟩ [.ref a, u] [.ref a, y] _ E0 hr.in1 I.env0.in1 (by
    have := hb s [.ref a, u] I.kIn (by simpa using hl)
    simpa using this) r2 hsp) fun r s' hq => ?_)
  cases r with
  | error e => exact absurd hq (fun h => h.elim)
  | ok fl =>
    cases fl with
    | ret w =>
      obtain ⟨z, H', I', rz, kk, ez, kk2, ez2, q⟩ := I.after hq
      subst ez
      cases rz
      cases ez2
      exact ⟨_, rfl, .bl (!kk), H', I', rfl, q⟩
    | next => exact False.elim hq
    | brk => exact False.elim hq
    | cont => exact False.elim hq
theorem spD_q {K : PySem.W.Frag} {p : Fn} {n : Nat} {vs : List V} {H : Hp} {Q Q' : VK} {E : XK} (h : ∀ v H', Q v H' → Q' v H') (hs : spD K cm p n vs H Q E) : spD K cm p n vs H Q' E :=
  let ⟨hl, F, args, O, o, args', s, e, k⟩ := hs
  ⟨hl, F, args, O, o, args', s, e, fun F' H' v O' R g s' ow nw => h _ _ (k F' H' v O' R g s' ow nw)⟩
/-- the classes whose instances are compared so, with what may stand on the right -/
def nfY (nf : Nat → Nat → Bool) (c : Nat) (y : D) : Bool := match y with
  | .obj c' _ => nf c c'
  | d => (tyN d).isSome
def oeqD (cl : List Nat) (nf : Nat → Nat → Bool) (p : Fn) (neg : Bool) (x y : D) : Option D := match x with
  | .obj c gs => if cl.contains c = true ∧ nfY nf c y = true then
      match p [some (.fd (.val x)), some (.fd (.val y))] with
      | some (.fd (.val (.bl k)), _) => some (.bl (if neg = true then !k else k))
      | _ => none
    else none
  | _ => none
structure NfF (K : PySem.W.Frag) (cm : Cm) (cl : List Nat) (nf : Nat → Nat → Bool) : Prop where
  ob : ∀ c ∈ cl, ∀ c', nf c c' = true → PySem.W.notFirst K (cm c) (.ref (cm c')) = true
  bu : ∀ c ∈ cl, ∀ S ∈ ["NoneType", "bool", "int", "str", "list", "tuple", "dict"], PySem.W.notFirst K (cm c) (.type S) = true
theorem sr_oeq {K : PySem.W.Frag} {cl : List Nat} {nf : Nat → Nat → Bool} {p : Fn} {neg : Bool} {x y : D} {d : D} (N : NfF K cm cl nf) {F H : Hp} {σ : L2.St} {env : Env} {O : Nat → Rg} {v w : V} {Q : VK} (s : Sts K cm F H σ env O) (rx : Rp K cm F v x) (ry : Rp K cm F w y) (e : oeqD cl nf p neg x y = some d) (k : Kv K cm F H σ O env d Q) :
    ∃ a c dx fs t, v = .ref a ∧ H a = some (.ins (cm c) dx fs) ∧ c ∈ cl ∧ TyX K H w t ∧ PySem.W.notFirst K (cm c) t = true ∧ ∀ E : XK, spD K cm p 2 [v, w] H (fun v H' => ∃ z, v = .bl z ∧ Q (.bl (if neg = true then !z else z)) H') E := by
  unfold oeqD at e
  split at e
  · rename_i c gs
    by_cases hc : cl.contains c = true ∧ nfY nf c y = true
    · rw [if_pos hc] at e
      split at e
      · rename_i kk args' ep
        cases e
        have r2 : RpA K cm F [v, w] [.obj c gs, y] := .cons rx (.cons ry .nil)
        have hsp : ∀ E : XK, spD K cm p 2 [v, w] H (fun v H' => ∃ z, v = .bl z ∧ Q (.bl (if neg = true then !z else z)) H') E := fun E => by
          refine ⟨rfl, F, vals [.obj c gs, y], _, _, args', sts_vals s.fh s.mm r2, ep, ?_⟩
          refine Ko.callV (σ := σ) (env := env) (O := O) ?_ s
          intro F' H' u O' R g s' ow n
          cases ow with
          | fd rr => cases rr with
            | val rr =>
              cases rr
              exact ⟨kk, rfl, k F' H' _ O' (g.sub fun p z => .inr z) s' (.bl _)⟩
        have hcl : c ∈ cl := by simpa using hc.1
        cases rx with
        | obj h1 h2 h3 h4 =>
          have ty : ∃ t, TyX K H w t ∧ PySem.W.notFirst K (cm c) t = true := by
            cases hy : tyN y with
            | some T =>
              have hS : T ∈ ["NoneType", "bool", "int", "str", "list", "tuple", "dict"] := by
                cases y <;> cases hy <;> decide
              exact ⟨_, ry.tyX s.fh hy, N.bu c hcl T hS⟩
            | none =>
              have h2 := hc.2
              cases y <;> first | (cases hy; done) | skip
              all_goals first
                | (have h2 : nf c _ = true := h2; exact ⟨_, ry.tyO s.fh, N.ob c hcl _ h2⟩)
                | (exfalso; exact absurd h2 (by unfold nfY; simp [tyN]))
          obtain ⟨t, ty, nf'⟩ := ty
          exact ⟨_, c, _, _, t, rfl, s.fh.at h1, hcl, ty, nf', hsp⟩
      · cases e
    · rw [if_neg hc] at e; cases e
  · cases e
def eqA (cl : List Nat) (nf : Nat → Nat → Bool) (p : Fn) (x y : D) : Option D := match x with
  | .obj _ _ => oeqD cl nf p false x y
  | _ => eqD x y
def neA (cl : List Nat) (nf : Nat → Nat → Bool) (p : Fn) (x y : D) : Option D := match x with
  | .obj _ _ => oeqD cl nf p true x y
  | _ => neD x y
/-- == of data or of instances -/
theorem de_eqA {k : Nat} {cl : List Nat} {nf : Nat → Nat → Bool} {f : Addr} {fd : FuncData} {ps : List Str} {p : Fn} {fa fb : M D} (Fo : FnOk X.prog X.w X.K X.mg X.base CX0 k f fd ps (spD X.K cm p 2)) (hr : Room (k + 1) X.A) (hbi : Binds X.K fd ps []) (he : EqF X.K cm cl f) (hf : PySem.W.isFn X.K (.ref f) = true) (N : NfF X.K cm cl nf)
    (ha : DE X cm a ta fa) (hb : DE X cm b tb fb) : DE X cm (.Compare a [.Eq] [b] pos) (tOp (fun x y H Q => rEqD X.K x y H Q ∨ rOEq X.K cm cl (spD X.K cm p 2) x y H Q) ta tb) (m2 (eqA cl nf p) fa fb) :=
  ⟨pe_cmpR (.or (op_eqD hr.units) (op_oeq Fo (hr.mono (Nat.le_succ _)) hbi he hf)) ha.pe hb.pe (nomark _), sm_op2 (fun F H σ env O x y a b d Q s ra rb e kk => by
    unfold eqA at e
    split at e
    · obtain ⟨q, c, dx, fs, t, h1, h2, h3, h4, h5, h6⟩ := sr_oeq N s ra rb e kk
      refine .inr ⟨q, c, dx, fs, t, h1, h2, h3, h4, h5, spD_q ?_ (h6 E0)⟩
      rintro v H' ⟨z, rfl, q⟩
      exact ⟨_, rfl, q⟩
    · exact .inl (pu_eq F H x y _ b d Q ra rb s.fh e fun v r => kk.here s r)) ha.sm hb.sm⟩

theorem de_neA {k : Nat} {cl : List Nat} {nf : Nat → Nat → Bool} {f : Addr} {fd : FuncData} {ps : List Str} {p : Fn} {fa fb : M D} (Fo : FnOk X.prog X.w X.K X.mg X.base CX0 k f fd ps (spD X.K cm p 2)) (hr : Room (k + 1) X.A) (hbi : Binds X.K fd ps []) (he : EqF X.K cm cl f) (hne : ∀ c ∈ cl, NeF X.K (cm c)) (hf : PySem.W.isFn X.K (.ref f) = true) (N : NfF X.K cm cl nf)
    (ha : DE X cm a ta fa) (hb : DE X cm b tb fb) : DE X cm (.Compare a [.NotEq] [b] pos) (tOp (fun x y H Q => rNeD X.K x y H Q ∨ rOEq X.K cm cl (spD X.K cm p 2) x y H fun v H' => ∃ z, v = .bl z ∧ Q (.bl (!z)) H') ta tb) (m2 (neA cl nf p) fa fb) :=
  ⟨pe_cmpR (.or (op_neD hr.units) (op_one Fo hr hbi he hne hf)) ha.pe hb.pe (nomark _), sm_op2 (fun F H σ env O x y a b d Q s ra rb e kk => by
    unfold neA at e
    split at e
    · obtain ⟨q, c, dx, fs, t, h1, h2, h3, h4, h5, h6⟩ := sr_oeq N s ra rb e kk
      refine .inr ⟨q, c, dx, fs, t, h1, h2, h3, h4, h5, spD_q ?_ (h6 E0)⟩
      rintro v H' ⟨z, rfl, q⟩
      exact ⟨_, rfl, _, rfl, q⟩
    · exact .inl (pu_ne F H x y _ b d Q ra rb s.fh e fun v r => kk.here s r)) ha.sm hb.sm⟩
end
end DL

/-! The data layer: walks of lists or tuples, built-ins upon values with effects, a def by its body. -/
namespace DL
open PySem PySem.Spec PyProof.Rows L2

def iAny (K : PySem.W.Frag) (tl : TE) : TI := fun σ H R => tl σ H fun x H1 => ∃ a, x = .ref a ∧ (((∃ xs, SqL K H1 a xs) ∧ R (Itl K a) H1) ∨ ((∃ xs, SqT K H1 a xs) ∧ R (Itt K a) H1))
def iEnumA (K : PySem.W.Frag) (ta : TA) : TI := fun σ H R => ta σ H fun vs H1 => ∃ a xs, vs = [.ref a] ∧ ((SqL K H1 a xs ∧ R (Ite K a) H1) ∨ (SqT K H1 a xs ∧ R (IteT K a) H1))
section
variable {X : Cx} {cm : Cm} {B : List Nat} {tg e a b c l : Expr} {es : List Expr} {te ta tb tc tl : TE} {pos : Pos} {fb : P D} {fx : P Fd}
theorem pi_any (hl : PE X l tl) : PI X tg l (iAny X.K tl) := by
  refine ⟨fun pins s σ H R I h => ?_⟩
  refine thn (hl.run pins s σ H _ I h) fun v s1 ⟨x, H1, I1, r1, q1⟩ => ?_
  obtain ⟨a, e, q⟩ := q1
  subst e
  cases r1
  rcases q with ⟨⟨xs, hq⟩, q⟩ | ⟨⟨xs, hq⟩, q⟩
  · obtain ⟨its, rv, p, hz⟩ := I1.list hq
    refine wpAny_pyIter_list p.isList ?_
    refine ⟨s1.heap.objs.size, [s1.heap.objs.size], _, _, H1, rfl, I1.kept (t' := s1.toks) fun b o e => Heap.get?_push_of_some _ e, turn_list a _, ⟨_, Heap.get?_push_size _ rfl, rfl, rfl⟩, fun b hb => ?_, q⟩
    have e : b = s1.heap.objs.size := by simpa using hb
    subst e
    exact I1.fpOk (Nat.le_refl _) (I1.hok.fresh (Nat.le_refl _))
  · obtain ⟨its, rv, p, hz⟩ := I1.tuple hq
    refine wpAny_pyIter_tuple (show s1.heap.IsTuple a its.toArray from p) ?_
    refine ⟨s1.heap.objs.size, [s1.heap.objs.size], _, _, H1, rfl, I1.kept (t' := s1.toks) fun b o e => Heap.get?_push_of_some _ e, turn_tuple a _, ⟨_, Heap.get?_push_size _ rfl, rfl, rfl⟩, fun b hb => ?_, q⟩
    have e : b = s1.heap.objs.size := by simpa using hb
    subst e
    exact I1.fpOk (Nat.le_refl _) (I1.hok.fresh (Nat.le_refl _))
theorem pi_enumA {e : Expr} {ta : TA} {p pos tpos : Pos} {elts : List Expr} {kk : Nat} (hg : Gl X "enumerate") (hm : X.mg "enumerate" = none) (ha : PA X [e] ta) (hs : starEach [e] X.env = [(false, eval e X.env)] := by rfl) :
    PI X (.Tuple elts kk tpos) (.Call (.Name "enumerate" p) [e] [] pos) (iEnumA X.K ta) := by
  refine ⟨fun pins s σ H R I h => ?_⟩
  refine Call_ (ld_blt I hg hm boot_enumerate (PyProof.Rows.callWith_type1 (thn (ha.run pos pins s σ H _ I h) fun us s1 ⟨vs, H1, I1, r1, q1⟩ => ?_) hs rfl))
  obtain ⟨a, xs, ex, q⟩ := q1
  subst ex
  cases r1 with
  | cons r rr =>
    cases rr
    cases r
    have tail : ∀ b, b = s1.heap.objs.size + 1 ∨ b = s1.heap.objs.size → s1.heap.objs.size ≤ b := fun b e' => by
      rcases e' with z | z
      · rw [z]; exact Nat.le_add_right _ _
      · rw [z]; exact Nat.le_refl _
    rcases q with ⟨hq, q⟩ | ⟨hq, q⟩
    · obtain ⟨its, rv, p', hz⟩ := I1.list hq
      refine call_enumerate_list p'.isList fun h' he hit hsz hk => wpAny_pyIter_enum he ?_
      have I2 : Inv X pins σ H1 { s1 with heap := h' } := I1.kept (t' := s1.toks) hk
      refine ⟨s1.heap.objs.size + 1, [s1.heap.objs.size + 1, s1.heap.objs.size], _, _, H1, rfl, I2, turn_enum a (s1.heap.objs.size + 1) s1.heap.objs.size, ⟨⟨.none, he⟩, hit, Nat.succ_ne_self _⟩, fun b hb => ?_, q⟩
      have hle := tail b (by simpa using hb)
      exact I1.fpOk hle (I1.hok.fresh hle)
    · obtain ⟨its, rv, p', hz⟩ := I1.tuple hq
      refine call_enumerate_tuple (show s1.heap.IsTuple a its.toArray from p') fun h' he hit hsz hk => wpAny_pyIter_enum he ?_
      have I2 : Inv X pins σ H1 { s1 with heap := h' } := I1.kept (t' := s1.toks) hk
      refine ⟨s1.heap.objs.size + 1, [s1.heap.objs.size + 1, s1.heap.objs.size], _, _, H1, rfl, I2, turn_enumT a (s1.heap.objs.size + 1) s1.heap.objs.size, ⟨⟨.none, he⟩, hit, Nat.succ_ne_self _⟩, fun b hb => ?_, q⟩
      have hle := tail b (by simpa using hb)
      exact I1.fpOk hle (I1.hok.fresh hle)
def itA (f : M D) : M (List D) := mb f fun d => mo (itemsF (.val d))
theorem wk_items {K : PySem.W.Frag} {F H : Hp} {v : V} {d : D} {ds : List D} (r : Rp K cm F v d) (e : itemsF (.val d) = some ds) : ∃ a, v = .ref a ∧ ∃ vs, RpA K cm F vs ds ∧ (SqL K F a vs ∨ SqT K F a vs) := by
  obtain ⟨p, vs, rfl, hs, ra⟩ := (OwF.val r : OwF K cm F F v (.val d) fun _ => False).seq (SmH.refl F) e
  exact ⟨p, rfl, vs, ra, hs⟩
theorem di_any {f : M D} (h : DE X cm e te f) : DI X cm tg e (iAny X.K te) (itA f) := ⟨pi_any h.pe, fun F H σ env O ds env' R s e k => by
  obtain ⟨x, env1, e1, e⟩ := mb_some e
  obtain ⟨e3, e4⟩ := mo_some e
  dsimp only at e3 e4
  subst e4
  refine h.sm F H σ env O x _ _ s e1 fun F1 H1 v O1 g1 s1 r => ?_
  obtain ⟨a, rfl, vs, ra, hs⟩ := wk_items (H := H1) r e3
  rcases hs with hs | hs
  · exact ⟨a, rfl, .inl ⟨⟨_, s1.fh.seq hs⟩, k F1 H1 O1 _ g1 s1 (wk_list hs ra)⟩⟩
  · exact ⟨a, rfl, .inr ⟨⟨_, s1.fh.sqT hs⟩, k F1 H1 O1 _ g1 s1 (wk_tup hs ra)⟩⟩⟩
def itEA (f : M D) : M (List D) := mb f fun d => mo ((itemsF (.val d)).map (enD 0))
theorem di_enA {f : M D} {p pos tpos : Pos} {elts : List Expr} {kk : Nat} (hm : X.mg "enumerate" = none) (h : DE X cm a ta f) (hg : Gl X "enumerate" := by rfl) (hs : starEach [a] X.env = [(false, eval a X.env)] := by rfl) : DI X cm (.Tuple elts kk tpos) (.Call (.Name "enumerate" p) [a] [] pos) (iEnumA X.K (tCons ta tNil)) (itEA f) := ⟨pi_enumA hg hm (pa_cons h.pe pa_nil hs) hs, fun F H σ env O ds env' R s e k => by
  obtain ⟨x, env1, e1, e⟩ := mb_some e
  obtain ⟨e3, e4⟩ := mo_some e
  dsimp only at e3 e4
  subst e4
  obtain ⟨ds, e5, rfl⟩ := map_some e3
  refine h.sm F H σ env O x _ _ s e1 fun F1 H1 v O1 g1 s1 r => ?_
  obtain ⟨a, rfl, vs, ra, hs⟩ := wk_items (H := H1) r e5
  rcases hs with hs | hs
  · exact ⟨a, vs, rfl, .inl ⟨s1.fh.seq hs, k F1 H1 O1 _ g1 s1 (wk_enum hs ra)⟩⟩
  · exact ⟨a, vs, rfl, .inr ⟨s1.fh.sqT hs, k F1 H1 O1 _ g1 s1 (wk_enumT hs ra)⟩⟩⟩
/-! built-ins upon one value -/
theorem sm_cb1 {r : List V → Hp → VK → Prop} {g : D → Option D} {fa : M D} (hr : ∀ F H x a d (Q : VK), Rp X.K cm F x a → SmH F H → g a = some d → (∀ v, Rp X.K cm F v d → Q v H) → r [x] H Q) (ha : Sm X.K cm ta fa) : Sm X.K cm (tCB r (tCons ta tNil)) (m1 g fa) := fun F H σ env O d env' Q s e k => by
  obtain ⟨x, env1, e1, e⟩ := mb_some e
  obtain ⟨e3, e4⟩ := mo_some e
  dsimp only at e3 e4
  subst e4
  refine ha F H σ env O x _ _ s e1 fun F1 H1 v O1 g1 s1 r1 => hr F1 H1 v x d Q r1 s1.fh e3 fun w rw' => k F1 H1 w O1 g1 s1 rw'
theorem de_len {p : Pos} {fa : M D} (hm : X.mg "len" = none) (ha : DE X cm a ta fa) (hg : Gl X "len" := by rfl) (he : starEach [a] X.env = (false, eval a X.env) :: starEach [] X.env := by rfl) (hpl : (backTo pos (starEach [] X.env)).any (·.1) = false := by rfl) :
    DE X cm (.Call (.Name "len" p) [a] [] pos) (tCB (fun xs H Q => ∃ x n, xs = [x] ∧ LenV X.K x H n ∧ Q (.int n) H) (tCons ta tNil)) (m1 (fun d => lenF (.val d)) fa) := by
  refine ⟨pe_callB call_len hg hm PySem.boot_len (pa_cons ha.pe pa_nil he) (by decide) (by decide) he hpl, sm_cb1 (fun F H x a d Q r fh e k => ?_) ha.sm⟩
  unfold lenF at e
  split at e
  · rename_i z q
    cases q
    by_cases c : z.length ≤ 16777216
    · rw [if_pos c] at e; cases e
      cases r; exact ⟨_, _, rfl, ⟨size_le c, rfl⟩, k _ (.int _)⟩
    · rw [if_neg c] at e; cases e
  · obtain ⟨ds, e1, rfl⟩ := map_some e
    obtain ⟨p, vs, rfl, hs, ra⟩ := (OwF.val r : OwF X.K cm F H x (.val a) fun _ => False).seq fh e1
    refine ⟨_, vs.length, rfl, ?_, by rw [ra.len]; exact k _ (.int _)⟩
    rcases hs with hs | hs
    · exact .inl ⟨vs, hs, rfl⟩
    · exact .inr ⟨vs, hs, rfl⟩
theorem sm_isi {c : V} {u : Value} {g : D → Option D} {fa : M D} (hc : ClsV c u) (hr : ∀ F H x a d, Rp X.K cm F x a → SmH F H → g a = some d → ∃ t b, TyX X.K H x t ∧ PySem.W.kitOne X.K t u = some b ∧ d = .bl b) (ha : Sm X.K cm ta fa) : Sm X.K cm (tCB (rIsi X.K) (tCons ta (tCons (tC c) tNil))) (m1 g fa) := fun F H σ env O d env' Q s e k => by
  obtain ⟨x, env1, e1, e⟩ := mb_some e
  obtain ⟨e3, e4⟩ := mo_some e
  dsimp only at e3 e4
  subst e4
  refine ha F H σ env O x _ _ s e1 fun F1 H1 v O1 g1 s1 r1 => ?_
  obtain ⟨t, b, ty, e5, rfl⟩ := hr F1 H1 v x d r1 s1.fh e3
  exact ⟨v, c, t, u, b, rfl, hc, ty, e5, k F1 H1 _ O1 g1 s1 (.bl _)⟩
theorem de_isi {p p2 : Pos} {x : Str} {T : String} {tab : Nat → Option Bool} {fa : M D} (hm : X.mg "isinstance" = none) (hmT : X.mg x = none) (hvT : bootBuiltins x = some (.type T)) (hc : ∀ c b, tab c = some b → PySem.W.kitOne X.K (.ref (cm c)) (.type T) = some b) (ha : DE X cm a ta fa)
    (hg : Gl X "isinstance" := by rfl) (hgT : Gl X x := by rfl) (hn : x ≠ "__name__" := by decide) (hd : (x == ("__debug__" : Str)) = false := by decide)
    (he : starEach [a, .Name x p2] X.env = (false, eval a X.env) :: starEach [.Name x p2] X.env := by rfl) (he2 : starEach [.Name x p2] X.env = (false, eval (.Name x p2) X.env) :: starEach [] X.env := by rfl) (hpl : (backTo pos (starEach [.Name x p2] X.env)).any (·.1) = false := by rfl) :
    DE X cm (.Call (.Name "isinstance" p) [a, .Name x p2] [] pos) (tCB (rIsi X.K) (tCons ta (tCons (tC (.ty T)) tNil))) (m1 (isiB T tab) fa) := by
  refine ⟨pe_callB call_isi hg hm (by rfl) (pa_cons ha.pe (pa_cons (pe_bltn hgT hmT hvT rfl hn hd) pa_nil he2) he) (by decide) (by decide) he hpl, sm_isi (.ty T) (fun F H x a d r fh e => ?_) ha.sm⟩
  unfold isiB at e
  split at e
  · obtain ⟨b, e2, rfl⟩ := map_some e
    exact ⟨_, b, r.tyO fh, hc _ _ e2, rfl⟩
  · obtain ⟨S, e2, e⟩ := bind_some e
    obtain ⟨b, e3, rfl⟩ := map_some e
    exact ⟨_, b, r.tyX fh e2, kit_ty e3, rfl⟩
theorem de_isC {p p2 : Pos} {x : Str} {n : Nat} {tab : Nat → Option Bool} {fa : M D} (hm : X.mg "isinstance" = none) (hmC : X.mg x = some (.ref (cm n))) (hb : ∀ S ∈ ["NoneType", "bool", "int", "str", "list", "tuple", "dict"], PySem.W.kitOne X.K (.type S) (.ref (cm n)) = some false)
    (hc : ∀ c b, tab c = some b → PySem.W.kitOne X.K (.ref (cm c)) (.ref (cm n)) = some b) (ha : DE X cm a ta fa)
    (hg : Gl X "isinstance" := by rfl) (hgT : Gl X x := by rfl) (hd : (x == ("__debug__" : Str)) = false := by decide)
    (he : starEach [a, .Name x p2] X.env = (false, eval a X.env) :: starEach [.Name x p2] X.env := by rfl) (he2 : starEach [.Name x p2] X.env = (false, eval (.Name x p2) X.env) :: starEach [] X.env := by rfl) (hpl : (backTo pos (starEach [.Name x p2] X.env)).any (·.1) = false := by rfl) :
    DE X cm (.Call (.Name "isinstance" p) [a, .Name x p2] [] pos) (tCB (rIsi X.K) (tCons ta (tCons (tC (.ref (cm n))) tNil))) (m1 (isiC tab) fa) := by
  refine ⟨pe_callB call_isi hg hm (by rfl) (pa_cons ha.pe (pa_cons (pe_glob hgT hmC rfl hd) pa_nil he2) he) (by decide) (by decide) he hpl, sm_isi (.own _) (fun F H x a d r fh e => ?_) ha.sm⟩
  unfold isiC at e
  split at e
  · obtain ⟨b, e2, rfl⟩ := map_some e
    exact ⟨_, b, r.tyO fh, hc _ _ e2, rfl⟩
  · obtain ⟨S, e2, rfl⟩ := map_some e
    have hS : S ∈ ["NoneType", "bool", "int", "str", "list", "tuple", "dict"] := by
      cases a <;> cases e2 <;> decide
    exact ⟨_, false, r.tyX fh e2, hb S hS, rfl⟩
theorem kit_none {K : PySem.W.Frag} {cm : Cm} {T : String} : ∀ c b, (fun _ : Nat => (none : Option Bool)) c = some b → PySem.W.kitOne K (.ref (cm c)) (.type T) = some b := fun c b e => nomatch e
end
section
variable {P : Program} {w : World} {K : PySem.W.Frag} {mg : Str → Option Value} {base : Heap} {cm : Cm}
/-- THE RULE for a def: its body's meaning is what it does with its arguments -/
theorem fn_dx {x qual : Str} {st : Stmt} {f : Addr} {fd : FuncData} {N ps : List Str} {k : Nat} {B : List Nat} {g : G} {p : Fn} {n : Nat} (Fu : Fun K x qual st f fd) (S : FnScope N ps (defScope st)) (hle : ps.length ≤ N.length) (hp : p = runD ps.length N.length B g) (hn : n = ps.length)
    (hbody : ∀ (cdv : Value) (A : Around) (outer : List PySem.Env) (s : Shared) (H : Hp) (E : XK), Room k (A.deeper (envOfC qual (defScope st) s.heap.objs.size f cdv)) → ∃ ts, DSs (cxOf CX0 P w K mg base N qual (defScope st) f cdv A outer s H E).nox cm B (defBody st) ts g) :
    FnOk P w K mg base CX0 (k + 1) f fd ps (spD K cm p n) := by
  subst hp hn
  refine Fu.ok S (fun vs H Q E h => h.1) fun cdv A outer s H vs Q E hr h => ?_
  obtain ⟨hl, F, args, O, o, args', s1, e, kk⟩ := h
  obtain ⟨ts, D⟩ := hbody cdv A outer s H E hr
  refine ⟨ts, D.pe, ?_⟩
  unfold runD at e
  have ha : args.length = ps.length := by rw [← s1.len, List.length_map]; exact hl
  rw [if_pos ha] at e
  obtain ⟨⟨out, env1⟩, e1, e2⟩ := bind_some e
  have es : L2.start N vs = vs.map some ++ List.replicate (N.length - ps.length) none := by unfold L2.start; rw [hl]
  rw [es]
  refine D.sm F H _ _ O out env1 _ (s1.more (N.length - ps.length)) e1 ?_
  cases out with
  | nx =>
    have e2 : some ((.fd (.val .non) : Od), outA B args env1) = some (o, args') := e2
    cases e2
    intro F' H' σ' O' g' s' b'
    exact kk F' H' .non _ (fun _ => False) (g'.sub fun p z => z.elim False.elim un_sub) (s1.back s' b' g'.ff) (.fd (.val .non)) fun p z => z.elim
  | rt o1 =>
    have e2 : some (o1, outA B args env1) = some (o, args') := e2
    cases e2
    intro F' H' σ' v O' R g' s' b' ow n
    exact kk F' H' v _ R (g'.sub fun p z => z.imp id un_sub) (s1.back s' b' g'.ff) ow fun p z => ⟨(n p z).1, (n p z).2.1, fun w => (n p z).2.2 (un_sub w)⟩
  | bk => cases e2
  | ct => cases e2
end
end DL
namespace DL
open PySem PySem.Spec PyProof.Rows L2
section
variable {X : Cx} {cm : Cm} {B : List Nat} {tg e a b c l : Expr} {es : List Expr} {te ta tb tc tl : TE} {pos : Pos} {fb : P D} {fx : P Fd}
theorem dp_neg {fa : P D} (ha : DP X cm a ta fa) : DP X cm (.UnaryOp .USub a pos) (tUn (rU fun i => .int (-i)) ta) (p1 negD fa) := ⟨pe_un un_neg ha.pe, fun F H σ env O d Q s e k => by
  obtain ⟨x, e1, e⟩ := bind_some e
  refine ha.sm F H σ env O x _ s e1 fun v r => ?_
  cases x <;> cases e
  cases r
  exact ⟨_, rfl, k _ (.int _)⟩⟩
def int1D : D → Option D
  | .int i => some (.int i)
  | .bl k => some (.int (if k then 1 else 0))
  | _ => none
theorem int1_core {K : PySem.W.Frag} {F H : Hp} {x : V} {a d : D} {Q : VK} (r : Rp K cm F x a) (e : int1D a = some d) (k : ∀ v, Rp K cm F v d → Q v H) : (∃ i, [x] = [V.int i] ∧ Q (.int i) H) ∨ ∃ k, [x] = [V.bl k] ∧ Q (.int (if k then 1 else 0)) H := by
  cases a <;> cases e
  · cases r; exact .inr ⟨_, rfl, k _ (.int _)⟩
  · cases r; exact .inl ⟨_, rfl, k _ (.int _)⟩
theorem dp_intc {p : Pos} {fa : P D} (hm : X.mg "int" = none) (ha : DP X cm a ta fa) (hg : Gl X "int" := by rfl) (he : starEach [a] X.env = (false, eval a X.env) :: starEach [] X.env := by rfl) (hpl : (backTo pos (starEach [] X.env)).any (·.1) = false := by rfl) :
    DP X cm (.Call (.Name "int" p) [a] [] pos) (tCB (fun xs H Q => (∃ i, xs = [.int i] ∧ Q (.int i) H) ∨ ∃ k, xs = [.bl k] ∧ Q (.int (if k then 1 else 0)) H) (tCons ta tNil)) (p1 int1D fa) :=
  ⟨pe_callTy call_int1 hg hm (by decide +kernel) (pa_cons ha.pe pa_nil he) (by decide) (by decide) he hpl, fun F H σ env O d Q s e k => by
    obtain ⟨x, e1, e⟩ := bind_some e
    exact ha.sm F H σ env O x _ s e1 fun v r => int1_core r e k⟩
theorem de_intc {p : Pos} {fa : M D} (hm : X.mg "int" = none) (ha : DE X cm a ta fa) (hg : Gl X "int" := by rfl) (he : starEach [a] X.env = (false, eval a X.env) :: starEach [] X.env := by rfl) (hpl : (backTo pos (starEach [] X.env)).any (·.1) = false := by rfl) :
    DE X cm (.Call (.Name "int" p) [a] [] pos) (tCB (fun xs H Q => (∃ i, xs = [.int i] ∧ Q (.int i) H) ∨ ∃ k, xs = [.bl k] ∧ Q (.int (if k then 1 else 0)) H) (tCons ta tNil)) (m1 int1D fa) :=
  ⟨pe_callTy call_int1 hg hm (by decide +kernel) (pa_cons ha.pe pa_nil he) (by decide) (by decide) he hpl, sm_cb1 (fun F H x a d Q r fh e k => int1_core r e k) ha.sm⟩
/-- tests of data or of instances -/
theorem dt_eqA {k : Nat} {cl : List Nat} {nf : Nat → Nat → Bool} {f : Addr} {fd : FuncData} {ps : List Str} {p : Fn} {fa fb : M D} (Fo : FnOk X.prog X.w X.K X.mg X.base CX0 k f fd ps (spD X.K cm p 2)) (hr : Room (k + 1) X.A) (hbi : Binds X.K fd ps []) (he : EqF X.K cm cl f) (hf : PySem.W.isFn X.K (.ref f) = true) (N : NfF X.K cm cl nf)
    (ha : DE X cm a ta fa) (hb : DE X cm b tb fb) : DT X cm (.Compare a [.Eq] [b] pos) (tTest (tOp (fun x y H Q => rEqD X.K x y H Q ∨ rOEq X.K cm cl (spD X.K cm p 2) x y H Q) ta tb)) (tst (m2 (eqA cl nf p) fa fb)) :=
  ⟨pt_cmpR (.or (op_eqD hr.units) (op_oeq Fo (hr.mono (Nat.le_succ _)) hbi he hf)) ha.pe hb.pe (nomark _), smt_of (de_eqA (pos := pos) Fo hr hbi he hf N ha hb).sm⟩
theorem dt_neA {k : Nat} {cl : List Nat} {nf : Nat → Nat → Bool} {f : Addr} {fd : FuncData} {ps : List Str} {p : Fn} {fa fb : M D} (Fo : FnOk X.prog X.w X.K X.mg X.base CX0 k f fd ps (spD X.K cm p 2)) (hr : Room (k + 1) X.A) (hbi : Binds X.K fd ps []) (he : EqF X.K cm cl f) (hne : ∀ c ∈ cl, NeF X.K (cm c)) (hf : PySem.W.isFn X.K (.ref f) = true) (N : NfF X.K cm cl nf)
    (ha : DE X cm a ta fa) (hb : DE X cm b tb fb) : DT X cm (.Compare a [.NotEq] [b] pos) (tTest (tOp (fun x y H Q => rNeD X.K x y H Q ∨ rOEq X.K cm cl (spD X.K cm p 2) x y H fun v H' => ∃ z, v = .bl z ∧ Q (.bl (!z)) H') ta tb)) (tst (m2 (neA cl nf p) fa fb)) :=
  ⟨pt_cmpR (.or (op_neD hr.units) (op_one Fo hr hbi he hne hf)) ha.pe hb.pe (nomark _), smt_of (de_neA (pos := pos) Fo hr hbi he hne hf N ha hb).sm⟩
end
end DL

/-! The data layer: the law itself. -/
namespace DL
open PySem PySem.Spec PyProof.Rows L2

def spLaw (n : Nat) (K : PySem.W.Frag) : Sp := fun vs H Q _ => ∃ (a : Addr) (ns : List Int), vs = [.ref a] ∧ SqL K H a (ns.map V.int) ∧ ns.length ≤ n ∧ ∀ H', Q (.bl true) H'
theorem law_ok {P : Program} {w : World} {K : PySem.W.Frag} {mg : Str → Option Value} {base : Heap} {cm : Cm} {k n : Nat} {f : Addr} {fd : FuncData} {ps : List Str} {p : Fn} (F : FnOk P w K mg base CX0 k f fd ps (spD K cm p 1))
    (h : ∀ ns : List Int, ns.length ≤ n → ∃ env, p [some (.fd (.val (.scr ns)))] = some (.fd (.val (.bl true)), env)) : FnOk P w K mg base CX0 k f fd ps (spLaw n K) := by
  refine F.imp fun vs H Q E ⟨a, ns, e, hS, hl, q⟩ => ?_
  subst e
  obtain ⟨env, e⟩ := h ns hl
  obtain ⟨F0, h0, h1, h2⟩ : ∃ F0 : Hp, SmH F0 H ∧ MM K cm F0 H ∧ SqL K F0 a (ns.map V.int) := by
    rcases hS with hS | hS
    · obtain ⟨u0, hu, hx, hS⟩ : ∃ u0, H a = some u0 ∧ NX u0 ∧ ∀ F0 : Hp, F0 a = some u0 → L2.Rd F0 a (.lst (ns.map V.int)) := by
        rcases hS with hS | ⟨o, hS⟩
        · exact ⟨_, hS, fun _ _ z => (nomatch z), fun _ z => .inl z⟩
        · exact ⟨_, hS, fun _ _ z => (nomatch z), fun _ z => .inr ⟨o, z⟩⟩
      have hz : ∀ p u, upd (fun _ => none) a u0 p = some u → p = a ∧ u = u0 := fun p u e => by
        by_cases c : p = a
        · subst c; rw [upd_same] at e; exact ⟨rfl, (Option.some.inj e).symm⟩
        · rw [upd_ne c] at e; cases e
      refine ⟨upd (fun _ => none) a u0, fun p u e => ?_, fun p n ps e => ?_, .inl (hS _ upd_same)⟩
      · obtain ⟨rfl, rfl⟩ := hz p u e
        exact ⟨fun _ => hu, _, hu⟩
      · obtain ⟨_, z⟩ := hz p _ e
        exact (hx _ _ z.symm).elim
    · exact ⟨fun _ => none, fun p u e => (nomatch e), fun p n ps e => (nomatch e), .inr hS⟩
  have r : RpA K cm F0 [.ref a] [.scr ns] := .cons (.scr h2) .nil
  refine ⟨rfl, F0, vals [.scr ns], _, _, env, sts_vals h0 h1 r, e, ?_⟩
  intro F' H' v O' R _ _ ow _
  cases ow with
  | fd rr => cases rr with
    | val rr =>
      cases rr
      exact q _
theorem walk {l : PySem.W.OpenLaw} {n k : Nat} {q : Program} {loose : List Str} {XP : (Str → Option Value) → Heap → Prop} {YP : World → Heap → Prop} {d : DefRec} {K : Params → PySem.W.Frag} {x : Str} (hn : l.most = some n) (hn2 : n ≤ sizeLine) (hdf : d.params.defaults = []) (hr : Room k callerA)
    (hY : ∀ (w : World) (h : Heap), YP w h → (K w.params).In h)
    (F : ∀ (w : World) (mg : Str → Option Value) (fa : Addr) (h : Heap), (K w.params).In h → h.Ns mainGlobals mg → mg d.name = some (.ref fa) →
      ∃ fd : FuncData, (∀ (s : Shared) (u : Value), BindsTo s fd ⟨[u], []⟩ [(x, u)]) ∧ ∀ base : Heap, (K w.params).In base → base.Ns mainGlobals mg → FnOk l.prog w (K w.params) mg base CX0 k fa fd [x] (spLaw n (K w.params))) :
    PySem.W.WalkO q loose XP YP l.row.toRowW d [] (fun f vs => PySem.call f vs) :=
  L2.walk_of (n := n) (k := k) (x := x) (CX := fun _ => CX0) (sp := fun w => spLaw n (K w.params)) hn hn2 hdf hr hY F (fun _ _ a ns hl _ hS => ⟨a, ns, rfl, hS, hl, fun _ => rfl⟩) fun _ _ _ _ _ z => z
theorem kit_t {K : PySem.W.Frag} {C : Addr} {T : String} {b : Bool} (s : PySem.W.subIn K (.ref C) (.type T) = some b) (m : PySem.W.kitMeta T = true := by decide +kernel) : PySem.W.kitOne K (.ref C) (.type T) = some b := by
  unfold PySem.W.kitOne PySem.W.kitCls
  rw [if_neg (by simp)]
  dsimp only
  rw [if_pos m]; exact s
theorem kit_r {K : PySem.W.Frag} {C : Addr} {t : Value} {b : Bool} (i : PySem.W.isClsIn K C = true) (m : PySem.W.typeIn K (.ref C) = some (.type "type")) (s : PySem.W.subIn K t (.ref C) = some b) (n : t ≠ .ref C) : PySem.W.kitOne K t (.ref C) = some b := by
  unfold PySem.W.kitOne PySem.W.kitCls
  rw [if_neg (by simpa using n)]
  dsimp only
  rw [if_pos (by rw [show (PySem.W.clsIn K C).isSome = true from i, m]; rfl)]; exact s
theorem kit_s {K : PySem.W.Frag} {C : Addr} : PySem.W.kitOne K (.ref C) (.ref C) = some true := by
  unfold PySem.W.kitOne
  rw [if_pos (by simp)]
end DL

/-! The data layer: dicts, keys ints, texts or tuples of these. -/
namespace DL
open PySem PySem.Spec PyProof.Rows L2

theorem hu_1 {u c : Nat} (h : u + 64 < c) : u + 1 < c := by omega
/-! ### keys -/
def toK : D → Option L2.Key
  | .int i => some (.inl i)
  | .str x => some (.inr x)
  | _ => none
def toKs : List D → Option (List L2.Key)
  | [] => some []
  | d :: ds => (toK d).bind fun k => (toKs ds).map (k :: ·)
def toTK (d : D) : Option (List L2.Key) := match d with
  | .tup ds => toKs ds
  | _ => none
section
variable {K : PySem.W.Frag} {cm : Cm} {F H : Hp}
theorem Rp.toK {v : V} {d : D} {k : L2.Key} (r : Rp K cm F v d) (e : toK d = some k) : v = kV k := by
  cases r <;> cases e <;> rfl
theorem RpA.toKs : ∀ {vs : List V} {ds : List D} {ks : List L2.Key}, RpA K cm F vs ds → toKs ds = some ks → vs = ks.map kV
  | _, _, _, .nil, e => by unfold DL.toKs at e; cases e; rfl
  | _, _, ks, .cons h r, e => by
    unfold DL.toKs at e
    obtain ⟨k, e1, e⟩ := bind_some e
    obtain ⟨q, e2, rfl⟩ := map_some e
    rw [List.map_cons, h.toK e1, RpA.toKs r e2]
theorem Rp.toTK {v : V} {d : D} {k : List L2.Key} (r : Rp K cm F v d) (e : toTK d = some k) : ∃ b, v = .ref b ∧ F b = some (.tup (k.map kV)) := by
  cases r <;> try (cases e; done)
  rename_i h ra
  have := ra.toKs e
  subst this
  exact ⟨_, rfl, h⟩
end
/-! ### what a dict holds -/
section
variable {κ : Type} [DecidableEq κ]
def dget (ks : List (κ × D)) (k : κ) : Option D := (ks.find? fun kv => decide (kv.1 = k)).map (·.2)
def dput (ks : List (κ × D)) (k : κ) (d : D) : List (κ × D) := if (ks.any fun kv => decide (kv.1 = k)) = true then ks.map (fun kv => if kv.1 = k then (kv.1, d) else kv) else ks ++ [(k, d)]
variable {K : PySem.W.Frag} {cm : Cm} {F H : Hp}
theorem dget_rel (k : κ) : ∀ {kvs : List (κ × V)} {ks : List (κ × D)}, kvs.map (·.1) = ks.map (·.1) → RpA K cm F (kvs.map (·.2)) (ks.map (·.2)) → (valV kvs k).isSome = (dget ks k).isSome ∧ ∀ d, dget ks k = some d → ∃ v, valV kvs k = some v ∧ Rp K cm F v d
  | [], [], _, _ => ⟨rfl, fun d e => by cases e⟩
  | [], _ :: _, h, _ => by cases h
  | _ :: _, [], h, _ => by cases h
  | (a, v) :: kvs, (b, d) :: ks, h, r => by
    rw [List.map_cons, List.map_cons] at h
    obtain ⟨h1, h2⟩ := List.cons.inj h
    have h1 : a = b := h1
    subst h1
    rw [List.map_cons, List.map_cons] at r
    cases r with
    | cons r0 r =>
      obtain ⟨i1, i2⟩ := dget_rel k h2 r
      by_cases q : a = k
      · rw [valV_pos (p := (a, v)) q]
        have e : dget ((a, d) :: ks) k = some d := by simp [dget, List.find?_cons, q]
        rw [e]
        exact ⟨rfl, fun d' e' => by cases e'; exact ⟨v, rfl, r0⟩⟩
      · rw [valV_neg (p := (a, v)) q]
        have e : dget ((a, d) :: ks) k = dget ks k := by simp [dget, List.find?_cons, q]
        rw [e]
        exact ⟨i1, i2⟩
theorem dput_rel (k : κ) {kvs : List (κ × V)} {ks : List (κ × D)} {v : V} {d : D} (h : kvs.map (·.1) = ks.map (·.1)) (r : RpA K cm F (kvs.map (·.2)) (ks.map (·.2))) (rv : Rp K cm F v d) :
    (putK kvs k v).map (·.1) = (dput ks k d).map (·.1) ∧ RpA K cm F ((putK kvs k v).map (·.2)) ((dput ks k d).map (·.2)) := by
  have ha : (kvs.any fun kv => decide (kv.1 = k)) = (ks.any fun kv => decide (kv.1 = k)) := by
    have e1 : (kvs.any fun kv => decide (kv.1 = k)) = (kvs.map (·.1)).any fun a => decide (a = k) := by rw [List.any_map]; rfl
    have e2 : (ks.any fun kv => decide (kv.1 = k)) = (ks.map (·.1)).any fun a => decide (a = k) := by rw [List.any_map]; rfl
    rw [e1, e2, h]
  unfold putK dput
  rw [ha]
  by_cases c : (ks.any fun kv => decide (kv.1 = k)) = true
  · rw [if_pos c, if_pos c]
    clear ha c
    induction kvs generalizing ks with
    | nil => cases ks with
      | nil => exact ⟨rfl, .nil⟩
      | cons => cases h
    | cons p kvs ih => cases ks with
      | nil => cases h
      | cons q ks =>
        rw [List.map_cons, List.map_cons] at h r
        obtain ⟨h1, h2⟩ := List.cons.inj h
        cases r with
        | cons r0 r =>
          obtain ⟨i1, i2⟩ := ih h2 r
          rw [List.map_cons, List.map_cons, List.map_cons, List.map_cons, List.map_cons, List.map_cons]
          by_cases c : p.1 = k
          · have c2 : q.1 = k := h1 ▸ c
            rw [if_pos c, if_pos c2]
            exact ⟨by rw [i1, h1], .cons rv i2⟩
          · have c2 : ¬ q.1 = k := fun e => c (h1.trans e)
            rw [if_neg c, if_neg c2]
            exact ⟨by rw [i1, h1], .cons r0 i2⟩
  · rw [if_neg c, if_neg c, List.map_append, List.map_append, List.map_append, List.map_append, h]
    exact ⟨rfl, r.app (.cons rv .nil)⟩
end
def dgetF (x : Fd) (k : D) : Option (Option D) := match x with
  | .dik ks => (toK k).map fun q => dget ks q
  | .val (.dik ks) => (toK k).map fun q => dget ks q
  | .dit ks => (toTK k).map fun q => dget ks q
  | .val (.dit ks) => (toTK k).map fun q => dget ks q
  | .val (.lik ks) => (toK k).map fun q => dget ks q
  | .val (.lit ks) => (toTK k).map fun q => dget ks q
  | _ => none
section
variable {K : PySem.W.Frag} {cm : Cm} {F H : Hp}
theorem dget_at {v w : V} {x : Fd} {S : Rg} {k : D} {r : Option D} (ow : OwF K cm F H v x S) (fh : SmH F H) (rk : Rp K cm F w k) (e : dgetF x k = some r) :
    ∃ a o, v = .ref a ∧ DGet H a w o ∧ o.isSome = r.isSome ∧ ∀ d, r = some d → ∃ u, o = some u ∧ Rp K cm F u d := by
  cases ow with
  | val rr =>
    cases rr <;> try (cases e; done)
    · rename_i h1 h2 h3
      obtain ⟨q, e1, rfl⟩ := map_some (show (toK k).map _ = some r from e)
      obtain ⟨i1, i2⟩ := dget_rel q h2 h3
      have := rk.toK e1
      subst this
      exact ⟨_, _, rfl, .k (fh.at h1), i1, i2⟩
    · rename_i h1 h2 h3
      obtain ⟨q, e1, rfl⟩ := map_some (show (toTK k).map _ = some r from e)
      obtain ⟨i1, i2⟩ := dget_rel q h2 h3
      obtain ⟨b, rfl, hb⟩ := rk.toTK e1
      exact ⟨_, _, rfl, .t (fh.at h1) (fh.at hb), i1, i2⟩
    · rename_i h1 h2 h3
      obtain ⟨q, e1, rfl⟩ := map_some (show (toK k).map _ = some r from e)
      obtain ⟨i1, i2⟩ := dget_rel q h2 h3
      have := rk.toK e1
      subst this
      exact ⟨_, _, rfl, .inl ⟨_, _, fh.rd h1, rfl, rfl⟩, i1, i2⟩
    · rename_i h1 h2 h3
      obtain ⟨q, e1, rfl⟩ := map_some (show (toTK k).map _ = some r from e)
      obtain ⟨i1, i2⟩ := dget_rel q h2 h3
      obtain ⟨b, rfl, hb⟩ := rk.toTK e1
      exact ⟨_, _, rfl, .inr ⟨_, _, _, fh.rd h1, rfl, fh.at hb, rfl⟩, i1, i2⟩
  | lst => cases e
  | dik h1 h2 h3 z =>
    obtain ⟨q, e1, rfl⟩ := map_some (show (toK k).map _ = some r from e)
    obtain ⟨i1, i2⟩ := dget_rel q h2 h3
    have := rk.toK e1
    subst this
    exact ⟨_, _, rfl, .k h1, i1, i2⟩
  | dit h1 h2 h3 z =>
    obtain ⟨q, e1, rfl⟩ := map_some (show (toTK k).map _ = some r from e)
    obtain ⟨i1, i2⟩ := dget_rel q h2 h3
    obtain ⟨b, rfl, hb⟩ := rk.toTK e1
    exact ⟨_, _, rfl, .t h1 (fh.at hb), i1, i2⟩
end
section
variable {X : Cx} {cm : Cm} {B : List Nat} {e a b c : Expr} {es : List Expr} {te ta tb tc : TE} {pos : Pos} {f g fa fb fc : P D} {fx : P Fd}
def pdg (fx : P Fd) (fb : P D) : P D := fun env => (fx env).bind fun x => (fb env).bind fun k => (dgetF x k).join
theorem join2_some {α : Type} {o : Option (Option α)} {a : α} (h : o.join = some a) : o = some (some a) := by
  cases o with
  | none => cases h
  | some x => exact congrArg some h
theorem dp_dget (hu : X.A.units + 1 < cLine) (ho : DX X cm a ta fx) (hi : DP X cm b tb fb) (hs : NoSl b := by exact fun _ _ => rfl) : DP X cm (.Subscript a b pos) (tDGet ta tb) (pdg fx fb) := ⟨pe_dget hu ho.pe hi.pe hs, fun F H σ env O d Q s e k => by
  obtain ⟨x, e1, e⟩ := bind_some e
  obtain ⟨y, e2, e⟩ := bind_some e
  refine ho.sm F H σ env O x _ s e1 fun v S ow => hi.sm F H σ env O y _ s e2 fun w rk => ?_
  obtain ⟨q, o, rfl, g, _, i2⟩ := dget_at ow s.fh rk (join2_some e)
  obtain ⟨u, rfl, ru⟩ := i2 d rfl
  exact ⟨q, u, rfl, g, k u ru⟩⟩
def pdi (neg : Bool) (fx : P Fd) (fb : P D) : P D := fun env => (fb env).bind fun k => (fx env).bind fun x => (dgetF x k).map fun r => .bl (if neg = true then !r.isSome else r.isSome)
theorem sp_din {neg : Bool} {te : TE} (hte : ∀ σ H Q, te σ H Q = tb σ H fun y H1 => ta σ H1 fun x H2 => ∃ a o, x = .ref a ∧ DGet H2 a y o ∧ Q (.bl (if neg = true then !o.isSome else o.isSome)) H2) (ho : Spx X.K cm ta fx) (hi : Spu X.K cm tb fb) : Spu X.K cm te (pdi neg fx fb) := fun F H σ env O d Q s e k => by
  obtain ⟨y, e2, e⟩ := bind_some e
  obtain ⟨x, e1, e⟩ := bind_some e
  obtain ⟨r, e3, rfl⟩ := map_some e
  rw [hte]
  refine hi F H σ env O y _ s e2 fun w rk => ho F H σ env O x _ s e1 fun v S ow => ?_
  obtain ⟨q, o, rfl, g, i1, _⟩ := dget_at ow s.fh rk e3
  refine ⟨q, o, rfl, g, ?_⟩
  rw [i1]
  exact k _ (.bl _)
theorem dp_din (hu : X.A.units + 1 < cLine) (hi : DP X cm b tb fb) (ho : DX X cm a ta fx) (hm : behindInMarks .In a = false := by with_unfolding_all rfl) : DP X cm (.Compare b [.In] [a] pos) (tDIn tb ta) (pdi false fx fb) := ⟨pe_cmp (pc_din hu hi.pe ho.pe) hm, sp_din (neg := false) (fun _ _ _ => rfl) ho.sm hi.sm⟩
theorem dp_dnin (hu : X.A.units + 1 < cLine) (hi : DP X cm b tb fb) (ho : DX X cm a ta fx) (hm : behindInMarks .NotIn a = false := by with_unfolding_all rfl) : DP X cm (.Compare b [.NotIn] [a] pos) (tDNotIn tb ta) (pdi true fx fb) := ⟨pe_cmp (pc_dnotin hu hi.pe ho.pe) hm, sp_din (neg := true) (fun _ _ _ => rfl) ho.sm hi.sm⟩
theorem dq_din (hu : X.A.units + 1 < cLine) (hi : DP X cm b tb fb) (ho : DX X cm a ta fx) (hm : behindInMarks .In a = false := by with_unfolding_all rfl) : DQ X cm (.Compare b [.In] [a] pos) (tB (tDIn tb ta)) (tq (pdi false fx fb)) := ⟨pt_cmp (pc_din hu hi.pe ho.pe) hm, spt_of (sp_din (neg := false) (fun _ _ _ => rfl) ho.sm hi.sm)⟩
theorem dq_dnin (hu : X.A.units + 1 < cLine) (hi : DP X cm b tb fb) (ho : DX X cm a ta fx) (hm : behindInMarks .NotIn a = false := by with_unfolding_all rfl) : DQ X cm (.Compare b [.NotIn] [a] pos) (tB (tDNotIn tb ta)) (tq (pdi true fx fb)) := ⟨pt_cmp (pc_dnotin hu hi.pe ho.pe) hm, spt_of (sp_din (neg := true) (fun _ _ _ => rfl) ho.sm hi.sm)⟩
/-- the key reckoned with effects -/
def mdi (neg : Bool) (fx : P Fd) (fb : M D) : M D := mb fb fun k => pu fun env => (fx env).bind fun x => (dgetF x k).map fun r => .bl (if neg = true then !r.isSome else r.isSome)
theorem sm_din {neg : Bool} {te : TE} {fb : M D} (hte : ∀ σ H Q, te σ H Q = tb σ H fun y H1 => ta σ H1 fun x H2 => ∃ a o, x = .ref a ∧ DGet H2 a y o ∧ Q (.bl (if neg = true then !o.isSome else o.isSome)) H2) (ho : Spx X.K cm ta fx) (hi : Sm X.K cm tb fb) : Sm X.K cm te (mdi neg fx fb) := fun F H σ env O d env' Q s e k => by
  obtain ⟨y, env1, e2, e⟩ := mb_some e
  obtain ⟨d', e, e9⟩ := map_some e
  cases e9
  obtain ⟨x, e1, e⟩ := bind_some e
  obtain ⟨r, e3, rfl⟩ := map_some e
  rw [hte]
  refine hi F H σ env O y _ _ s e2 fun F1 H1 w O1 g1 s1 rk => ho F1 H1 σ _ O1 x _ s1 e1 fun v S ow => ?_
  obtain ⟨q, o, rfl, g, i1, _⟩ := dget_at ow s1.fh rk e3
  refine ⟨q, o, rfl, g, ?_⟩
  rw [i1]
  exact k F1 H1 _ O1 g1 s1 (.bl _)
theorem de_din {fb : M D} (hu : X.A.units + 1 < cLine) (hi : DE X cm b tb fb) (ho : DX X cm a ta fx) (hm : behindInMarks .In a = false := by with_unfolding_all rfl) : DE X cm (.Compare b [.In] [a] pos) (tDIn tb ta) (mdi false fx fb) := ⟨pe_cmp (pc_din hu hi.pe ho.pe) hm, sm_din (neg := false) (fun _ _ _ => rfl) ho.sm hi.sm⟩
theorem de_dnin {fb : M D} (hu : X.A.units + 1 < cLine) (hi : DE X cm b tb fb) (ho : DX X cm a ta fx) (hm : behindInMarks .NotIn a = false := by with_unfolding_all rfl) : DE X cm (.Compare b [.NotIn] [a] pos) (tDNotIn tb ta) (mdi true fx fb) := ⟨pe_cmp (pc_dnotin hu hi.pe ho.pe) hm, sm_din (neg := true) (fun _ _ _ => rfl) ho.sm hi.sm⟩
def mdg (i : Nat) (fb : M D) : M D := fun env => ((env[i]?).join).bind fun _ => mb fb (fun k => pu fun env => (px i env).bind fun x => (dgetF x k).join) env
theorem de_dgetS (i : Nat) {x : Str} {px' : Pos} {fb : M D} (hu : X.A.units + 1 < cLine) (hi : DE X cm b tb fb) (hN : X.N[i]? = some x := by rfl) (hv : Vis X.env.scope x := by first | exact Or.inl rfl | exact Or.inr (Or.inl rfl) | exact Or.inr (Or.inr rfl)) (hd : (x == ("__debug__" : Str)) = false := by decide)
    (hcd : (x == ("__classdict__" : Str)) = false := by decide) (hs : NoSl b := by exact fun _ _ => rfl) : DE X cm (.Subscript (.Name x px') b pos) (tDGet (tVar i) tb) (mdg i fb) := ⟨pe_dget hu (pe_var hN hv hd hcd) hi.pe hs, fun F H σ env O d env' Q s e k => by
  obtain ⟨o0, e0, e⟩ := bind_some e
  obtain ⟨y, env1, e2, e⟩ := mb_some e
  obtain ⟨d', e, e9⟩ := map_some e
  cases e9
  obtain ⟨z, e1, e⟩ := bind_some e
  obtain ⟨v0, ev0, _⟩ := s.at_ i o0 (join2_some e0)
  refine ⟨v0, ev0, hi.sm F H σ env O y _ _ s e2 fun F1 H1 w O1 g1 s1 rk => ?_⟩
  unfold px at e1
  split at e1
  · rename_i xx q
    cases e1
    obtain ⟨v, ev, ow⟩ := s1.at_ i _ q
    rw [ev0] at ev; cases ev
    cases ow with
    | fd ow =>
      obtain ⟨p, o, rfl, g, _, i2⟩ := dget_at ow s1.fh rk (join2_some e)
      obtain ⟨u, rfl, ru⟩ := i2 d rfl
      exact ⟨p, u, rfl, g, k F1 H1 u O1 g1 s1 ru⟩
  · cases e1⟩
/-! ### new dicts -/
theorem Ko.freshO {K : PySem.W.Frag} {F H : Hp} {σ : L2.St} {O : Nat → Rg} {env : Env} {Q : VK} {u : HO} {x : Fd} (k : Ko K cm F H σ O env (.fd x) Q) (s : Sts K cm F H σ env O) {p : Addr} (h : H p = none) (r : ∀ S : Rg, S p → OwF K cm F (upd H p u) (.ref p) x S) (hn : NT u := by first | exact nt_l | exact nt_k | exact nt_t | exact nt_i) : Q (.ref p) (upd H p u) := by
  obtain ⟨s1, g1, n1, n2⟩ := s.fresh (o := u) h
  refine k _ _ _ O (fun q => q = p) g1 s1 (.fd (r _ rfl)) fun q e => ?_
  subst e
  exact ⟨n1, ⟨⟨_, hn⟩, upd_same⟩, n2⟩
theorem do_dnK : DO X cm (.Dict [] [] pos) tDNewK (mr (.fd (.dik []))) := ⟨pe_dnewK, fun F H σ env O d env' Q s e k => by
  cases e
  exact fun p hp => k.freshO s hp fun S hS => .dik upd_same rfl .nil hS⟩
theorem do_dnT : DO X cm (.Dict [] [] pos) tDNewT (mr (.fd (.dit []))) := ⟨pe_dnewT, fun F H σ env O d env' Q s e k => by
  cases e
  exact fun p hp => k.freshO s hp fun S hS => .dit upd_same rfl .nil hS⟩
/-! ### d[k] = v -/
def dputO (j : Nat) (k d : D) (env : Env) : Option Env := match env[j]? with
  | some (some (.fd (.dik ks))) => (toK k).bind fun q => if ks.length < 16777216 then some (env.set j (some (.fd (.dik (dput ks q d))))) else none
  | some (some (.fd (.dit ks))) => (toTK k).bind fun q => if ks.length < 16777216 then some (env.set j (some (.fd (.dit (dput ks q d))))) else none
  | _ => none
def gdp (j : Nat) (fk fv : M D) : G := fun env => (fv env).bind fun q => ((q.2[j]?).join).bind fun _ => (fk q.2).bind fun r => (dputO j r.1 q.1 r.2).map fun e => (.nx, e)
theorem dputO_at {K : PySem.W.Frag} {F H : Hp} {σ : L2.St} {env env' : Env} {O : Nat → Rg} {j : Nat} {k d : D} {u w v : V} (s : Sts K cm F H σ env O) (ev : σ[j]? = some (some u)) (rk : Rp K cm F w k) (rv : Rp K cm F v d) (e : dputO j k d env = some env') :
    ∃ a H', u = .ref a ∧ DPut H a w v H' ∧ Sts K cm F H' σ env' O ∧ Go (Un O) F H (Un O) F H' := by
  unfold dputO at e
  split at e
  · rename_i ks q
    obtain ⟨kk, e1, e⟩ := bind_some e
    obtain ⟨hz, e2⟩ := ite_some e
    subst e2
    obtain ⟨u', ev', ow⟩ := s.at_ j _ q
    rw [ev] at ev'; cases ev'
    cases ow with
    | fd ow => cases ow with
      | @dik p kvs _ _ h1 h2 h3 z =>
        have := rk.toK e1
        subst this
        obtain ⟨i1, i2⟩ := dput_rel kk h2 h3 rv
        have hl : kvs.length = ks.length := by have := congrArg List.length h2; rwa [List.length_map, List.length_map] at this
        obtain ⟨s2, g2⟩ := s.write (p := p) (u := .dK (putK kvs kk v)) q ev z (.fd (.dik upd_same i1 i2 z))
        exact ⟨p, _, rfl, .k h1 (szlt (by rw [hl]; exact hz)), s2, g2⟩
  · rename_i ks q
    obtain ⟨kk, e1, e⟩ := bind_some e
    obtain ⟨hz, e2⟩ := ite_some e
    subst e2
    obtain ⟨u', ev', ow⟩ := s.at_ j _ q
    rw [ev] at ev'; cases ev'
    cases ow with
    | fd ow => cases ow with
      | @dit p kvs _ _ h1 h2 h3 z =>
        obtain ⟨b, rfl, hb⟩ := rk.toTK e1
        obtain ⟨i1, i2⟩ := dput_rel kk h2 h3 rv
        have hl : kvs.length = ks.length := by have := congrArg List.length h2; rwa [List.length_map, List.length_map] at this
        obtain ⟨s2, g2⟩ := s.write (p := p) (u := .dT (putK kvs kk v)) q ev z (.fd (.dit upd_same i1 i2 z))
        exact ⟨p, _, rfl, .t h1 (s.fh.at hb) (szlt (by rw [hl]; exact hz)), s2, g2⟩
  · cases e
theorem ds_dput (j : Nat) {x : Str} {px1 p2 : Pos} {fk fv : M D} (hu : X.A.units + 1 < cLine) (hk : DE X cm b tb fk) (hv : DE X cm e te fv) (hN : X.N[j]? = some x := by rfl) (hvis : Vis X.env.scope x := by first | exact Or.inl rfl | exact Or.inr (Or.inl rfl) | exact Or.inr (Or.inr rfl)) (hd : (x == ("__debug__" : Str)) = false := by decide)
    (hcd : (x == ("__classdict__" : Str)) = false := by decide) (hs : swapsWith e (some (.Subscript (.Name x px1) b p2)) pos.line X.env = pure false := by rfl) :
    DS X cm B (.Assign [.Subscript (.Name x px1) b p2] e pos) (sDPut (tVar j) tb te) (gdp j fk fv) := ⟨ps_dput hu (pe_var hN hvis hd hcd) hk.pe hv.pe hs, fun F H σ env O out env' Dn s e k => by
  obtain ⟨⟨d, env1⟩, e1, e⟩ := bind_some e
  obtain ⟨o0, e0, e⟩ := bind_some e
  obtain ⟨⟨kd, env2⟩, e2, e⟩ := bind_some e
  obtain ⟨env3, e3, e4⟩ := map_some e
  cases e4
  dsimp only at e0 e2 e3
  refine hv.sm F H σ env O d env1 _ s e1 fun F1 H1 v O1 g1 s1 rv => ?_
  obtain ⟨u, eu, _⟩ := s1.at_ j o0 (join2_some e0)
  refine ⟨u, eu, hk.sm F1 H1 σ env1 O1 kd env2 _ s1 e2 fun F2 H2 w O2 g2 s2 rk => ?_⟩
  obtain ⟨a, H', rfl, hp, s3, g3⟩ := dputO_at s2 eu rk (rv.mono g2.ff) e3
  exact ⟨a, H', rfl, hp, k F2 H' σ O2 ((g1.trans g2).trans g3) s3 .refl⟩⟩
/-! ### x.f[k] = v, x an own object in a slot -/
theorem OwFs.upd {K : PySem.W.Frag} {F H : Hp} {n : Str} {fs : List (Str × V)} {gs : List (Str × Fd)} {S : Rg} {x : Fd} (h : OwFs K cm F H fs gs S) : gs.lookup n = some x → ∃ v S1, fs.lookup n = some v ∧ OwF K cm F H v x S1 ∧ (∀ p, S1 p → S p) ∧ n ∈ fs.map (·.1) ∧
    ∀ (q : Addr) (u : HO) (y : Fd), S1 q → OwF K cm F (upd H q u) v y S1 → OwFs K cm F (upd H q u) fs (putG n y gs) S := by
  induction h with
  | nil => intro e; cases e
  | @cons m v y fs gs S S1 S2 ow r d a b ih =>
    intro e
    rw [List.lookup_cons] at e
    by_cases q : (n == m) = true
    · rw [q] at e
      cases e
      have hm : m = n := (eq_of_beq q).symm
      subst hm
      refine ⟨v, S1, by rw [List.lookup_cons, q], ow, a, by rw [List.map_cons]; exact List.mem_cons_self, fun q u y hq how => ?_⟩
      unfold putG
      rw [if_pos rfl]
      exact .cons how (r.mono (Same.refl _) (fun p z e hp => by rw [upd_ne (show p ≠ q from fun h => d q hq (h ▸ hp))]; exact e) fun _ z => z) d a b
    · have q : (n == m) = false := by simpa using q
      rw [q] at e
      obtain ⟨w, S', e1, e2, e3, e4, e5⟩ := ih e
      refine ⟨w, S', by rw [List.lookup_cons, q]; exact e1, e2, fun p z => b p (e3 p z), by rw [List.map_cons]; exact List.mem_cons_of_mem _ e4, fun q' u y' hq how => ?_⟩
      unfold putG
      rw [if_neg (fun h => by rw [h] at q; simp at q)]
      exact .cons (ow.mono (Same.refl _) (fun p z e hp => by rw [upd_ne (show p ≠ q' from fun h => d p hp (h ▸ e3 q' hq))]; exact e) fun _ z => z) (e5 q' u y' hq how) d a b
def dputG (n : Str) (k d : D) (gs : List (Str × Fd)) : Option (List (Str × Fd)) := match gs.lookup n with
  | some (.dik ks) => (toK k).bind fun q => if ks.length < 16777216 then some (putG n (.dik (dput ks q d)) gs) else none
  | some (.dit ks) => (toTK k).bind fun q => if ks.length < 16777216 then some (putG n (.dit (dput ks q d)) gs) else none
  | _ => none
def dputF (i : Nat) (n : Str) (k d : D) (env : Env) : Option Env := match env[i]? with
  | some (some (.obj c gs)) => (dputG n k d gs).map fun gs' => env.set i (some (.obj c gs'))
  | _ => none
def gdpF (i : Nat) (n : Str) (fk : P D) (fv : M D) : G := fun env => (fv env).bind fun q => (fk q.2).bind fun r => (dputF i n r q.1 q.2).map fun e => (.nx, e)
theorem dputG_at {K : PySem.W.Frag} {F H : Hp} {n : Str} {k d : D} {w v : V} {fs : List (Str × V)} {gs gs' : List (Str × Fd)} {S : Rg} (h : OwFs K cm F H fs gs S) (fh : SmH F H) (rk : Rp K cm F w k) (rv : Rp K cm F v d) (e : dputG n k d gs = some gs') :
    ∃ a u, fs.lookup n = some (.ref a) ∧ DPut H a w v (upd H a u) ∧ S a ∧ n ∈ fs.map (·.1) ∧ OwFs K cm F (upd H a u) fs gs' S ∧ NT u := by
  unfold dputG at e
  split at e
  · rename_i ks q
    obtain ⟨kk, e1, e⟩ := bind_some e
    obtain ⟨hz, e2⟩ := ite_some e
    subst e2
    obtain ⟨v0, S1, h1, ow, h2, h3, h4⟩ := h.upd q
    cases ow with
    | @dik p kvs _ _ i1 i2 i3 z =>
      have := rk.toK e1
      subst this
      obtain ⟨j1, j2⟩ := dput_rel kk i2 i3 rv
      have hl : kvs.length = ks.length := by have := congrArg List.length i2; rwa [List.length_map, List.length_map] at this
      exact ⟨p, .dK (putK kvs kk v), h1, .k i1 (szlt (by rw [hl]; exact hz)), h2 _ z, h3, h4 p _ _ z (.dik upd_same j1 j2 z), nt_k⟩
  · rename_i ks q
    obtain ⟨kk, e1, e⟩ := bind_some e
    obtain ⟨hz, e2⟩ := ite_some e
    subst e2
    obtain ⟨v0, S1, h1, ow, h2, h3, h4⟩ := h.upd q
    cases ow with
    | @dit p kvs _ _ i1 i2 i3 z =>
      obtain ⟨b, rfl, hb⟩ := rk.toTK e1
      obtain ⟨j1, j2⟩ := dput_rel kk i2 i3 rv
      have hl : kvs.length = ks.length := by have := congrArg List.length i2; rwa [List.length_map, List.length_map] at this
      exact ⟨p, .dT (putK kvs kk v), h1, .t i1 (fh.at hb) (szlt (by rw [hl]; exact hz)), h2 _ z, h3, h4 p _ _ z (.dit upd_same j1 j2 z), nt_t⟩
  · cases e
theorem ds_dputF (i : Nat) {x n : Str} {px1 p1 p2 : Pos} {fk : P D} {fv : M D} (hu : X.A.units + 1 < cLine) (hk : DP X cm b tb fk) (hv : DE X cm e te fv) (hb : attributeBase (.Name x px1) n X.env (eval (.Name x px1) X.env) = eval (.Name x px1) X.env := by rfl) (hN : X.N[i]? = some x := by rfl) (hvis : Vis X.env.scope x := by first | exact Or.inl rfl | exact Or.inr (Or.inl rfl) | exact Or.inr (Or.inr rfl)) (hd : (x == ("__debug__" : Str)) = false := by decide)
    (hcd : (x == ("__classdict__" : Str)) = false := by decide) (hs : swapsWith e (some (.Subscript (.Attribute (.Name x px1) n p1) b p2)) pos.line X.env = pure false := by rfl) :
    DS X cm B (.Assign [.Subscript (.Attribute (.Name x px1) n p1) b p2] e pos) (sDPut (tFld X.K (tVar i) n) tb te) (gdpF i n fk fv) := ⟨ps_dput hu (pe_fld (pe_var hN hvis hd hcd) hb) hk.pe hv.pe hs, fun F H σ env O out env' Dn s e k => by
  obtain ⟨⟨d, env1⟩, e1, e⟩ := bind_some e
  obtain ⟨kd, e2, e⟩ := bind_some e
  obtain ⟨env3, e3, e4⟩ := map_some e
  cases e4
  dsimp only at e2 e3
  refine hv.sm F H σ env O d env1 _ s e1 fun F1 H1 v O1 g1 s1 rv => ?_
  unfold dputF at e3
  split at e3
  · rename_i c gs q
    obtain ⟨gs', e5, rfl⟩ := map_some e3
    obtain ⟨u, eu, ow⟩ := s1.at_ i _ q
    cases ow with
    | @obj p dx c fs gs S S' h1 h2 h3 h4 h5 h6 =>
      -- the field is read, then the key
      have hlk : ∃ a, fs.lookup n = some (.ref a) ∧ n ∈ fs.map (·.1) := by
        unfold dputG at e5
        split at e5
        · rename_i ks q2
          obtain ⟨v0, S1, i1, ow, _, i3, _⟩ := h3.upd q2
          cases ow; exact ⟨_, i1, i3⟩
        · rename_i ks q2
          obtain ⟨v0, S1, i1, ow, _, i3, _⟩ := h3.upd q2
          cases ow; exact ⟨_, i1, i3⟩
        · cases e5
      obtain ⟨a0, hl0, hm0⟩ := hlk
      refine ⟨_, eu, p, _, dx, fs, _, rfl, h1, h2.ft.cl, h2.no _ hm0, hl0, ?_⟩
      refine hk.sm F1 H1 σ env1 O1 kd _ s1 e2 fun w rk => ?_
      obtain ⟨a, u2, j1, j2, j3, j4, j5, j6⟩ := dputG_at h3 s1.fh rk rv e5
      rw [hl0] at j1; cases j1
      have hne : p ≠ a0 := fun h => h4 (h ▸ j3)
      obtain ⟨s3, g3⟩ := s1.write (p := a0) (u := u2) q eu (h5 _ j3) (.obj (by rw [upd_ne hne]; exact h1) h2 j5 h4 h5 h6) j6
      exact ⟨a0, _, rfl, j2, k F1 _ σ O1 (g1.trans g3) s3 .refl⟩
  · cases e3⟩
/-! ### {k: v}, k a tuple -/
def tDisp1T (tk tv : TE) : TE := fun σ H Q => ∀ p, H p = none → tk σ (upd H p (.dT [])) fun x H1 => tv σ H1 fun y H2 => H2 p = some (.dT []) ∧ ∃ (b : Addr) (ks : List L2.Key), x = .ref b ∧ H2 b = some (.tup (ks.map kV)) ∧ Q (.ref p) (upd H2 p (.dT [(ks, y)]))
end
end DL

/-! The data layer: a dict display with one tuple for a key; bits; lists turned about; recursion. -/
namespace DL
open PySem PySem.Spec PyProof.Rows L2

theorem pe_disp1T {X : Cx} {pos : Pos} {k v : Expr} {tk tv : TE} (hu : X.A.units + 1 < cLine) (hk : PE X k tk) (hv : PE X v tv) : PE X (.Dict [some k] [v] pos) (tDisp1T tk tv) := by
  refine ⟨fun pins s σ H Q I q => ?_⟩
  have hn := I.hok.fresh (Nat.le_refl s.heap.objs.size)
  have I1 := I.laid (a := s.heap.objs.size) (o := .dT []) (h' := s.heap.push { cls := .type "dict", data := .dict #[] }) (t' := s.toks) (fun _ _ q => Heap.get?_push_of_some _ q) (Nat.le_refl _) (dt_empty s.heap I.big)
  have hp : PPs X pos [some k] [v] [(tk, tv)] := pps_cons hk hv pps_nil
  refine wpAny_Dict_any rfl rfl (fun z => nomatch z) (by show 1 ≤ 15; decide) (thn (hp.run pins _ σ _ (fun ps H2 => ∃ x y, ps = [(x, y)] ∧ H2 s.heap.objs.size = some (.dT []) ∧ ∃ (b : Addr) (ks : List L2.Key), x = .ref b ∧ H2 b = some (.tup (ks.map kV)) ∧ Q (.ref s.heap.objs.size) (upd H2 s.heap.objs.size (.dT [(ks, y)]))) I1 ?_) fun ws s2 ⟨ps, H2, I2, rel, x, y, ep, e, b, ks, ex, eb, q2⟩ => ?_)
  · show tk σ _ _
    have q1 := q _ hn
    have conv : (fun (x : V) (H1 : Hp) => tv σ H1 fun y H2 => H2 s.heap.objs.size = some (.dT []) ∧ ∃ (b : Addr) (ks : List L2.Key), x = .ref b ∧ H2 b = some (.tup (ks.map kV)) ∧ Q (.ref s.heap.objs.size) (upd H2 s.heap.objs.size (.dT [(ks, y)]))) =
      (fun (x0 : V) (H1 : Hp) => tv σ H1 fun y0 H2 => ∃ x y, [(x0, y0)] = [(x, y)] ∧ H2 s.heap.objs.size = some (.dT []) ∧ ∃ (b : Addr) (ks : List L2.Key), x = .ref b ∧ H2 b = some (.tup (ks.map kV)) ∧ Q (.ref s.heap.objs.size) (upd H2 s.heap.objs.size (.dT [(ks, y)]))) := by
      funext x0 H1
      congr 1
      funext y0 H2
      refine propext ⟨fun h => ⟨x0, y0, rfl, h⟩, fun ⟨x, y, e, h⟩ => ?_⟩
      cases e; exact h
    rw [conv] at q1
    exact q1
  · subst ep
    cases rel with
    | @cons a w2 as bs h t =>
      cases t
      obtain ⟨w2a, w2b⟩ := w2
      obtain ⟨r1, r2⟩ := h
      subst ex
      cases (show w2a = Value.ref b from r1)
      obtain ⟨z, hd, xs, rel, dd⟩ := dt_of I2.hok e
      cases rel
      refine wpAny_storeAllH (knd := tupleKind (mixKind X.prog X.w)) (show X.A.units < cLine by omega) [(Value.ref b, w2b)] [(ks, b, w2b)] [] s2 _ ⟨rfl, rfl, key_of I2.hok eb, trivial⟩ dd (by rw [sizeLine_eq]; show 0 + 1 ≤ 16777216; decide) fun h' tk' dd' hs => ?_
      obtain ⟨qq, es, ep, hq, h2, h3, h4, _, h5⟩ := dd'
      have hT : ObjOk X.prog X.w (upd H2 s.heap.objs.size (.dT [(ks, y)])) h' s.heap.objs.size (.dT [(ks, y)]) :=
        ⟨by rw [sizeLine_eq]; show 1 ≤ 16777216; decide, hd, _, Paired.cons ⟨rfl, by rw [upd_ne (ne_of eb e (fun z => nomatch z))]; exact eb, r2⟩ .nil, qq, es, ep, hq, h2, h3, h4, h5⟩
      exact ⟨.ref s.heap.objs.size, _, d_write I2 (by rw [e]; exact True.intro) hs ⟨qq, hq⟩ hT, rfl, q2⟩
section
variable {X : Cx} {cm : Cm} {B : List Nat} {e a b c : Expr} {es : List Expr} {te ta tb tc : TE} {pos apos : Pos} {f g fa fb fc : P D} {fx : P Fd}
def mdd (fk fv : M D) : M Od := mb fk fun k => mb fv fun v => mo ((toTK k).map fun q => .fd (.dit [(q, v)]))
theorem do_d1T {fk fv : M D} (hu : X.A.units + 1 < cLine) (hk : DE X cm a ta fk) (hv : DE X cm b tb fv) : DO X cm (.Dict [some a] [b] pos) (tDisp1T ta tb) (mdd fk fv) := ⟨pe_disp1T hu hk.pe hv.pe, fun F H σ env O o env' Q s e k => by
  obtain ⟨kd, env1, e1, e⟩ := mb_some e
  obtain ⟨vd, env2, e2, e⟩ := mb_some e
  obtain ⟨e3, e4⟩ := mo_some e
  dsimp only at e3 e4
  cases e4
  obtain ⟨q, e5, rfl⟩ := map_some e3
  intro p hp
  obtain ⟨sf, gf, f1, f2⟩ := s.fresh (o := .dT []) hp
  have ap : Apart F (upd H p (.dT [])) O p (.dT []) := ⟨upd_same, f1, f2, nt_t⟩
  refine hk.sm F (upd H p (.dT [])) σ env O kd env1 _ sf e1 fun F1 H1 v O1 g1 s1 rk => ?_
  have ap1 := ap.go g1
  refine hv.sm F1 H1 σ env1 O1 vd _ _ s1 e2 fun F2 H2 w O2 g2 s2 rv => ?_
  have ap2 := ap1.go g2
  obtain ⟨bb, rfl, hb⟩ := (rk.mono g2.ff).toTK e5
  refine ⟨ap2.h, bb, q, rfl, s2.fh.at hb, ?_⟩
  obtain ⟨s3, g3, ap3⟩ := ap2.put (w := .dT [(q, w)]) s2
  refine k F2 _ (.ref p) O2 (fun x => x = p) (gf.trans (((g1.trans g2).lift fun x => x = p).trans g3)) s3 (.fd (.dit ap3.h rfl (.cons rv .nil) rfl)) fun x hx => ?_
  subst hx
  exact ⟨ap3.f, ⟨⟨_, ap3.n⟩, ap3.h⟩, ap3.o⟩⟩
/-! x.bit_length() -/
def bitsD : D → Option D
  | .int i => some (.int (Builtin.Int.intBits i : Nat))
  | _ => none
theorem dp_bits (h : DP X cm a ta fa) (hbase : attributeBase a "bit_length" X.env (eval a X.env) = eval a X.env := by rfl) (hline : (apos.endLine == pos.line) = true := by rfl) : DP X cm (.Call (.Attribute a "bit_length" apos) [] [] pos) (tBits ta) (p1 bitsD fa) := ⟨pe_bits h.pe hbase hline, fun F H σ env O d Q s e k => by
  obtain ⟨x, e1, e2⟩ := bind_some e
  refine h.sm F H σ env O x _ s e1 fun v r => ?_
  cases x <;> cases e2
  cases r
  exact ⟨_, rfl, k _ (.int _)⟩⟩
/-! xs[::-1] -/
def revL : D → Option Od
  | .lst xs => some (.fd (.lst xs.reverse))
  | _ => none
def mrev (fa : M D) : M Od := mb fa fun x => mo (revL x)
theorem do_rev {fa : M D} {k p1 p2 p3} (h : DE X cm a ta fa) : DO X cm (.Subscript a (.Slice none none (some (.UnaryOp .USub (.Constant (.int 1) k p1) p2)) p3) pos) (tRevL X.K ta) (mrev fa) := ⟨pe_revL h.pe, fun F H σ env O d env' Q s e kk => by
  obtain ⟨x, env1, e1, e⟩ := mb_some e
  obtain ⟨e3, e4⟩ := mo_some e
  dsimp only at e3 e4
  subst e4
  refine h.sm F H σ env O x _ _ s e1 fun F1 H1 v O1 g1 s1 r => ?_
  cases x <;> cases e3
  cases r with
  | lst hp ra => exact ⟨_, _, rfl, .of (s1.fh.at hp), fun p hp2 => (kk.go g1).fresh s1 hp2 ra.rev⟩⟩
end
/-! ### a def that calls itself -/
theorem ok_zero {P : Program} {w : World} {K : PySem.W.Frag} {mg : Str → Option Value} {base : Heap} {cm : Cm} {x qual : Str} {st : Stmt} {f : Addr} {fd : FuncData} {N ps : List Str} {k n np : Nat} {B : List Nat} (Fu : Fun K x qual st f fd) (S : FnScope N ps (defScope st)) (hle : ps.length ≤ N.length) (hn : ps.length = np) :
    FnOk P w K mg base CX0 (k + 1) f fd ps (spD K cm (runD np n B fun _ => none) np) := by
  subst hn
  refine (fn_d (cm := cm) (B := B) (g := fun _ => none) Fu S hle fun cdv A outer s H E hr => dss_never (cm := cm)).imp fun vs H Q E ⟨hl, F, args, O, o, args', s, e, k⟩ => ?_
  exfalso
  unfold runD at e
  split at e
  · cases e
  · cases e
end DL
namespace DL
open PySem PySem.Spec PyProof.Rows L2
/-! ### len(set(xs)), xs a list of ints -/
theorem fm_s {f : Nat → Int} {n : Nat} : PyProof.Rows.firstMet f (n + 1) = if (PyProof.Rows.firstMet f n).any (· == f n) = true then PyProof.Rows.firstMet f n else PyProof.Rows.firstMet f n ++ [f n] := PyProof.Rows.firstMet_succ ..
def metI (ns : List Int) : List Int := PyProof.Rows.firstMet (fun i => ns.getD i 0) ns.length
def tLenSetG (K : PySem.W.Frag) (ta : TE) : TE := fun σ H Q => ta σ H fun x H1 => ∃ (l : Addr) (ns : List Int), x = .ref l ∧ SqL K H1 l (ns.map V.int) ∧ ns.length ≤ 4000 ∧ Q (.int ((metI ns).length : Nat)) H1
theorem metI_any (ns : List Int) : ∀ n, n ≤ ns.length → ∀ k, k ∈ PyProof.Rows.firstMet (fun i => ns.getD i 0) n ↔ k ∈ ns.take n
  | 0, _, k => by unfold PyProof.Rows.firstMet; simp
  | n + 1, h, k => by
    have ih := metI_any ns n (by omega) k
    rw [fm_s, List.take_succ, List.getElem?_eq_getElem (by omega)]
    have e2 : ns.getD n 0 = ns[n] := by rw [List.getD_eq_getElem?_getD, List.getElem?_eq_getElem (by omega)]; rfl
    by_cases c : ((PyProof.Rows.firstMet (fun i => ns.getD i 0) n).any (· == ns.getD n 0)) = true
    · rw [if_pos c, ih, List.mem_append]
      constructor
      · exact .inl
      · rintro (h1 | h1)
        · exact h1
        · rw [Option.toList_some, List.mem_singleton] at h1
          obtain ⟨y, hy, e⟩ := List.any_eq_true.mp c
          rw [beq_iff_eq] at e
          rw [h1, ← e2, ← e]
          exact (metI_any ns n (by omega) y).mp hy
    · rw [if_neg c, List.mem_append, List.mem_append, ih, e2]
      simp
theorem metI_nd (ns : List Int) : ∀ n, (PyProof.Rows.firstMet (fun i => ns.getD i 0) n).Nodup
  | 0 => by unfold PyProof.Rows.firstMet; simp
  | n + 1 => by
    rw [fm_s]
    by_cases c : ((PyProof.Rows.firstMet (fun i => ns.getD i 0) n).any (· == ns.getD n 0)) = true
    · rw [if_pos c]; exact metI_nd ns n
    · rw [if_neg c]
      refine List.nodup_append.mpr ⟨metI_nd ns n, by simp, fun a ha b hb e => c ?_⟩
      rw [List.mem_singleton] at hb
      exact List.any_eq_true.mpr ⟨a, ha, by rw [e, hb]; exact beq_self_eq_true _⟩
theorem metI_mem {ns : List Int} {k : Int} : k ∈ metI ns ↔ k ∈ ns := by
  unfold metI
  rw [metI_any ns _ (Nat.le_refl _), List.take_length]
theorem metI_nodup (ns : List Int) : (metI ns).Nodup := metI_nd ns _
theorem metI_len {ns us : List Int} (h : us.Nodup) (hm : ∀ k, k ∈ us ↔ k ∈ ns) : (metI ns).length = us.length :=
  ((List.perm_ext_iff_of_nodup (metI_nodup ns) h).mpr fun k => metI_mem.trans (hm k).symm).length_eq
theorem pe_lenSetG {X : Cx} {a : Expr} {ta : TE} {p p2 q pos : Pos} (hg : Gl X "len") (hm : X.mg "len" = none) (hg2 : Gl X "set") (hm2 : X.mg "set" = none) (ha : PE X a ta) (hc : X.calm = true := by rfl)
    (na : starEach [a] X.env = (false, eval a X.env) :: starEach [] X.env := by rfl) : PE X (.Call (.Name "len" p) [.Call (.Name "set" p2) [a] [] q] [] pos) (tLenSetG X.K ta) := by
  refine ⟨fun pins s σ H Q I h => ?_⟩
  refine Call_ (ld_blt I hg hm boot_len ?_)
  refine PyProof.Rows.callWith_builtin1 (PyProof.Rows.args_cons ?_ rfl) rfl rfl
  refine Call_ (ld_blt I hg2 hm2 boot_set ?_)
  refine PyProof.Rows.callWith_type1 (PyProof.Rows.args_cons (thn (ha.run pins s σ H _ I h) fun v s1 ⟨x, H1, I1, r1, q1⟩ => PyProof.Rows.args_nil ?_) na) na rfl
  obtain ⟨l, ns, rfl, hq, hl, q1⟩ := q1
  cases r1
  obtain ⟨its, r, pl, hz⟩ := I1.list hq
  have hlen : its.toArray.size = ns.length := by rw [List.size_toArray, ← r.length, List.length_map]
  refine call_set_list (I1.ok.hd hc) pl.isList (by simpa using RZ.intsAre_vals r) (by rw [hlen]; unfold scanBound; omega) fun h' tk hS hk => ?_
  refine PyProof.Rows.args_nil ?_
  rw [hlen] at hS
  have hml : (metI ns).length ≤ 4000 := by
    have : ∀ n, (PyProof.Rows.firstMet (fun i => ns.getD i 0) n).length ≤ n := by
      intro n
      induction n with
      | zero => unfold PyProof.Rows.firstMet; simp
      | succ n ih =>
        rw [fm_s]
        split
        · omega
        · rw [List.length_append, List.length_singleton]; omega
    have := this ns.length
    unfold metI; omega
  obtain ⟨o, es, ep, t, ho, hex, hd, _, _, _, hf, hn⟩ := hS
  have I2 : Inv X pins σ H1 { s1 with heap := h', toks := tk } := I1.kept fun b o e => hk b o (Heap.lt_size e) e
  have hb : ((PyProof.Rows.firstMet (fun i => ns.getD i 0) ns.length).length : Int) < 2 ^ 63 := by unfold metI at hml; omega
  exact call_len_set ho hex hd hf (by rw [hn]; exact hb) ⟨.int (metI ns).length, H1, I2.tok _, ⟨_, by rw [hn]; rfl⟩, q1⟩
def lenSetD : D → Option D
  | .lst ds => (toInts ds).bind fun ns => if ns.length ≤ 4000 then some (.int ((metI ns).length : Nat)) else none
  | _ => none
section
variable {X : Cx} {cm : Cm} {a : Expr} {ta : TE} {pos : Pos}
theorem de_lenset {p p2 q : Pos} {fa : M D} (hm : X.mg "len" = none) (hm2 : X.mg "set" = none) (ha : DE X cm a ta fa) (hg : Gl X "len" := by rfl) (hg2 : Gl X "set" := by rfl) (hc : X.calm = true := by rfl)
    (na : starEach [a] X.env = (false, eval a X.env) :: starEach [] X.env := by rfl) : DE X cm (.Call (.Name "len" p) [.Call (.Name "set" p2) [a] [] q] [] pos) (tLenSetG X.K ta) (m1 lenSetD fa) := ⟨pe_lenSetG hg hm hg2 hm2 ha.pe hc na, fun F H σ env O d env' Q s e kk => by
  obtain ⟨x, env1, e1, e⟩ := mb_some e
  obtain ⟨e3, e4⟩ := mo_some e
  dsimp only at e3 e4
  subst e4
  refine ha.sm F H σ env O x _ _ s e1 fun F1 H1 v O1 g1 s1 r => ?_
  cases x <;> try (cases e3; done)
  obtain ⟨ns, e5, e6⟩ := bind_some e3
  obtain ⟨hl, rfl⟩ := ite_some e6
  cases r with
  | lst hp ra =>
    have := ra.toInts e5
    subst this
    exact ⟨_, ns, rfl, .of (s1.fh.at hp), hl, kk F1 H1 _ O1 g1 s1 (.int _)⟩⟩
end
end DL

/-! The data layer: isinstance with two built-in classes; a = b = e. -/
namespace DL
open PySem PySem.Spec PyProof.Rows L2
def isiB2 (T T2 : String) (tab : Nat → Option Bool) (d : D) : Option D := (isiB T tab d).bind fun x => (isiB T2 tab d).bind fun y => match x, y with
  | .bl b, .bl c => some (.bl (b || c))
  | _, _ => none
section
variable {X : Cx} {cm : Cm} {B : List Nat} {a b c e : Expr} {es : List Expr} {te ta tb tc : TE} {pos tpos : Pos}
theorem de_isi2 {p p2 p3 : Pos} {x y : Str} {T T2 : String} {k : Nat} {tab : Nat → Option Bool} {fa : M D} (hm : X.mg "isinstance" = none) (hmT : X.mg x = none) (hvT : bootBuiltins x = some (.type T)) (hmT2 : X.mg y = none) (hvT2 : bootBuiltins y = some (.type T2))
    (hc : ∀ c b, tab c = some b → PySem.W.kitOne X.K (.ref (cm c)) (.type T) = some b) (hc2 : ∀ c b, tab c = some b → PySem.W.kitOne X.K (.ref (cm c)) (.type T2) = some b) (ha : DE X cm a ta fa)
    (hg : Gl X "isinstance" := by rfl) (hgT : Gl X x := by rfl) (hn : x ≠ "__name__" := by decide) (hd : (x == ("__debug__" : Str)) = false := by decide) (hgT2 : Gl X y := by rfl) (hn2 : y ≠ "__name__" := by decide) (hd2 : (y == ("__debug__" : Str)) = false := by decide)
    (he : starEach [a, .Tuple [.Name x p2, .Name y p3] k tpos] X.env = (false, eval a X.env) :: starEach [.Tuple [.Name x p2, .Name y p3] k tpos] X.env := by rfl)
    (he2 : starEach [.Tuple [.Name x p2, .Name y p3] k tpos] X.env = (false, eval (.Tuple [.Name x p2, .Name y p3] k tpos) X.env) :: starEach [] X.env := by rfl)
    (he3 : starEach [.Name x p2, .Name y p3] X.env = (false, eval (.Name x p2) X.env) :: starEach [.Name y p3] X.env := by rfl) (he4 : starEach [.Name y p3] X.env = (false, eval (.Name y p3) X.env) :: starEach [] X.env := by rfl)
    (hpl : (backTo pos (starEach [.Tuple [.Name x p2, .Name y p3] k tpos] X.env)).any (·.1) = false := by rfl) :
    DE X cm (.Call (.Name "isinstance" p) [a, .Tuple [.Name x p2, .Name y p3] k tpos] [] pos) (tCB (rIsiT X.K) (tCons ta (tCons (tTup (tCons (tC (.ty T)) (tCons (tC (.ty T2)) tNil))) tNil))) (m1 (isiB2 T T2 tab) fa) := by
  refine ⟨pe_callB call_isiT hg hm (by rfl) (pa_cons ha.pe (pa_cons (pe_tup (pa_cons (pe_bltn hgT hmT hvT rfl hn hd) (pa_cons (pe_bltn hgT2 hmT2 hvT2 rfl hn2 hd2) pa_nil he4) he3)) pa_nil he2) he) (by decide) (by decide) he hpl, fun F H σ env O d env' Q s e kk => ?_⟩
  obtain ⟨z, env1, e1, e⟩ := mb_some e
  obtain ⟨e3, e4⟩ := mo_some e
  dsimp only at e3 e4
  subst e4
  refine ha.sm F H σ env O z _ _ s e1 fun F1 H1 v O1 g1 s1 r => ?_
  refine ⟨by rw [sizeLine_eq]; show 2 ≤ 16777216; decide, fun q hq => ?_⟩
  obtain ⟨s2, g2⟩ := s1.alloc (o := .tup [.ty T, .ty T2]) hq
  have r2 := r.mono g2.ff
  unfold isiB2 at e3
  obtain ⟨x1, e5, e6⟩ := bind_some e3
  obtain ⟨y1, e7, e8⟩ := bind_some e6
  have key : ∃ t b1 b2, TyX X.K (upd H1 q (.tup [.ty T, .ty T2])) v t ∧ PySem.W.kitOne X.K t (.type T) = some b1 ∧ PySem.W.kitOne X.K t (.type T2) = some b2 ∧ x1 = .bl b1 ∧ y1 = .bl b2 := by
    unfold isiB at e5 e7
    cases z
    case obj c gs =>
      obtain ⟨b1, h1, h2⟩ := map_some (show (tab c).map D.bl = some x1 from e5)
      obtain ⟨b2, h3, h4⟩ := map_some (show (tab c).map D.bl = some y1 from e7)
      exact ⟨_, b1, b2, r2.tyO s2.fh, hc _ _ h1, hc2 _ _ h3, h2.symm, h4.symm⟩
    all_goals
      obtain ⟨S, h1, h2⟩ := bind_some e5
      obtain ⟨b1, h3, h4⟩ := map_some h2
      obtain ⟨S2, h5, h6⟩ := bind_some e7
      obtain ⟨b2, h7, h8⟩ := map_some h6
      rw [h1] at h5; cases h5
      exact ⟨_, b1, b2, r2.tyX s2.fh h1, kit_ty h3, kit_ty h7, h4.symm, h8.symm⟩
  obtain ⟨t, b1, b2, ty, k1, k2, rfl, rfl⟩ := key
  have e8 : some (D.bl (b1 || b2)) = some d := e8
  cases e8
  refine ⟨v, q, _, t, [.type T, .type T2], b1 || b2, rfl, upd_same, .cons (.ty T) (.cons (.ty T2) .nil), ty, kitAny_cons k1 (fun h => ?_) (fun h => by rw [h]; rfl), (kk.go g1) _ _ _ O1 g2 s2 (.bl _)⟩
  subst h
  rw [Bool.false_or]
  exact kitAny_cons k2 (fun h => by rw [h]; exact kitAny_nil) (fun h => h)
def gtg2 (f : M D) (t1 t2 : Tg) : G := fun env => (f env).bind fun q => (t1 q.1 q.2).bind fun e1 => (t2 q.1 e1).map fun e => (.nx, e)
theorem ds_asg2 {x1 x2 : Expr} {g1 g2 : TG} {t1 t2 : Tg} {f : M D} (h : DE X cm e te f) (h1 : DG X cm B x1 g1 t1) (h2 : DG X cm B x2 g2 t2) (ha : (assignEach [x1, x2] X.env).map (·.2) = [assign x1 X.env, assign x2 X.env] := by rfl) (hw : swappedStores [x1, x2] e X.env = pure none := by rfl) :
    DS X cm B (.Assign [x1, x2] e pos) (tAsg2 te g1 g2) (gtg2 f t1 t2) := ⟨ps_asg2 h.pe h1.pe h2.pe ha hw, fun F H σ env O out env' Dn s e k => by
  obtain ⟨⟨d, env1⟩, e1, e⟩ := bind_some e
  obtain ⟨env2, e2, e⟩ := bind_some e
  obtain ⟨env3, e3, e4⟩ := map_some e
  cases e4
  exact h.sm F H σ env O d _ _ s e1 fun F' H' v O' g s' r => h1.sm F' H' σ _ O' _ _ _ _ s' r e2 fun σ1 s1 b1 => h2.sm F' H' σ1 _ O' _ _ _ _ s1 r e3 fun σ2 s2 b2 => k F' H' σ2 O' g s2 (b1.trans b2)⟩
end
end DL
namespace DL
open PySem PySem.Spec PyProof.Rows L2
/-! ### a method of an object that was just made, or that is a value -/
def mmtx (m : Str) (c : Nat) (fo : M Od) (p : Fn) (n : Nat) (fa : M (List D)) : M Od := mb fo fun o => if noM m c o = true then mb fa fun ds => (if ds.length + 1 = n then mo ((p (some o :: vals ds)).map (·.1)) else mo none) else mo none
section
variable {K : PySem.W.Frag} {cm : Cm} {F H F1 H1 : Hp} {σ : L2.St} {env : Env} {O O1 : Nat → Rg} {R : Rg} {v0 : V} {o0 o1 : Od} {Q : VK}
theorem New.go (n : New F H O R) (g : Go (Un O) F H (Un O1) F1 H1) : New F1 H1 O1 R := fun p hp => by
  obtain ⟨a, ⟨u, b⟩, c⟩ := n p hp
  refine ⟨?_, ⟨u, g.hh p u b a c⟩, fun z => ?_⟩
  · cases q : F1 p with
    | none => rfl
    | some w =>
      rcases g.fr p (by rw [q]; exact fun z => nomatch z) with z | z | z | ⟨w, z, nw⟩
      · exact absurd a z
      · rw [b] at z; cases z
      · exact absurd z c
      · rw [b] at z; exact (nw (Option.some.inj z ▸ u.2)).elim
  · rcases g.ss p z with z | z
    · exact c z
    · rw [b] at z; cases z
theorem Sts.lendR (s : Sts K cm F H σ env O) (ow : Ow K cm F H v0 o0 R) (n : New F H O R) {vs : List V} {ds : List D} (r : RpA K cm F vs ds) :
    Sts K cm F H ((v0 :: vs).map some) (some o0 :: vals ds) (fun j p => j = 0 ∧ R p) := by
  have sv := sts_vals (cm := cm) s.fh s.mm r
  refine ⟨s.fh, by rw [List.length_map, List.length_cons, List.length_cons]; have := sv.len; rw [List.length_map] at this; rw [this], fun j o q => ?_, fun j p z => ⟨(n p z.2).1, (n p z.2).2.1⟩, fun j l p z w => z.1.trans w.1.symm, s.mm⟩
  cases j with
  | zero =>
    cases q
    exact ⟨v0, rfl, ow.mono (Same.refl _) (fun _ _ q _ => q) fun p z => ⟨rfl, z⟩⟩
  | succ j =>
    obtain ⟨v, e1, ow⟩ := sv.at_ j o q
    exact ⟨v, e1, ow.mono (Same.refl _) (fun _ _ q _ => q) fun p z => z.elim⟩
theorem Ko.lendR {args' : Env} {vs : List V} (k : ∀ F' H' v O' R', Go (fun p => R p ∨ Un O p) F H (fun p => R' p ∨ Un O' p) F' H' → Sts K cm F' H' σ env O' → Ow K cm F' H' v o1 R' → New F' H' O' R' → Q v H') (s : Sts K cm F H σ env O) (nw : New F H O R) :
    Ko K cm F H ((v0 :: vs).map some) (fun j p => j = 0 ∧ R p) args' o1 Q := fun F4 H4 v Oc R4 g sc ow n4 => by
  have ur : ∀ p, Un (fun (j : Nat) p => j = 0 ∧ R p) p → R p := fun p ⟨_, _, z⟩ => z
  have oth : ∀ j p, O j p → ¬ R p := fun j p z h => (nw p h).2.2 ⟨j, z⟩
  refine k F4 H4 v O R4 ?_ ?_ ow ?_
  · refine ⟨g.ff, fun p u e f z => g.hh p u e f fun w => z (.inl (ur p w)), fun p z => (g.fr p z).imp id (.imp id (.imp (fun w => .inl (ur p w)) id)), fun p z => ?_, g.al⟩
    rcases z with z | z
    · exact (g.ss p (.inl z)).imp (fun w => .inl (ur p w)) id
    · exact .inl (.inr z)
  · refine ⟨sc.fh, s.len, fun j o q => ?_, fun j p z => ?_, s.dj, sc.mm⟩
    · obtain ⟨u, e1, ow1⟩ := s.at_ j o q
      exact ⟨u, e1, ow1.mono g.ff (fun p y e z => g.keepO e (s.ow _ _ z) fun w => oth j p z (ur p w)) fun _ z => z⟩
    · obtain ⟨a, u, b⟩ := s.ow j p z
      refine ⟨?_, u, g.hh p u b a fun w => oth j p z (ur p w)⟩
      cases q : F4 p with
      | none => rfl
      | some w =>
        rcases g.fr p (by rw [q]; exact fun z => nomatch z) with y | y | y | ⟨w, y, nw⟩
        · exact absurd a y
        · rw [b] at y; cases y
        · exact absurd (ur p y) (oth j p z)
        · rw [b] at y; exact (nw (Option.some.inj y ▸ u.2)).elim
  · intro p z
    refine ⟨(n4 p z).1, (n4 p z).2.1, fun ⟨j, w⟩ => ?_⟩
    rcases g.ss p (.inl z) with y | y
    · exact oth j p w (ur p y)
    · obtain ⟨_, u, b⟩ := s.ow j p w
      rw [y] at b; cases b
end
section
variable {X : Cx} {cm : Cm} {o e : Expr} {es : List Expr} {to : TE} {pos apos : Pos} {t : TA} {fo : M Od} {fa : M (List D)} {p : Fn} {n k cl : Nat} {f : Addr} {fd : FuncData} {ps : List Str} {m : Str}
theorem smo_mtx {E : XK} (ho : SmO X.K cm to fo) (ha : SmA X.K cm t fa) : SmO X.K cm (tMeth (cm cl) m (spD X.K cm p n) [] E to t) (mmtx m cl fo p n fa) := fun F H σ env O o' env' Q s e kk => by
  obtain ⟨o0, env1, e1, e⟩ := mb_some e
  by_cases hm : noM m cl o0 = true
  case neg => rw [if_neg hm] at e; cases e
  rw [if_pos hm] at e
  obtain ⟨ds, env2, e2, e⟩ := mb_some e
  by_cases hl : ds.length + 1 = n
  case neg => rw [if_neg hl] at e; cases e
  rw [if_pos hl] at e
  obtain ⟨e3, e4⟩ := mo_some e
  dsimp only at e3 e4
  cases e4
  obtain ⟨⟨o3, args'⟩, e5, e6⟩ := map_some e3
  cases e6
  refine ho F H σ env O o0 env1 _ s e1 fun F1 H1 v O1 R g1 s1 ow nw => ?_
  obtain ⟨q, dx, fs, rfl, hq, hf⟩ := noM_at ow s1.fh hm
  refine ⟨q, dx, fs, rfl, hq, hf, ha F1 H1 σ env1 O1 ds _ _ s1 e2 fun F2 H2 vs O2 g2 s2 r => ?_⟩
  have nw2 := nw.go g2
  have ow2 := ow.mono g2.ff (fun p u h z => g2.keepO h ⟨(nw p z).1, (nw p z).2.1⟩ (nw p z).2.2) fun _ z => z
  refine ⟨by rw [List.append_nil, List.length_cons, r.len]; exact hl, F2, some o0 :: vals ds, _, _, args', by rw [List.append_nil]; exact s2.lendR ow2 nw2 r, e5, ?_⟩
  rw [List.append_nil]
  exact Ko.lendR (σ := σ) (O := O2) (fun F' H' v' O' R' g' s' ow' n' => kk F' H' v' O' R' ((g1.trans (g2.lift R)).trans g') s' ow' n') s2 nw2
theorem do_methx {pl : Sem Bool} (cl : Nat) (ct : Cls X.K (cm cl)) (hm : Meth X.K (cm cl) m f) (Fo : FnOk X.prog X.w X.K X.mg X.base CX0 k f fd ps (spD X.K cm p n)) (hr : Room k X.A) (hb : Binds X.K fd ps []) (ho : DO X cm o to fo) (ha : DA X cm (e :: es) t fa)
    (hst : starEach (e :: es) X.env = (false, eval e X.env) :: starEach es X.env := by rfl) (hpl : (backTo pos (starEach es X.env)).any (·.1) = false := by rfl)
    (ht : eval (.Call (.Attribute o m apos) (e :: es) [] pos) X.env = (do
      let ov ← eval o X.env
      standAt apos.atName
      let (f, first) ← holding [ov] (getMethod ov m pl)
      callWith pos f first (backTo pos (starEach (e :: es) X.env)) (backToKw pos (keywordEach [] X.env))) := by rfl) :
    DO X cm (.Call (.Attribute o m apos) (e :: es) [] pos) (tMeth (cm cl) m (spD X.K cm p n) [] E0 to t) (mmtx m cl fo p n fa) := ⟨pe_meth ho.pe ct hm Fo hr hb .nil pass0 ha.pe hst hpl ht, smo_mtx ho.sm ha.sm⟩
theorem do_methx0 {pl : Sem Bool} (cl : Nat) (ct : Cls X.K (cm cl)) (hm : Meth X.K (cm cl) m f) (Fo : FnOk X.prog X.w X.K X.mg X.base CX0 k f fd ps (spD X.K cm p n)) (hr : Room k X.A) (hb : Binds X.K fd ps []) (ho : DO X cm o to fo)
    (ht : eval (.Call (.Attribute o m apos) [] [] pos) X.env = (do
      let ov ← eval o X.env
      standAt apos.atName
      let (f, first) ← holding [ov] (getMethod ov m pl)
      callWith pos f first (backTo pos (starEach [] X.env)) (backToKw pos (keywordEach [] X.env))) := by rfl) :
    DO X cm (.Call (.Attribute o m apos) [] [] pos) (tMeth (cm cl) m (spD X.K cm p n) [] E0 to tNil) (mmtx m cl fo p n anil) := ⟨pe_meth0 ho.pe ct hm Fo hr hb .nil pass0 ht, smo_mtx ho.sm da_nil.sm⟩
end
end DL

namespace DL
open PySem PySem.Spec PyProof.Rows L2
/-! ### a function that is lent an object that was just made -/
def mclx (fo : M Od) (p : Fn) (n : Nat) (fa : M (List D)) : M Od := mb fo fun o => mb fa fun ds => (if ds.length + 1 = n then mo ((p (some o :: vals ds)).map (·.1)) else mo none)
section
variable {X : Cx} {cm : Cm} {o e : Expr} {es : List Expr} {to : TE} {pos pp : Pos} {t : TA} {fo : M Od} {fa : M (List D)} {p : Fn} {n k : Nat} {f : Addr} {fd : FuncData} {ps : List Str} {x : Str}
theorem smo_clx {E : XK} (ho : SmO X.K cm to fo) (ha : SmA X.K cm t fa) : SmO X.K cm (tCall (spD X.K cm p n) [] E (tCons to t)) (mclx fo p n fa) := fun F H σ env O o env' Q s e kk => by
  obtain ⟨o0, env1, e1, e⟩ := mb_some e
  obtain ⟨ds, env2, e2, e⟩ := mb_some e
  by_cases hl : ds.length + 1 = n
  case neg => rw [if_neg hl] at e; cases e
  rw [if_pos hl] at e
  obtain ⟨e3, e4⟩ := mo_some e
  dsimp only at e3 e4
  cases e4
  obtain ⟨⟨o3, args'⟩, e5, e6⟩ := map_some e3
  cases e6
  refine ho F H σ env O o0 env1 _ s e1 fun F1 H1 v O1 R g1 s1 ow nw => ?_
  refine ha F1 H1 σ env1 O1 ds _ _ s1 e2 fun F2 H2 vs O2 g2 s2 r => ?_
  have nw2 := nw.go g2
  have ow2 := ow.mono g2.ff (fun p u h z => g2.keepO h ⟨(nw p z).1, (nw p z).2.1⟩ (nw p z).2.2) fun _ z => z
  refine ⟨by rw [List.append_nil, List.length_cons, r.len]; exact hl, F2, some o0 :: vals ds, _, _, args', by rw [List.append_nil]; exact s2.lendR ow2 nw2 r, e5, ?_⟩
  rw [List.append_nil]
  exact Ko.lendR (σ := σ) (O := O2) (fun F' H' v' O' R' g' s' ow' n' => kk F' H' v' O' R' ((g1.trans (g2.lift R)).trans g') s' ow' n') s2 nw2
theorem do_callx (Fo : FnOk X.prog X.w X.K X.mg X.base CX0 k f fd ps (spD X.K cm p n)) (hr : Room k X.A) (hm : X.mg x = some (.ref f)) (hk : PySem.W.keepIn X.K (.ref f) = true) (hb : Binds X.K fd ps []) (ho : DO X cm o to fo) (ha : DA X cm es t fa) (hg : Gl X x := by rfl) (hdb : (x == ("__debug__" : Str)) = false := by decide) (he : starEach (o :: es) X.env = (false, eval o X.env) :: starEach es X.env := by rfl) (hpl : (backTo pos (starEach es X.env)).any (·.1) = false := by rfl) :
    DO X cm (.Call (.Name x pp) (o :: es) [] pos) (tCall (spD X.K cm p n) [] E0 (tCons to t)) (mclx fo p n fa) := ⟨pe_call Fo hr hg hm hk hb .nil pass0 (pa_cons ho.pe ha.pe he) hdb he hpl, smo_clx ho.sm ha.sm⟩
end
/-! ### membership in what is a value -/
def inDD (neg : Bool) (a b : D) : Option D := inD neg a (.val b)
theorem pu_in {K : PySem.W.Frag} {cm : Cm} {neg : Bool} : Pure2 K cm (rIn K neg) (inDD neg) := fun F H x y a b d Q ra rb fh e k => by
  obtain ⟨v, e3, e⟩ := bind_some e
  obtain ⟨ds, e4, e⟩ := bind_some e
  obtain ⟨vs, e5, rfl⟩ := map_some e
  obtain ⟨p, ws, rfl, hs, rr⟩ := OwF.seq (S := fun _ => False) (.val rb) fh e4
  obtain ⟨rfl, f1⟩ := ra.toV e3
  obtain ⟨rfl, f2⟩ := rr.toVs e5
  exact ⟨p, _, rfl, hs, f1, f2, k _ (.bl _)⟩
/-! ### a display of one pair, its key an int or a text -/
section
variable {X : Cx} {cm : Cm} {a b : Expr} {ta tb : TE} {pos : Pos}
def mddk (fk fv : M D) : M Od := mb fk fun k => mb fv fun v => mo ((toK k).map fun q => .fd (.dik [(q, v)]))
theorem do_d1K {fk fv : M D} (hk : DE X cm a ta fk) (hv : DE X cm b tb fv) : DO X cm (.Dict [some a] [b] pos) (tDisp [(ta, tb)]) (mddk fk fv) := ⟨pe_disp (pps_cons hk.pe hv.pe pps_nil) rfl rfl (fun z => nomatch z) (by show 1 ≤ 15; decide), fun F H σ env O o env' Q s e k => by
  obtain ⟨kd, env1, e1, e⟩ := mb_some e
  obtain ⟨vd, env2, e2, e⟩ := mb_some e
  obtain ⟨e3, e4⟩ := mo_some e
  dsimp only at e3 e4
  cases e4
  obtain ⟨q, e5, rfl⟩ := map_some e3
  intro p hp
  obtain ⟨sf, gf, f1, f2⟩ := s.fresh (o := .dK []) hp
  have ap : Apart F (upd H p (.dK [])) O p (.dK []) := ⟨upd_same, f1, f2, nt_k⟩
  refine hk.sm F (upd H p (.dK [])) σ env O kd env1 _ sf e1 fun F1 H1 v O1 g1 s1 rk => ?_
  have ap1 := ap.go g1
  refine hv.sm F1 H1 σ env1 O1 vd _ _ s1 e2 fun F2 H2 w O2 g2 s2 rv => ?_
  have ap2 := ap1.go g2
  have ek := (rk.mono g2.ff).toK e5
  subst ek
  refine ⟨ap2.h, [(q, w)], rfl, by show 1 ≤ 15; decide, ?_⟩
  obtain ⟨s3, g3, ap3⟩ := ap2.put (w := .dK [(q, w)]) s2
  refine k F2 _ (.ref p) O2 (fun x => x = p) (gf.trans (((g1.trans g2).lift fun x => x = p).trans g3)) s3 (.fd (.dik ap3.h rfl (.cons rv .nil) rfl)) fun x hx => ?_
  subst hx
  exact ⟨ap3.f, ⟨⟨_, ap3.n⟩, ap3.h⟩, ap3.o⟩⟩
end
/-! ### x is True, x is not True, of a bool -/
def rIsB (neg : Bool) : R2 := fun x y H Q => ∃ a b, x = .bl a ∧ y = .bl b ∧ Q (.bl (if neg = true then !(a == b) else a == b)) H
theorem bl_beq (a b : Bool) : (Value.bool a == Value.bool b) = (a == b) := by cases a <;> cases b <;> rfl
theorem op_isB {X : Cx} : OpR X (compareOp .Is) (rIsB false) := by
  intro pins s σ H x y v u Q I rx ry h
  obtain ⟨a, b, rfl, rfl, q⟩ := h
  cases (show v = Value.bool a from rx)
  cases (show u = Value.bool b from ry)
  exact wpAny_is_plain rfl (fin_bl I q (bl_beq a b).symm)
theorem op_isnB {X : Cx} : OpR X (compareOp .IsNot) (rIsB true) := by
  intro pins s σ H x y v u Q I rx ry h
  obtain ⟨a, b, rfl, rfl, q⟩ := h
  cases (show v = Value.bool a from rx)
  cases (show u = Value.bool b from ry)
  exact wpAny_isNot_plain rfl (fin_bl I q (congrArg not (bl_beq a b).symm))
def isBD (neg : Bool) : D → D → Option D
  | .bl a, .bl b => some (.bl (if neg = true then !(a == b) else a == b))
  | _, _ => none
theorem pu_isB {K : PySem.W.Frag} {cm : Cm} {neg : Bool} : Pure2 K cm (rIsB neg) (isBD neg) := fun F H x y a b d Q ra rb fh e k => by
  cases a <;> cases b <;> cases e
  cases ra
  cases rb
  exact ⟨_, _, rfl, rfl, k _ (.bl _)⟩
/-! ### sorted(d) of a dict whose keys are ints -/
def keyI : L2.Key → Option Int
  | .inl i => some i
  | .inr _ => none
def keysI : List L2.Key → Option (List Int)
  | [] => some []
  | k :: ks => (keyI k).bind fun i => (keysI ks).map (i :: ·)
theorem keysI_eq : ∀ {ks : List L2.Key} {ns : List Int}, keysI ks = some ns → ks = ns.map Sum.inl
  | [], ns, e => by unfold keysI at e; cases e; rfl
  | k :: ks, ns, e => by
    unfold keysI at e
    obtain ⟨i, e1, e⟩ := bind_some e
    obtain ⟨ms, e2, rfl⟩ := map_some e
    rw [keysI_eq e2]
    cases k with
    | inl j => cases e1; rfl
    | inr j => cases e1
def sortDB : List D → Option Od
  | [.dik ks] => (keysI (ks.map (·.1))).bind fun ns => if ns.length < 64 then some (.fd (.lst ((isort ns).map .int))) else none
  | _ => none
def rSortDI : List V → Hp → VK → Prop := fun xs H Q => ∃ (a : Addr) (kvs : List (L2.Key × V)) (ks : List Int), xs = [.ref a] ∧ Rd H a (.dK kvs) ∧ kvs.map (·.1) = ks.map Sum.inl ∧ ks.length < 64 ∧
    ∀ (ys : List Int) (p : Addr), ys.Perm ks → ys.Pairwise (· ≤ ·) → H p = none → Q (.ref p) (upd H p (.lst (ys.map V.int)))
theorem sr_sortedD {K : PySem.W.Frag} {cm : Cm} : SmR K cm rSortDI sortDB := fun F H σ env O vs ds o Q s ra e k => by
  unfold sortDB at e
  split at e
  · obtain ⟨ns, e1, e⟩ := bind_some e
    by_cases c : ns.length < 64
    · rw [if_pos c] at e
      cases e
      obtain ⟨v, rfl, r⟩ := ra.one
      cases r with
      | dik h hk rs =>
        refine ⟨_, _, ns, rfl, .of (s.fh.at h), hk.trans (keysI_eq e1), c, fun ns' p h1 h2 hp => ?_⟩
        rw [isort_eq h1 h2]
        exact k.fresh s hp (RpA.ints _)
    · rw [if_neg c] at e; cases e
  · cases e
theorem cr_sortDI {X : Cx} (hc : X.calm = true) : CallR X (.builtin "sorted") rSortDI := call_sortedDI hc
/-! ### looking at a list or dict that lives on: its items are read, the thing itself is not laid to rest -/
def thaw : Fd → Option D
  | .val d => some d
  | .lst ds => some (.lst ds)
  | .dik ks => some (.dik ks)
  | _ => none
theorem SmH.put {K : PySem.W.Frag} {cm : Cm} {F H : Hp} {p : Addr} {u : HO} (fh : SmH F H) (mm : MM K cm F H) (h : H p = some u) (hu : NX u) (hd : ∀ kvs, u ≠ .dT kvs) : Same F (upd F p u) ∧ SmH (upd F p u) H ∧ MM K cm (upd F p u) H := by
  have f1 : Same F (upd F p u) := fun a w q => by
    by_cases c : a = p
    · subst c
      by_cases nx : NX w
      · have := (fh a w q).1 nx
        rw [h] at this
        cases this
        exact upd_same
      · obtain ⟨n, ps, rfl⟩ : ∃ n ps, w = tagM n ps := by
          apply Classical.byContradiction
          intro z
          exact nx fun n ps e => z ⟨n, ps, e⟩
        obtain ⟨kvs, z, _⟩ := mm a n ps q
        rw [h] at z
        exact (hd _ (Option.some.inj z)).elim
    · rw [upd_ne c]; exact q
  refine ⟨f1, fun a w q => ?_, mm.ext f1 fun a n ps q => ?_⟩
  · by_cases c : a = p
    · subst c
      rw [upd_same] at q
      cases q; exact ⟨fun _ => h, _, h⟩
    · rw [upd_ne c] at q; exact fh a w q
  · by_cases c : a = p
    · subst c
      rw [upd_same] at q
      exact (hu _ _ (Option.some.inj q)).elim
    · rw [upd_ne c] at q; exact q
theorem OwF.rp {K : PySem.W.Frag} {cm : Cm} {F H : Hp} {v : V} {x : Fd} {S : Rg} {d : D} (h : OwF K cm F H v x S) (fh : SmH F H) (mm : MM K cm F H) (e : thaw x = some d) : ∃ F', Same F F' ∧ SmH F' H ∧ Rp K cm F' v d ∧ MM K cm F' H := by
  cases h with
  | val r => cases e; exact ⟨F, fun _ _ z => z, fh, r, mm⟩
  | @lst p vs ds _ h r z =>
    cases e
    obtain ⟨f1, f2, f3⟩ := fh.put mm h nt_l.2 fun _ z => (nomatch z)
    exact ⟨_, f1, f2, .lst upd_same (r.mono f1), f3⟩
  | @dik p kvs _ _ h n r z =>
    cases e
    obtain ⟨f1, f2, f3⟩ := fh.put mm h nt_k.2 fun _ z => (nomatch z)
    exact ⟨_, f1, f2, .dik upd_same n (r.mono f1), f3⟩
  | dit => cases e
def onlyB : D → Option D
  | .bl b => some (.bl b)
  | _ => none
def pcL (g : D → D → Option D) (fx : P Fd) (fb : P D) : P D := fun env => (fx env).bind fun x => (fb env).bind fun b => (thaw x).bind fun a => (g a b).bind onlyB
def pisL (T : String) (tab : Nat → Option Bool) (fx : P Fd) : P D := fun env => (fx env).bind fun x => (thaw x).bind fun a => isiB T tab a
def mixS (i : Nat) (fb : M D) : M D := fun env => ((env[i]?).join).bind fun _ => mb fb (fun b => pu fun env => (px i env).bind fun x => ixF x b) env
section
variable {X : Cx} {cm : Cm} {a b : Expr} {ta tb : TE} {pos : Pos} {fb : P D} {fx : P Fd}
theorem dp_cmpL {op : CmpOp} {r : R2} {g : D → D → Option D} (ho : OpR X (compareOp op) r) (hr : Pure2 X.K cm r g) (ha : DX X cm a ta fx) (hb : DP X cm b tb fb) (hm : behindInMarks op b = false) : DP X cm (.Compare a [op] [b] pos) (tOp r ta tb) (pcL g fx fb) := ⟨pe_cmpR ho ha.pe hb.pe hm, fun F H σ env O d Q s e k => by
  obtain ⟨x, e1, e⟩ := bind_some e
  obtain ⟨y, e2, e⟩ := bind_some e
  obtain ⟨z, e3, e⟩ := bind_some e
  obtain ⟨q, e4, e5⟩ := bind_some e
  refine ha.sm F H σ env O x _ s e1 fun v S ow => hb.sm F H σ env O y _ s e2 fun w rb => ?_
  obtain ⟨F', f1, f2, r1, _⟩ := ow.rp s.fh s.mm e3
  cases q <;> cases e5
  exact hr F' H v w z y _ Q r1 (rb.mono f1) f2 e4 fun u ru => by
    cases ru
    exact k _ (.bl _)⟩
theorem dq_cmpL {op : CmpOp} {r : R2} {g : D → D → Option D} (ho : OpR X (compareOp op) r) (hr : Pure2 X.K cm r g) (ha : DX X cm a ta fx) (hb : DP X cm b tb fb) (hm : behindInMarks op b = false) : DQ X cm (.Compare a [op] [b] pos) (tTest (tOp r ta tb)) (tq (pcL g fx fb)) := ⟨pt_cmpR ho ha.pe hb.pe hm, spt_of (dp_cmpL (pos := pos) ho hr ha hb hm).sm⟩
theorem dp_isiL {p p2 : Pos} {x : Str} {T : String} {tab : Nat → Option Bool} (hm : X.mg "isinstance" = none) (hmT : X.mg x = none) (hvT : bootBuiltins x = some (.type T)) (hc : ∀ c b, tab c = some b → PySem.W.kitOne X.K (.ref (cm c)) (.type T) = some b) (ha : DX X cm a ta fx)
    (hg : Gl X "isinstance" := by rfl) (hgT : Gl X x := by rfl) (hn : x ≠ "__name__" := by decide) (hd : (x == ("__debug__" : Str)) = false := by decide)
    (he : starEach [a, .Name x p2] X.env = (false, eval a X.env) :: starEach [.Name x p2] X.env := by rfl) (he2 : starEach [.Name x p2] X.env = (false, eval (.Name x p2) X.env) :: starEach [] X.env := by rfl) (hpl : (backTo pos (starEach [.Name x p2] X.env)).any (·.1) = false := by rfl) :
    DP X cm (.Call (.Name "isinstance" p) [a, .Name x p2] [] pos) (tCB (rIsi X.K) (tCons ta (tCons (tC (.ty T)) tNil))) (pisL T tab fx) := by
  refine ⟨pe_callB call_isi hg hm (by rfl) (pa_cons ha.pe (pa_cons (pe_bltn hgT hmT hvT rfl hn hd) pa_nil he2) he) (by decide) (by decide) he hpl, fun F H σ env O d Q s e k => ?_⟩
  obtain ⟨x, e1, e⟩ := bind_some e
  obtain ⟨z, e3, e⟩ := bind_some e
  refine ha.sm F H σ env O x _ s e1 fun v S ow => ?_
  obtain ⟨F', f1, f2, r, _⟩ := ow.rp s.fh s.mm e3
  unfold isiB at e
  split at e
  · obtain ⟨b, e2, rfl⟩ := map_some e
    exact ⟨v, _, _, _, b, rfl, .ty T, r.tyO f2, hc _ _ e2, k _ (.bl _)⟩
  · obtain ⟨S, e2, e⟩ := bind_some e
    obtain ⟨b, e3, rfl⟩ := map_some e
    exact ⟨v, _, _, _, b, rfl, .ty T, r.tyX f2 e2, kit_ty e3, k _ (.bl _)⟩
theorem de_ixS (i : Nat) {x : Str} {px' : Pos} {fb : M D} (hi : DE X cm b tb fb) (hN : X.N[i]? = some x := by rfl) (hv : Vis X.env.scope x := by first | exact Or.inl rfl | exact Or.inr (Or.inl rfl) | exact Or.inr (Or.inr rfl)) (hd : (x == ("__debug__" : Str)) = false := by decide)
    (hcd : (x == ("__classdict__" : Str)) = false := by decide) (hs : PlainIx b := by exact fun _ _ => rfl) : DE X cm (.Subscript (.Name x px') b pos) (tOp (rIx X.K) (tVar i) tb) (mixS i fb) := ⟨pe_ix ix_seq (pe_var hN hv hd hcd) hi.pe hs, fun F H σ env O d env' Q s e k => by
  obtain ⟨o0, e0, e⟩ := bind_some e
  obtain ⟨y, env1, e2, e⟩ := mb_some e
  obtain ⟨d', e, e9⟩ := map_some e
  cases e9
  obtain ⟨z, e1, e⟩ := bind_some e
  obtain ⟨v0, ev0, _⟩ := s.at_ i o0 (join2_some e0)
  refine ⟨v0, ev0, hi.sm F H σ env O y _ _ s e2 fun F1 H1 w O1 g1 s1 rk => ?_⟩
  unfold px at e1
  split at e1
  · rename_i xx q
    cases e1
    obtain ⟨v, ev, ow⟩ := s1.at_ i _ q
    rw [ev0] at ev; cases ev
    cases ow with
    | fd ow => exact ix_core ow s1.fh rk e fun u ru => k F1 H1 u O1 g1 s1 ru
  · cases e1⟩
end
/-! ### sorted(t) of a tuple of ints -/
def rSortTI (K : PySem.W.Frag) : List V → Hp → VK → Prop := fun vs H Q => ∃ (a : Addr) (ns : List Int), vs = [V.ref a] ∧ SqT K H a (ns.map V.int) ∧ ns.length < 64 ∧
  ∀ (ys : List Int) (p : Addr), ys.Perm ns → ys.Pairwise (· ≤ ·) → H p = none → Q (.ref p) (upd H p (.lst (ys.map V.int)))
theorem cr_sortTI {X : Cx} : CallR X (.builtin "sorted") (rSortTI X.K) := by
  intro pins s σ H xs us Q I r h
  obtain ⟨a, ns, rfl, hs, h64, q⟩ := h
  obtain ⟨its, rv, hl, hz⟩ := I.tuple hs
  obtain ⟨u, rfl, rx⟩ := vals1 r
  cases rx
  have hi := rv.ints
  obtain ⟨o, ho, hc, n, hd⟩ := hl
  have hal : its.length = ns.length := by have := rv.length; rw [List.length_map] at this; omega
  refine Calls.call_function_entry PyProof.Rows.kind_sorted PyProof.Rows.plain_sorted PyProof.Rows.entry_sorted (PyProof.Rows.args_sorted1 _) ?_
  unfold Builtin.«sorted»
  refine wpAny_bind (m := checkCount "sorted" 1 1 _) (wpAny_pure ?_)
  refine wpAny_bind (wpAny_collect_seq (A := X.A.in1) a (.inr rfl) ho hc hd (fun h' kp => ?_) (by rw [List.size_toArray, sizeLine_eq]; omega))
  have I1 : Inv X pins σ H { s with heap := h', toks := s.toks } := I.kept kp
  have et : its.toArray.toList = its := by simp
  rw [et]
  refine wpAny_bind (wpAny_newList ?_ (by rw [hal, sizeLine_eq]; omega))
  have hoL : (h'.push (seqObj "list" its.toArray 0)).get? h'.objs.size = some (seqObj "list" its.toArray 0) := Heap.get?_push_size _ rfl
  show wpAny _ _ _ _ _ { s with heap := h'.push (seqObj "list" its.toArray 0) }
  refine wpAny_bind (wpAny_holding (wpAny_call_entry PyProof.Rows.slot_list_sort ⟨_, hoL, rfl⟩ PyProof.Rows.entry_list_sort
    (PyProof.Rows.list_sort_tree (s := { s with heap := h'.push (seqObj "list" its.toArray 0) }) hoL hi (by rw [hal]; exact h64) fun out ys g1 g2 g3 => ⟨_, rfl, ?_⟩) (PyProof.Rows.args_list_sort _)))
  obtain ⟨e', he'⟩ := PyProof.Rows.sortedHeap_at (vs := its) (out := out) hoL
  have hlen : (ys.map V.int).length ≤ sizeLine := by
    rw [List.length_map, g2.length_eq]
    exact Nat.le_trans (Nat.le_of_lt h64) (by decide)
  refine wpAny_pure ⟨_, rfl, .ref h'.objs.size, upd H h'.objs.size (.lst (ys.map V.int)), I1.laid (t' := s.toks) (fun b u e => ?_) (Nat.le_refl _)
    (show ObjOk X.prog X.w _ _ _ (.lst (ys.map V.int)) from ⟨hlen, out.toList, e', vals_of_ints g1, by rw [Array.toArray_toList]; exact he'⟩), rfl, q ys _ g2 g3 (I1.hok.fresh (Nat.le_refl _))⟩
  have hb : b < h'.objs.size := Heap.lt_size e
  rw [PyProof.Rows.sortedHeap_old (Nat.ne_of_lt hb) (by rw [size_push']; exact Nat.lt_succ_of_lt hb)]
  exact Heap.get?_push_of_some _ e
def sortTB : List D → Option Od
  | [.tup ds] => (toInts ds).bind fun ns => if ns.length < 64 then some (.fd (.lst ((isort ns).map .int))) else none
  | _ => none
theorem sr_sortedT {K : PySem.W.Frag} {cm : Cm} : SmR K cm (rSortTI K) sortTB := fun F H σ env O vs ds o Q s ra e k => by
  unfold sortTB at e
  split at e
  · obtain ⟨ns, e1, e⟩ := bind_some e
    by_cases c : ns.length < 64
    · rw [if_pos c] at e
      cases e
      obtain ⟨v, rfl, r⟩ := ra.one
      cases r with
      | tup h rs =>
        have e2 := rs.toInts e1
        subst e2
        refine ⟨_, ns, rfl, tupT s.fh h, c, fun ns' p h1 h2 hp => ?_⟩
        rw [isort_eq h1 h2]
        exact k.fresh s hp (RpA.ints _)
    · rw [if_neg c] at e; cases e
  · cases e
end DL

/-! The data layer: comprehensions of two fors; a function that looks at a list which lives on. -/
namespace DL
open PySem PySem.Spec PyProof.Rows L2
def lcD2 (vs vs1 : List Nat) (tg : Tg) (ft : M Bool) (f1 : M (List D)) (tg1 : Tg) (ft1 : M Bool) (fe : M D) : List D → List D → Env → Option (List D × Env)
  | [], acc, env => some (acc, env)
  | d :: ds, acc, env => (tg d env).bind fun e1 => (ft e1).bind fun q => if q.1 = true then (f1 q.2).bind fun r => (lcD vs1 tg1 ft1 fe r.1 acc (wipeE r.2 vs1)).bind fun a => lcD2 vs vs1 tg ft f1 tg1 ft1 fe ds a.1 (wipeE a.2 vs) else lcD2 vs vs1 tg ft f1 tg1 ft1 fe ds acc (wipeE q.2 vs)
def mlc2 (n : Nat) (vs vs1 : List Nat) (f : M (List D)) (tg : Tg) (ft : M Bool) (f1 : M (List D)) (tg1 : Tg) (ft1 : M Bool) (fe : M D) : M Od := fun env => (f env).bind fun q => if q.2.length = n then (lcD2 vs vs1 tg ft f1 tg1 ft1 fe q.1 [] (wipeE q.2 vs)).map fun r => (.fd (.lst r.1), restE q.2 vs r.2) else none
theorem it2 {J : It} {n : Nat} {G : Hp → Prop} {Y : Nat → Hp → V → Hp → Prop} (Wk : Walk J n G Y) {H1 : Hp} {Qd : Hp → Prop} {T : (Hp → Prop) → V → Hp → Prop} (Pv : Nat → Hp → Prop) (h0 : Pv 0 H1) (hG : ∀ i H, i ≤ n → Pv i H → G H)
    (hT : ∀ i x H H', i < n → Pv i H → Y i H x H' → T (Pv (i + 1)) x H') (hQ : ∀ H, Pv n H → Qd H) :
    ∃ W : Nat → Nat → Hp → Prop, (∃ m, W 0 m H1) ∧ ∀ i m H, W i m H → (J.stop i H ∧ Qd H) ∨ (J.go i H ∧ ∃ Nx : Hp → Prop, (∀ H', Nx H' → ∃ m', m' < m ∧ W (i + 1) m' H') ∧ ∀ x H', J.yld i H x H' → T Nx x H') := by
  refine ⟨fun i m H => i ≤ n ∧ m = n - i ∧ Pv i H, ⟨n, Nat.zero_le _, rfl, h0⟩, fun i m H ⟨hi, hm, hp⟩ => ?_⟩
  by_cases c : i = n
  · subst c
    exact .inl ⟨Wk.stops H (hG _ _ hi hp), hQ _ hp⟩
  · have hl : i < n := by omega
    refine .inr ⟨Wk.goes i H hl (hG _ _ hi hp), Pv (i + 1), fun H' h' => ⟨n - (i + 1), by omega, by omega, rfl, h'⟩, fun x H' hy => ?_⟩
    exact hT i x H H' hl hp (Wk.yields i H x H' hl (hG _ _ hi hp) hy)
theorem wipe_sub {σ : L2.St} {vs vs1 : List Nat} (h : ∀ i ∈ vs1, i ∈ vs) : L2.wipe (L2.wipe σ vs1) vs = L2.wipe σ vs := by
  refine List.ext_getElem? fun i => ?_
  by_cases hi : i ∈ vs
  · rw [wipe_in (n := σ.length) (L2.wipe σ vs1) vs hi (by rw [wipe_length]), wipe_in (n := σ.length) σ vs hi rfl]
  · rw [wipe_out hi, wipe_out hi, wipe_out fun z => hi (h i z)]
section
variable {X : Cx} {cm : Cm} {elt tg iter c tg1 iter1 : Expr} {ifs ifs1 : List Expr} {scope : Scope} {own : List (Str × Nat)} {pos : Pos} {wi wi1 : TI} {g g1 : TG} {tt tt1 : TT} {te : TE} {f f1 : M (List D)} {tgd tgd1 : Tg} {ft ft1 : M Bool} {fe : M D}
theorem sm_lc2 {n : Nat} {K : PySem.W.Frag} {vs vs1 : List Nat} (hsub : ∀ i ∈ vs1, i ∈ vs) (hi : SmI K cm wi f) (hg : SmG K cm (compl n vs) g tgd) (ht : SmT K cm tt ft) (hi1 : SmI K cm wi1 f1) (hg1 : SmG K cm (compl n vs1) g1 tgd1) (ht1 : SmT K cm tt1 ft1) (he : Sm K cm te fe) :
    SmO K cm (tLc2 wi g tt wi1 g1 tt1 te vs vs1) (mlc2 n vs vs1 f tgd ft f1 tgd1 ft1 fe) := fun F H σ env O o env' Q s e k => by
  obtain ⟨⟨ds, env1⟩, e1, e⟩ := bind_some e
  have hen : env1.length = n := by
    by_cases c : env1.length = n
    · exact c
    · rw [if_neg c] at e; cases e
  rw [if_pos hen] at e
  obtain ⟨⟨ys, envf⟩, e2, e3⟩ := map_some e
  cases e3
  dsimp only at e2
  refine hi F H σ env O ds env1 _ s e1 fun F1 H1 O1 J g1' s1 ⟨Y, W, hY⟩ D hD => ?_
  obtain ⟨sf, gf, f1', f2⟩ := s1.fresh (o := .lst []) hD
  refine it2 W (fun i H2 => ∃ F2 env2 O2 acc ws, Go (Un O) F H (fun p => p = D ∨ Un O2 p) F2 H2 ∧ Same F1 F2 ∧ Sts K cm F2 H2 (wipe σ vs) env2 O2 ∧ Apart F2 H2 O2 D (.lst ws) ∧ RpA K cm F2 ws acc ∧ lcD2 vs vs1 tgd ft f1 tgd1 ft1 fe (ds.drop i) acc env2 = some (ys, envf))
    ⟨F1, wipeE env1 vs, O1, [], [], g1'.trans gf, Same.refl _, sf.wipe vs, ⟨upd_same, f1', f2, nt_l⟩, .nil, e2⟩ (fun i H2 _ ⟨F2, env2, O2, _, _, _, sm, s2, _⟩ => sm.trh s2.fh) ?_ ?_
  · rintro i x H2 H' hi2 ⟨F2, env2, O2, acc, ws, g2, sm, s2, ap, ra, e4⟩ hy
    have hd : ds[i]? = some ds[i] := List.getElem?_eq_getElem hi2
    rw [List.drop_eq_getElem_cons hi2] at e4
    unfold lcD2 at e4
    obtain ⟨env3, e5, e4⟩ := bind_some e4
    obtain ⟨⟨kb, env4⟩, e6, e4⟩ := bind_some e4
    dsimp only at e4
    obtain ⟨F3, s3, g3, r3⟩ := wk_turn (J := J) (ds := ds) (hY i H2 x H' ds[i] hd (sm.trh s2.fh) hy) sm s2
    have ap3 := ap.go g3
    have gg3 := g2.trans ((g3.lift fun p => p = D))
    refine hg F3 H' (wipe σ vs) env2 O2 x _ env3 _ s3 r3 e5 fun σ4 s4 b4 => ?_
    have ew : wipe σ4 vs = wipe σ vs := wipe_same (by rw [s1.len]; exact hen) b4
    refine ⟨ew, ht F3 H' σ4 env3 O2 kb env4 _ s4 e6 fun F5 H5 O5 g5 s5 => ?_⟩
    have ap5 := ap3.go g5
    have gg5 := gg3.trans (g5.lift fun p => p = D)
    have sm5 := (sm.trans g3.ff).trans g5.ff
    cases kb with
    | false =>
      rw [if_neg Bool.false_ne_true] at e4 ⊢
      refine ⟨F5, wipeE env4 vs, O5, acc, ws, gg5, sm5, ?_, ap5, (ra.mono g3.ff).mono g5.ff, e4⟩
      have := s5.wipe vs
      rw [ew] at this
      exact this
    | true =>
      rw [if_pos rfl] at e4 ⊢
      obtain ⟨⟨ds1, env6⟩, e7, e4⟩ := bind_some e4
      dsimp only at e4
      have hl4 : σ4.length = n := by
        have h1 := congrArg List.length ew
        rw [wipe_length, wipe_length, s1.len, hen] at h1
        exact h1
      refine hi1 F5 H5 σ4 env4 O5 ds1 env6 _ s5 e7 fun F6 H6 O6 J1 g6 s6 ⟨Y1, W1, hY1⟩ => ?_
      have ap6 := ap5.go g6
      refine it2 W1 (fun j H7 => ∃ F7 env7 O7 acc7 ws7, Go (Un O) F H (fun p => p = D ∨ Un O7 p) F7 H7 ∧ Same F6 F7 ∧ Sts K cm F7 H7 (wipe σ4 vs1) env7 O7 ∧ Apart F7 H7 O7 D (.lst ws7) ∧ RpA K cm F7 ws7 acc7 ∧ ((lcD vs1 tgd1 ft1 fe (ds1.drop j) acc7 env7).bind fun a => lcD2 vs vs1 tgd ft f1 tgd1 ft1 fe (ds.drop (i + 1)) a.1 (wipeE a.2 vs)) = some (ys, envf))
        ⟨F6, wipeE env6 vs1, O6, acc, ws, gg5.trans (g6.lift fun p => p = D), Same.refl _, s6.wipe vs1, ap6, ((ra.mono g3.ff).mono g5.ff).mono g6.ff, e4⟩ (fun j H7 _ ⟨F7, env7, O7, _, _, _, sm7, s7, _⟩ => sm7.trh s7.fh) ?_ ?_
      · rintro j x1 H7 H7' hj2 ⟨F7, env7, O7, acc7, ws7, g7, sm7, s7, ap7, ra7, e8⟩ hy1
        have hd1 : ds1[j]? = some ds1[j] := List.getElem?_eq_getElem hj2
        rw [List.drop_eq_getElem_cons hj2] at e8
        unfold lcD at e8
        obtain ⟨⟨acc9, env9⟩, e8, e11⟩ := bind_some e8
        obtain ⟨env8, e9, e8⟩ := bind_some e8
        obtain ⟨⟨kb1, env10⟩, e10, e8⟩ := bind_some e8
        dsimp only at e8
        obtain ⟨F8, s8, g8, r8⟩ := wk_turn (J := J1) (ds := ds1) (hY1 j H7 x1 H7' ds1[j] hd1 (sm7.trh s7.fh) hy1) sm7 s7
        have ap8 := ap7.go g8
        have gg8 := g7.trans ((g8.lift fun p => p = D))
        refine hg1 F8 H7' (wipe σ4 vs1) env7 O7 x1 _ env8 _ s8 r8 e9 fun σ9 s9 b9 => ?_
        have ew9 : wipe σ9 vs1 = wipe σ4 vs1 := wipe_same hl4 b9
        refine ⟨ew9, ht1 F8 H7' σ9 env8 O7 kb1 env10 _ s9 e10 fun F10 H10 O10 g10 s10 => ?_⟩
        have ap10 := ap8.go g10
        have gg10 := gg8.trans (g10.lift fun p => p = D)
        have sm10 := (sm7.trans g8.ff).trans g10.ff
        cases kb1 with
        | false =>
          rw [if_neg Bool.false_ne_true] at e8 ⊢
          refine ⟨F10, wipeE env10 vs1, O10, acc7, ws7, gg10, sm10, ?_, ap10, (ra7.mono g8.ff).mono g10.ff, by rw [e8]; exact e11⟩
          have := s10.wipe vs1
          rw [ew9] at this
          exact this
        | true =>
          rw [if_pos rfl] at e8 ⊢
          obtain ⟨⟨y, env12⟩, e12, e8⟩ := bind_some e8
          dsimp only at e8
          have hz : acc7.length < 16777216 := by
            by_cases c : acc7.length < 16777216
            · exact c
            · rw [if_neg c] at e8; cases e8
          rw [if_pos hz] at e8
          refine he F10 H10 σ9 env10 O10 y env12 _ s10 e12 fun F12 H12 v O12 g12 s12 r12 => ?_
          have ap12 := ap10.go g12
          have ra12 := ((ra7.mono g8.ff).mono g10.ff).mono g12.ff
          refine ⟨ws7, ap12.h, szlt (by rw [ra12.len]; exact hz), ?_⟩
          obtain ⟨s13, g13, ap13⟩ := ap12.put (w := .lst (ws7 ++ [v])) s12
          refine ⟨F12, wipeE env12 vs1, O12, acc7 ++ [y], ws7 ++ [v], (gg10.trans (g12.lift fun p => p = D)).trans g13, sm10.trans g12.ff, ?_, ap13, ra12.app (.cons r12 .nil), by rw [e8]; exact e11⟩
          have := s13.wipe vs1
          rw [ew9] at this
          exact this
      · rintro H7 ⟨F7, env7, O7, acc7, ws7, g7, sm7, s7, ap7, ra7, e8⟩
        rw [List.drop_length] at e8
        unfold lcD at e8
        refine ⟨F7, wipeE env7 vs, O7, acc7, ws7, g7, (sm5.trans g6.ff).trans sm7, ?_, ap7, ra7, e8⟩
        have := s7.wipe vs
        rw [wipe_sub hsub, ew] at this
        exact this
  · rintro H2 ⟨F2, env2, O2, acc, ws, g2, sm, s2, ap, ra, e4⟩
    rw [List.drop_length] at e4
    cases e4
    refine k F2 H2 (.ref D) O2 (fun p => p = D) g2 (s1.rest s2 sm) (.fd (.lst ap.h ra rfl)) fun p e => ?_
    subst e
    exact ⟨ap.f, ⟨⟨_, ap.n⟩, ap.h⟩, ap.o⟩
def wiOf (K : PySem.W.Frag) (cm : Cm) (f : M (List D)) : TI := fun σ H R => ∃ F env O ds env', Sts K cm F H σ env O ∧ f env = some (ds, env') ∧ ∀ F' H' O' J, Go (Un O) F H (Un O') F' H' → Sts K cm F' H' σ env' O' → WkD K cm F' J ds → R J H'
theorem di_cn {X : Cx} {tg e : Expr} {f : M (List D)} (h : ∃ wi, DI X cm tg e wi f) : DI X cm tg e (wiOf X.K cm f) f := by
  obtain ⟨wi, h⟩ := h
  exact ⟨⟨fun pins s σ H R I ⟨F, env, O, d, env', st, e1, k⟩ => h.pe.run pins s σ H R I (h.sm F H σ env O d env' R st e1 k)⟩, fun F H σ env O d env' R s e k => ⟨F, env, O, d, env', s, e, k⟩⟩
theorem do_lc2 {n : Nat} {vs vs1 : List Nat} (hN : X.N.Nodup) (hi : DI X cm tg iter wi f) (ok : BlkOk X.N X.env.scope scope own)
    (hg : ∀ (s : Shared) (H : Hp) (C : Addr) (cl : List (Str × Addr)) (fp : List Addr), ∃ g, DG (X.blk s H scope (compEnvC scope cl C X.env) fp) cm (compl n vs) tg g tgd) (ht : ∀ (s : Shared) (H : Hp) (C : Addr) (cl : List (Str × Addr)) (fp : List Addr), ∃ tt, DTs (X.blk s H scope (compEnvC scope cl C X.env) fp) cm ifs tt ft)
    (hi1 : ∀ (s : Shared) (H : Hp) (C : Addr) (cl : List (Str × Addr)) (fp : List Addr), ∃ wi1, DI (X.blk s H scope (compEnvC scope cl C X.env) fp) cm tg1 iter1 wi1 f1)
    (hg1 : ∀ (s : Shared) (H : Hp) (C : Addr) (cl : List (Str × Addr)) (fp : List Addr), ∃ g, DG (X.blk s H scope (compEnvC scope cl C X.env) fp) cm (compl n vs1) tg1 g tgd1) (ht1 : ∀ (s : Shared) (H : Hp) (C : Addr) (cl : List (Str × Addr)) (fp : List Addr), ∃ tt, DTs (X.blk s H scope (compEnvC scope cl C X.env) fp) cm ifs1 tt ft1)
    (he : ∀ (s : Shared) (H : Hp) (C : Addr) (cl : List (Str × Addr)) (fp : List Addr), ∃ te, DE (X.blk s H scope (compEnvC scope cl C X.env) fp) cm elt te fe) (hvs : own.map (·.2) = vs := by rfl) (hsub : ∀ i ∈ vs1, i ∈ vs := by decide) (hc : X.calm = true := by rfl) (hs : ∀ x, foldedSetIterable iter X.env x = pure x := by intro _; rfl) (hs1 : ∀ env x, foldedSetIterable iter1 env x = pure x := by intro _ _; rfl) :
    DO X cm (.ListComp elt [⟨tg, iter, ifs, 0⟩, ⟨tg1, iter1, ifs1, 0⟩] scope pos) (tLc2 wi (tgOf X.K cm (compl n vs) tgd) (ttOf X.K cm ft) (wiOf X.K cm f1) (tgOf X.K cm (compl n vs1) tgd1) (ttOf X.K cm ft1) (teOf X.K cm fe) vs vs1) (mlc2 n vs vs1 f tgd ft f1 tgd1 ft1 fe) := by
  subst hvs
  have hg := fun s H C cl fp => dg_cn (hg s H C cl fp)
  have ht := fun s H C cl fp => dts_cn (ht s H C cl fp)
  have hi1 := fun s H C cl fp => di_cn (hi1 s H C cl fp)
  have hg1 := fun s H C cl fp => dg_cn (hg1 s H C cl fp)
  have ht1 := fun s H C cl fp => dts_cn (ht1 s H C cl fp)
  have he := fun s H C cl fp => de_cn (he s H C cl fp)
  exact ⟨pe_lc2 hc hN hi.pe ok hsub (fun s H C cl fp => (hg s H C cl fp).pe) (fun s H C cl fp => (ht s H C cl fp).pe) (fun s H C cl fp => (hi1 s H C cl fp).pe) (fun s H C cl fp => (hg1 s H C cl fp).pe) (fun s H C cl fp => (ht1 s H C cl fp).pe) (fun s H C cl fp => (he s H C cl fp).pe) hs hs1,
    sm_lc2 hsub hi.sm (hg X.s_0 X.H_0 0 [] []).sm (ht X.s_0 X.H_0 0 [] []).sm (hi1 X.s_0 X.H_0 0 [] []).sm (hg1 X.s_0 X.H_0 0 [] []).sm (ht1 X.s_0 X.H_0 0 [] []).sm (he X.s_0 X.H_0 0 [] []).sm⟩
theorem ds_setLc2 {B : List Nat} {i n : Nat} {vs vs1 : List Nat} {y : Str} {py spos : Pos} (hN : X.N.Nodup) (hsw : swapsWith (.ListComp elt [⟨tg, iter, ifs, 0⟩, ⟨tg1, iter1, ifs1, 0⟩] scope pos) (some (.Name y py)) spos.line X.env = pure true) (hi : DI X cm tg iter wi f) (ok : BlkOk X.N X.env.scope scope own)
    (hg : ∀ (s : Shared) (H : Hp) (C : Addr) (cl : List (Str × Addr)) (fp : List Addr), ∃ g, DG (X.blk s H scope (compEnvC scope cl C X.env) fp) cm (compl n vs) tg g tgd) (ht : ∀ (s : Shared) (H : Hp) (C : Addr) (cl : List (Str × Addr)) (fp : List Addr), ∃ tt, DTs (X.blk s H scope (compEnvC scope cl C X.env) fp) cm ifs tt ft)
    (hi1 : ∀ (s : Shared) (H : Hp) (C : Addr) (cl : List (Str × Addr)) (fp : List Addr), ∃ wi1, DI (X.blk s H scope (compEnvC scope cl C X.env) fp) cm tg1 iter1 wi1 f1)
    (hg1 : ∀ (s : Shared) (H : Hp) (C : Addr) (cl : List (Str × Addr)) (fp : List Addr), ∃ g, DG (X.blk s H scope (compEnvC scope cl C X.env) fp) cm (compl n vs1) tg1 g tgd1) (ht1 : ∀ (s : Shared) (H : Hp) (C : Addr) (cl : List (Str × Addr)) (fp : List Addr), ∃ tt, DTs (X.blk s H scope (compEnvC scope cl C X.env) fp) cm ifs1 tt ft1)
    (he : ∀ (s : Shared) (H : Hp) (C : Addr) (cl : List (Str × Addr)) (fp : List Addr), ∃ te, DE (X.blk s H scope (compEnvC scope cl C X.env) fp) cm elt te fe) (hvs : own.map (·.2) = vs := by rfl) (hsub : ∀ i ∈ vs1, i ∈ vs := by decide) (hB : i ∉ B := by decide) (hy : X.N[i]? = some y := by rfl) (hyl : X.env.scope.names.lookup y = some .local := by rfl) (hc : X.calm = true := by rfl) (hs : ∀ x, foldedSetIterable iter X.env x = pure x := by intro _; rfl) (hs1 : ∀ env x, foldedSetIterable iter1 env x = pure x := by intro _ _; rfl) :
    DS X cm B (.Assign [.Name y py] (.ListComp elt [⟨tg, iter, ifs, 0⟩, ⟨tg1, iter1, ifs1, 0⟩] scope pos) spos) (tAsg (tLc2 wi (tgOf X.K cm (compl n vs) tgd) (ttOf X.K cm ft) (wiOf X.K cm f1) (tgOf X.K cm (compl n vs1) tgd1) (ttOf X.K cm ft1) (teOf X.K cm fe) vs vs1) (gName i)) (gst i (mlc2 n vs vs1 f tgd ft f1 tgd1 ft1 fe)) := by
  subst hvs
  have hg := fun s H C cl fp => dg_cn (hg s H C cl fp)
  have ht := fun s H C cl fp => dts_cn (ht s H C cl fp)
  have hi1 := fun s H C cl fp => di_cn (hi1 s H C cl fp)
  have hg1 := fun s H C cl fp => dg_cn (hg1 s H C cl fp)
  have ht1 := fun s H C cl fp => dts_cn (ht1 s H C cl fp)
  have he := fun s H C cl fp => de_cn (he s H C cl fp)
  exact ⟨ps_setLc2 hc hN hy hyl hsw hi.pe ok hsub (fun s H C cl fp => (hg s H C cl fp).pe) (fun s H C cl fp => (ht s H C cl fp).pe) (fun s H C cl fp => (hi1 s H C cl fp).pe) (fun s H C cl fp => (hg1 s H C cl fp).pe) (fun s H C cl fp => (ht1 s H C cl fp).pe) (fun s H C cl fp => (he s H C cl fp).pe) hs hs1,
    sms_asg (sm_lc2 hsub hi.sm (hg X.s_0 X.H_0 0 [] []).sm (ht X.s_0 X.H_0 0 [] []).sm (hi1 X.s_0 X.H_0 0 [] []).sm (hg1 X.s_0 X.H_0 0 [] []).sm (ht1 X.s_0 X.H_0 0 [] []).sm (he X.s_0 X.H_0 0 [] []).sm) hB⟩
end
/-! ### f(x) of what lives on in x: f tells a flag, a number or None -/
def scal : Od → Option D
  | .fd (.val (.bl b)) => some (.bl b)
  | .fd (.val (.int b)) => some (.int b)
  | .fd (.val .non) => some .non
  | _ => none
def mclT (i : Nat) (p : Fn) : M D := fun env => ((env[i]?).join).bind fun o => (p [some (.fd (.val o.frz))]).bind fun r => (scal r.1).map fun d => (d, env)
section
variable {X : Cx} {cm : Cm} {pos pp py : Pos} {p : Fn} {k : Nat} {f : Addr} {fd : FuncData} {ps : List Str} {x y : Str}
theorem sm_clT {E : XK} (i : Nat) (hf : ∀ n ps k, cm.f n ps k = none) : Sm X.K cm (tCall (spD X.K cm p 1) [] E (tCons (tVar i) tNil)) (mclT i p) := fun F H σ env O d env' Q s e kk => by
  obtain ⟨o, e0, e⟩ := bind_some e
  obtain ⟨⟨o1, args'⟩, e1, e⟩ := bind_some e
  obtain ⟨d1, e2, e3⟩ := map_some e
  cases e3
  dsimp only at e2
  have e0 : env[i]? = some (some o) := join2_some e0
  obtain ⟨v, ev, ow⟩ := s.at_ i o e0
  obtain ⟨h1, h2, h3, g0⟩ := frz_go (S := Un O) (R := O i) s.fh s.mm (fun p z => s.ow i p z) fun p z => ⟨i, z⟩
  have rp : Rp X.K cm (over (O i) H F) v o.frz := ow.frz h1 fun p u q z => by rw [over_in z]; exact q
  refine ⟨v, ev, rfl, over (O i) H F, _, _, _, args', sts_vals h2 h3 (.cons rp .nil), e1, fun F1 H1 w O1 R g1 s1 ow1 nw1 => ?_⟩
  have hh : ∀ q (u : HU), H q = some u.1 → F q = none → H1 q = some u.1 := fun q u z f => by
    by_cases c : O i q
    · exact s1.fh.at (g1.ff q u.1 (by rw [over_in c]; exact z)) u.2.2
    · exact g1.hh q u z (by rw [over_out c]; exact f) fun ⟨_, w⟩ => w
  have s2 : Sts X.K cm F H1 σ env O := by
    refine ⟨(h1.trans g1.ff).trh s1.fh, s.len, fun j x q => ?_, fun j q z => ?_, s.dj, fun p n ps e => ?_⟩
    · obtain ⟨u, a, b⟩ := s.at_ j x q
      refine ⟨u, a, b.mono (Same.refl _) (fun q u z y => ?_) fun _ z => z⟩
      obtain ⟨f, v, e⟩ := s.ow j q y
      rw [z] at e; have e := Option.some.inj e; subst e
      exact hh q v z f
    · obtain ⟨a, u, b⟩ := s.ow j q z
      exact ⟨a, u, hh _ _ b a⟩
    · obtain ⟨kvs, a, b⟩ := s1.mm p n ps (g1.ff _ _ (h1 _ _ e))
      refine ⟨kvs, a, fun q hq => ?_⟩
      obtain ⟨d, z, _⟩ := b q hq
      rw [hf] at z; cases z
  refine kk F H1 w O ⟨Same.refl _, fun q u z f _ => hh q u z f, fun q z => .inl z, fun q z => .inl z, g1.al⟩ s2 ?_
  unfold scal at e2
  split at e2 <;> cases e2 <;> (cases ow1 with | fd ow1 => cases ow1 with | val r => cases r <;> constructor)
theorem de_callT (i : Nat) (hf : ∀ n ps k, cm.f n ps k = none) (Fo : FnOk X.prog X.w X.K X.mg X.base CX0 k f fd ps (spD X.K cm p 1)) (hr : Room k X.A) (hm : X.mg x = some (.ref f)) (hk : PySem.W.keepIn X.K (.ref f) = true) (hb : Binds X.K fd ps []) (hN : X.N[i]? = some y := by rfl) (hv : Vis X.env.scope y := by first | exact Or.inl rfl | exact Or.inr (Or.inl rfl) | exact Or.inr (Or.inr rfl)) (hd : (y == ("__debug__" : Str)) = false := by decide)
    (hcd : (y == ("__classdict__" : Str)) = false := by decide) (hg : Gl X x := by rfl) (hdb : (x == ("__debug__" : Str)) = false := by decide) (he : starEach [.Name y py] X.env = (false, eval (.Name y py) X.env) :: starEach [] X.env := by rfl) (hpl : (backTo pos (starEach [] X.env)).any (·.1) = false := by rfl) :
    DE X cm (.Call (.Name x pp) [.Name y py] [] pos) (tCall (spD X.K cm p 1) [] E0 (tCons (tVar i) tNil)) (mclT i p) := ⟨pe_call Fo hr hg hm hk hb .nil pass0 (pa_cons (pe_var hN hv hd hcd) pa_nil he) hdb he hpl, sm_clT i hf⟩
end
end DL

/-! set(list of ints), as the set's own reading SetR -/
namespace DL
open PySem PySem.Spec PyProof.Rows L2
section
variable {P : Program} {w : World} {A : Around} {E : Value → Shared → Prop} {s : Shared}
def bareSet (w : World) : Obj := ⟨.type "set", none, .set #[] 0 (.fresh 0 0 (!w.params.followText "set-order")), #[]⟩
theorem set_of_list (ns : List Int) {l : Addr} {us : Array Value} {Q : Value → Shared → Prop} (calm : A.handled = none) (isl : s.heap.IsList l us) (its : IntsAre us.toList ns) (room : ns.length + 1 < scanBound)
    (fin : ∀ (g : Heap) (tk c : Nat), SetR w g s.heap.objs.size (fun j => decide (j ∈ ns)) c → c ≤ ns.length → (∀ b o, s.heap.get? b = some o → g.get? b = some o) → Q (.ref s.heap.objs.size) { s with heap := g, toks := tk }) :
    wpAny (model P w) A (call (.type "set") [.ref l]) Q E s := by
  have sz : us.size = ns.length := by rw [← IntsAre.length its, Array.length_toList]
  obtain ⟨m0, m1, hm0⟩ := (F.called_set).mro
  have mk0 := (F.called_set).made
  have sb0 := (F.called_set).sub
  refine wpAny_call (codeAny_of_tree ?_)
  show wpAny _ _ (callAny (.type "set") _) _ _ _
  refine wpAny_pure ⟨Code.quiet_builtin _ (by decide +kernel), codeAny_builtin F.entry_type_call ?_⟩
  rw [Around.under_plain (weight_type_call_type "set" [.ref l] []) rfl]
  have q1 := (F.called_set).notType
  have q2 := (F.called_set).canCreate
  have q3 := F.typeCall_set_1 (.ref l)
  repeat (any_goals (first | assumption | wp_step))
  refine codeAny_mono (code_set_led1 (.ref l) (E := E) (Q₁ := fun obj s₁ => obj = .ref s.heap.objs.size ∧ s₁ = { s with heap := s.heap.push (bareSet w) }) ⟨rfl, rfl⟩) fun r s₁ hr => ?_
  cases r with
  | error e => exact hr
  | ok fl =>
    cases fl with
    | ret obj =>
      obtain ⟨rfl, rfl⟩ := hr
      have at0 : (s.heap.push (bareSet w)).get? s.heap.objs.size = some (bareSet w) := Heap.get?_push_size _ rfl
      have ty0 : Shared.TypeIs { s with heap := s.heap.push (bareSet w) } (.ref s.heap.objs.size) "set" := ⟨_, at0, rfl⟩
      have q4 := (F.called_set).init.lookup
      have q5 := (F.called_set).init.bind (.ref s.heap.objs.size)
      repeat (any_goals (first | assumption | wp_step))
      refine codeAny_mono (codeAny_call_builtin (R := wants (fun r s₂ => r = .none ∧ ∃ g tk c, s₂ = { s with heap := g, toks := tk } ∧ SetR w g s.heap.objs.size (fun j => decide (j ∈ ns)) c ∧ c ≤ ns.length ∧
          (∀ b o, s.heap.get? b = some o → g.get? b = some o)) E) (F.called_set).init.plain F.entry_set_init (check_set_init_1 ty0 ?_)) fun r₂ s₂ hr₂ => ?_
      · obtain ⟨⟨lc, ld, lx, ls⟩, lat, lty, ln, ldt⟩ := isl
        simp only at lty ldt
        subst lty; subst ldt
        have lat' : (s.heap.push (bareSet w)).get? l = some ⟨.type "list", ld, .seq us ln, ls⟩ := Heap.get?_push_of_some _ lat
        have t1 := F.sub_list_set
        have t2 := F.sub_list_frozenset
        have t3 : (Value.type "list" == Value.type "dict") = false := by decide
        have lis : (s.heap.push (bareSet w)).IsList l us := ⟨_, lat', rfl, ln, rfl⟩
        unfold Builtin.«set.__init__» noKeywords Builtin.Frozenset.updateFrom
        generalize hPI : pyIter = PI
        wp_walk
        subst hPI
        refine wpAny_pyIter_list lis ?_
        refine wpAny_bind (wpAny_runValue ?_)
        have lS : l < s.heap.objs.size := Heap.lt_size lat
        have cm3 : A.in1.in1.in1.handled = none := by simp [calm]
        have z1 : (s.heap.push (bareSet w)).objs.size = s.heap.objs.size + 1 := Heap.size_push ..
        have lI : l ≠ (s.heap.push (bareSet w)).objs.size := fun e => Nat.lt_irrefl _ (Nat.lt_of_lt_of_le lS (by rw [e, z1]; exact Nat.le_succ _))
        have apart : s.heap.objs.size ∉ [(s.heap.push (bareSet w)).objs.size, l] := by
          rw [z1, List.mem_cons, List.mem_singleton]
          exact fun e => e.elim (fun e => Nat.succ_ne_self _ e.symm) fun e => Nat.lt_irrefl _ (Nat.lt_of_lt_of_le lS (Nat.le_of_eq e))
        have val : ∀ (i : Nat) (v : Value), us[i]? = some v → ∃ k t, ns[i]? = some k ∧ v = .int k t := fun i v hv => by
          have hi : i < ns.length := by rw [← sz]; exact (Array.getElem?_eq_some_iff.mp hv).1
          obtain ⟨t, e⟩ := IntsAre.int_at its i v (by rw [Array.getElem?_toList]; exact hv)
          exact ⟨ns[i], t, List.getElem?_eq_getElem hi, by rw [e, List.getD_eq_getElem?_getD, List.getElem?_eq_getElem hi] <;> rfl⟩
        refine set_update_ints ((Walks.list cm3 _ l lI us).toS) s.heap.objs.size apart ns sz room val (us.size - 0) 0 _ (by omega) (Nat.zero_le _)
          ⟨⟨_, Heap.get?_push_size _ rfl, rfl, rfl⟩, (lis.push _)⟩ ⟨0, Nat.le_refl 0, setR_new_at (Heap.get?_push_of_some _ at0)⟩ ?_
        intro s' c' mv hc' hS'
        obtain ⟨g, g2, d', tk', os'⟩ := s'
        cases (mv.gens : g2 = s.gens)
        cases (mv.drawn : d' = s.drawn)
        cases (mv.os : os' = s.os)
        show wpAny _ _ _ _ _ _
        refine wpAny_pure ?_
        show wpAny _ _ (ret Value.none) _ _ _
        rw [sz] at hc'
        refine wpAny_pure ⟨rfl, g, tk', c', rfl, hS', hc', fun b o e => ?_⟩
        have b0 : b < s.heap.objs.size := Heap.lt_size e
        refine mv.heap b o ?_ (Heap.get?_push_of_some _ (Heap.get?_push_of_some _ e))
        rw [z1, List.mem_cons, List.mem_singleton]
        exact fun e => e.elim (fun e => Nat.lt_irrefl _ (Nat.lt_of_lt_of_le b0 (Nat.le_of_eq e.symm))) fun e => Nat.lt_irrefl _ (Nat.lt_of_lt_of_le b0 (by rw [e]; exact Nat.le_succ _))
      · cases r₂ with
        | error e => exact hr₂
        | ok fl₂ =>
          cases fl₂ with
          | ret r =>
            obtain ⟨rfl, g, tk, c', rfl, hS', hc', hk'⟩ := hr₂
            repeat (any_goals (first | assumption | wp_step))
            exact fin _ _ _ hS' hc' hk'
          | _ => exact hr₂.elim
    | _ => exact hr.elim
end
end DL

/-! The data layer: sorted(set(e)), e a list or a tuple of ints. -/
namespace DL
open PySem PySem.Spec PyProof.Rows L2
theorem setR_len {w : World} {h : Heap} {a : Addr} {ns : List Int} {c : Nat} (R : SetR w h a (fun j => decide (j ∈ ns)) c) : c = (metI ns).length := by
  obtain ⟨o, es, ep, t, _, _, _, _, nd, hm, _, _, hn, _, _⟩ := R
  rw [metI_len nd fun k => (hm k).symm.trans decide_eq_true_iff, List.length_map, Array.length_toList, hn]
def rSetI (K : PySem.W.Frag) (w : World) : List V → Hp → VK → Prop := fun xs H Q => ∃ (p : Addr) (ns : List Int), xs = [.ref p] ∧ (SqL K H p (ns.map V.int) ∨ SqT K H p (ns.map V.int)) ∧ ns.length ≤ 4000 ∧
  ∀ a, H a = none → Q (.ref a) (upd H a (SetO w a (fun j => decide (j ∈ ns)) (metI ns).length))
theorem cr_setI {X : Cx} (hc : X.calm = true) : CallR X (.type "set") (rSetI X.K X.w) := by
  intro pins s σ H xs us Q I r h
  obtain ⟨p, ns, rfl, hp, hl, q⟩ := h
  rw [Vals.ref1 r]
  have hn : H s.heap.objs.size = none := I.hok.fresh (Nat.le_refl _)
  have room : ns.length + 1 < scanBound := by unfold scanBound; omega
  rcases hp with hp | hp
  · obtain ⟨its, rv, pl, hz⟩ := I.list hp
    refine set_of_list ns (I.ok.hd hc) pl.isList (by simpa using RZ.intsAre_vals rv) room fun g tk c R hcn k => ?_
    cases setR_len R
    exact ⟨.ref s.heap.objs.size, upd H s.heap.objs.size (SetO X.w s.heap.objs.size (fun j => decide (j ∈ ns)) (metI ns).length), I.laid (t' := tk) k (Nat.le_refl _) (setO_new R), rfl, q _ hn⟩
  · obtain ⟨its, rv, pt, hz⟩ := I.tuple hp
    refine call_set_tupI ns (I.ok.hd hc) (show s.heap.IsTuple p its.toArray from pt) (by simpa using RZ.intsAre_vals rv) room fun g tk c R hcn k => ?_
    cases setR_len R
    exact ⟨.ref s.heap.objs.size, upd H s.heap.objs.size (SetO X.w s.heap.objs.size (fun j => decide (j ∈ ns)) (metI ns).length), I.laid (t' := tk) k (Nat.le_refl _) (setO_new R), rfl, q _ hn⟩
def ssetI1 (ds : List D) : Option Od := (toInts ds).bind fun ns => if ns.length ≤ 4000 ∧ (metI ns).length < 64 then some (.fd (.lst ((isort (metI ns)).map .int))) else none
def ssetI : D → Option Od
  | .lst ds => ssetI1 ds
  | .tup ds => ssetI1 ds
  | _ => none
def mssI (f : M D) : M Od := mb f fun d => mo (ssetI d)
section
variable {X : Cx} {cm : Cm} {a : Expr} {ta : TE} {pos : Pos}
/-- sorted(set(e)) -/
theorem do_ssetI {p1 p2 pos2 : Pos} {f : M D} (hm1 : X.mg "sorted" = none) (hm2 : X.mg "set" = none) (h : DE X cm a ta f) (hc : X.calm = true := by rfl) (hg1 : Gl X "sorted" := by rfl) (hg2 : Gl X "set" := by rfl)
    (he1 : starEach [.Call (.Name "set" p2) [a] [] pos2] X.env = (false, eval (.Call (.Name "set" p2) [a] [] pos2) X.env) :: starEach [] X.env := by rfl) (he2 : starEach [a] X.env = (false, eval a X.env) :: starEach [] X.env := by rfl) :
    DO X cm (.Call (.Name "sorted" p1) [.Call (.Name "set" p2) [a] [] pos2] [] pos) (tCB (rSortedSet X.w) (tCons (tCB (rSetI X.K X.w) (tCons ta tNil)) tNil)) (mssI f) := by
  refine ⟨pe_callB (cr_sortedSet hc) hg1 hm1 (by decide +kernel) (pa_cons (pe_callTy (cr_setI hc) hg2 hm2 (by decide +kernel) (pa_cons h.pe pa_nil he2) (by decide) (by decide) he2 (by rfl)) pa_nil he1) (by decide) (by decide) he1 (by rfl), fun F H σ env O o env' Q s e k => ?_⟩
  obtain ⟨d, env1, e1, e⟩ := mb_some e
  obtain ⟨e3, e4⟩ := mo_some e
  dsimp only at e3 e4
  subst e4
  refine h.sm F H σ env O _ _ _ s e1 fun F1 H1 v O1 g1 s1 r => ?_
  have fin : ∀ (p : Addr) (vs : List V) (ds : List D), v = .ref p → RpA X.K cm F1 vs ds → ssetI1 ds = some o → (∀ ns : List Int, vs = ns.map V.int → SqL X.K H1 p (ns.map V.int) ∨ SqT X.K H1 p (ns.map V.int)) → tCons (fun _ H Q => Q v H) tNil σ H1 fun vs H => rSetI X.K X.w vs H fun x H => rSortedSet X.w [x] H Q := fun p vs ds ev ra e5 hs => by
    subst ev
    obtain ⟨ns, e6, e7⟩ := bind_some e5
    obtain ⟨⟨hl, h64⟩, rfl⟩ := ite_some e7
    have ei := ra.toInts e6
    refine ⟨p, ns, rfl, hs ns ei, hl, fun a na => ?_⟩
    obtain ⟨s2, g2⟩ := s1.alloc (o := SetO X.w a (fun j => decide (j ∈ ns)) (metI ns).length) na
    refine ⟨a, _, _, rfl, upd_same, h64, fun ms q asc mem len nq => ?_⟩
    have em : ms = isort (metI ns) := isort_eq ((List.perm_ext_iff_of_nodup (asc.imp fun h => by omega) (metI_nodup ns)).mpr fun t => by rw [metI_mem, mem t, decide_eq_true_iff]) (asc.imp fun h => by omega)
    subst em
    exact ((k.go g1).go g2).fresh s2 nq (RpA.ints _)
  cases d <;> try (cases e3; done)
  · cases r with
    | lst hp ra => exact fin _ _ _ rfl ra e3 fun ns e => .inl (by rw [← e]; exact .of (s1.fh.at hp))
  · cases r with
    | tup hp ra => exact fin _ _ _ rfl ra e3 fun ns e => .inr (by rw [← e]; exact .of (s1.fh.at hp))
end
end DL

/-! The data layer: a list extended by a tuple. -/
namespace DL
open PySem PySem.Spec PyProof.Rows L2
/-- extend by any tuple -/
theorem ext_tup {l b : Addr} {xs ys : Array Value} {n m : Nat} {dd : Option Addr} {ss : Array (Option Value)} (hl1 : xs.size ≤ sizeLine) (hl2 : xs.size + ys.size ≤ sizeLine) (nl : ¬(!xs.isEmpty && Builtin.List.listTooLong (xs.size + ys.size)) = true) :
    Meets (Builtin.«list.extend» ⟨[.ref l, .ref b], []⟩) (fun _ R s => s.heap.get? l = some { cls := .type "list", data := .seq xs n } ∧
      s.heap.get? b = some { cls := .type "tuple", dict := dd, data := .seq ys m, slots := ss } ∧ R (.ok (.ret Value.none)) { s with heap := s.heap.update l (Obj.mapSeq (· ++ ys)) }) :=
  .of_wp fun prog w A R s h => by
    obtain ⟨hp, g, d, tk, os⟩ := s
    obtain ⟨hl, hb, h⟩ := h
    have q2 := sub_tuple_tuple
    have q3 := sub_list_list
    have q4 := sub_tuple_list
    have q5 := sub_list_tuple
    have hz : (xs ++ ys).size ≤ sizeLine + 1 := by
      rw [Array.size_append]
      omega
    wp_walk using (wpAny_updateSeq hl rfl (hz := hl1) (_hz' := hz)), wpAny_loadPart' hl, wpAny_loadPart' hb
    exact ⟨_, rfl, h⟩
def rExtB (K : PySem.W.Frag) : V → List V → Hp → VK → Prop := fun x vs H Q => ∃ l b xs zs, x = .ref l ∧ vs = [.ref b] ∧ H l = some (.lst xs) ∧ (H b = some (.lst zs) ∨ SqT K H b zs) ∧ xs.length + zs.length ≤ sizeLine ∧ Q .non (upd H l (.lst (xs ++ zs)))
theorem mt_extB {X : Cx} : MtM X "list.extend" (rExtB X.K) := by
  intro pins s σ H x vs v us Q I rx rv h
  obtain ⟨l, b, xs, zs, ex, ev, hH, hB, hz, q⟩ := h
  rcases hB with hB | hB
  · exact mt_extend pins s σ H x vs v us Q I rx rv ⟨l, b, xs, zs, ex, ev, hH, hB, hz, q⟩
  · subst ex
    subst ev
    cases rx
    obtain ⟨u, rfl, ru⟩ := rv.one
    cases ru
    obtain ⟨z, its, n, r, hl, e⟩ := I.lstM hH
    obtain ⟨its2, r2, pt, hz2⟩ := I.tuple hB
    obtain ⟨⟨c2, d2⟩, e2, hc2, n2, hd2⟩ := pt
    dsimp only at hc2 hd2
    subst hc2
    subst hd2
    have hl2 := r2.length
    have hsz : its.toArray.size + its2.toArray.size ≤ sizeLine := by rw [List.size_toArray, List.size_toArray]; omega
    have hlong : ¬ (!its.toArray.isEmpty && Builtin.List.listTooLong (its.toArray.size + its2.toArray.size)) = true := by
      rw [notLongL hsz, Bool.and_false]
      exact Bool.false_ne_true
    refine call_meets F.slot_list_extend ⟨_, e, rfl⟩ F.entry_list_extend (F.args_list_extend_2 _ _)
      (ext_tup (by rw [List.size_toArray]; omega) hsz hlong) ⟨e, e2, ?_⟩
    refine ⟨.non, _, I.lset (its' := its ++ its2) hH e (by simp) (r.append r2) ?_, rfl, q⟩
    rw [List.length_append]
    omega
def extT (ds : List D) : List D → Option (D × List D)
  | [.lst es] => if ds.length + es.length ≤ 16777216 then some (.non, ds ++ es) else none
  | [.tup es] => if ds.length + es.length ≤ 16777216 then some (.non, ds ++ es) else none
  | _ => none
section
variable {X : Cx} {cm : Cm}
theorem sr_extT {K : PySem.W.Frag} : SmM K cm (rExtB K) extT := fun F H p vs ds xs es d ds' Q h ra rx fh e k => by
  unfold extT at e
  split at e
  · obtain ⟨c, e⟩ := ite_some e
    cases e
    obtain ⟨v, rfl, rv⟩ := rx.one
    cases rv with
    | lst h2 r2 => exact ⟨p, _, vs, _, rfl, rfl, h, .inl (fh.at h2), size_le (by rw [ra.len, r2.len]; exact c), k _ _ .non (ra.app r2)⟩
  · obtain ⟨c, e⟩ := ite_some e
    cases e
    obtain ⟨v, rfl, rv⟩ := rx.one
    cases rv with
    | tup h2 r2 => exact ⟨p, _, vs, _, rfl, rfl, h, .inr (.of (fh.at h2)), size_le (by rw [ra.len, r2.len]; exact c), k _ _ .non (ra.app r2)⟩
  · cases e
variable {x : Str} {pn ap cp : Pos} {t : TA} {f : M (List D)} {i : Nat} {e : Expr}
theorem de_extT (ha : DA X cm [e] t f) (hN : X.N[i]? = some x := by rfl) (hv : Vis X.env.scope x := by first | exact Or.inl rfl | exact Or.inr (Or.inl rfl) | exact Or.inr (Or.inr rfl)) (hd : (x == ("__debug__" : Str)) = false := by decide) (hcd : (x == ("__classdict__" : Str)) = false := by decide)
    (hbase : attributeBase (.Name x pn) "extend" X.env (eval (.Name x pn) X.env) = eval (.Name x pn) X.env := by rfl)
    (hfew : ((backTo cp (starEach [e] X.env)).all (fun x => !x.1) && (backToKw cp (keywordEach [] X.env)).all (fun x => x.1.isSome) && decide ([e].length + ([] : List Keyword).length + (if ([] : List Keyword).isEmpty then 0 else 1) < 30)) = true := by rfl)
    (hline : (ap.endLine == cp.line) = true := by rfl) (hs : starEach [e] X.env = (false, eval e X.env) :: starEach [] X.env := by rfl) (hpl : (backTo cp (starEach [] X.env)).any (·.1) = false := by rfl) :
    DE X cm (.Call (.Attribute (.Name x pn) "extend" ap) [e] [] cp) (tBM X.K "list" (rExtB X.K) (tVar i) t) (mme i extT f) :=
  ⟨pe_bm PySem.F.plainAttrs_list PySem.F.slot_list_extend PySem.F.type_list_extend mt_extB (pe_var hN hv hd hcd) ha.pe hbase hfew hline hs hpl, sm_me sr_extT ha.sm⟩
end
end DL

/-! The data layer: len(set(e)) and sorted(e), e a list of tuples of ints. -/
namespace DL
open PySem PySem.Spec PyProof.Rows L2
def rLenT (K : PySem.W.Frag) (P : Program) (w : World) : List V → Hp → VK → Prop := fun vs H Q => ∃ (a : Addr) (L : List (Addr × List Int)), vs = [.ref a] ∧ H a = some (SetTO P w a L) ∧ (∀ p ∈ L, SqT K H p.1 (p.2.map V.int)) ∧ ((L.map (·.2)).Nodup → Q (.int (L.length : Nat)) H)
theorem cr_lenT {X : Cx} : CallR X (.builtin "len") (rLenT X.K X.prog X.w) := by
  intro pins s σ H vs us Q I r h
  obtain ⟨a, L, rfl, ha, hk, q⟩ := h
  have R0 : SetT0 X.prog X.w s.heap a L := (I.hok a _ ha).1
  obtain ⟨es, ep, t, R⟩ := R0.full fun p hp => I.isT (hk p hp)
  rw [Vals.ref1 r]
  obtain ⟨o, ho, hex, hd⟩ := R.ob
  have hs := R.size
  have hf := R.few
  exact call_len_set ho hex hd R.fits (by rw [hs]; omega) ⟨.int (L.length : Nat), H, I.tok _, ⟨_, by rw [hs]⟩, q R.nd⟩
def lenSetT : D → Option D
  | .lst ds => (toTups ds).bind fun ts => if okTs ts = true then some (.int ((dd ts).length : Nat)) else none
  | _ => none
section
variable {X : Cx} {cm : Cm} {a : Expr} {ta : TE} {pos : Pos}
theorem de_lensetT {p p2 q : Pos} {k : Nat} {fa : M D} (hm : X.mg "len" = none) (hm2 : X.mg "set" = none) (hr : Room k X.A) (ha : DE X cm a ta fa) (hg : Gl X "len" := by rfl) (hg2 : Gl X "set" := by rfl) (hc : X.calm = true := by rfl)
    (he1 : starEach [.Call (.Name "set" p2) [a] [] q] X.env = (false, eval (.Call (.Name "set" p2) [a] [] q) X.env) :: starEach [] X.env := by rfl) (he2 : starEach [a] X.env = (false, eval a X.env) :: starEach [] X.env := by rfl) :
    DE X cm (.Call (.Name "len" p) [.Call (.Name "set" p2) [a] [] q] [] pos) (tCB (rLenT X.K X.prog X.w) (tCons (tCB (rSetOfT X.K X.prog X.w) (tCons ta tNil)) tNil)) (m1 lenSetT fa) := by
  refine ⟨pe_callB cr_lenT hg hm (by decide +kernel) (pa_cons (pe_callTy (cr_setOfT hc hr.units) hg2 hm2 (by decide +kernel) (pa_cons ha.pe pa_nil he2) (by decide) (by decide) he2 (by rfl)) pa_nil he1) (by decide) (by decide) he1 (by rfl), fun F H σ env O d env' Q s e kk => ?_⟩
  obtain ⟨x, env1, e1, e⟩ := mb_some e
  obtain ⟨e3, e4⟩ := mo_some e
  dsimp only at e3 e4
  subst e4
  refine ha.sm F H σ env O x _ _ s e1 fun F1 H1 v O1 g1 s1 r => ?_
  cases x <;> try (cases e3; done)
  obtain ⟨ts, e5, e6⟩ := bind_some e3
  obtain ⟨c, rfl⟩ := ite_some e6
  obtain ⟨hlen, dd', hd1, hts⟩ := okTs_of c
  cases r with
  | lst hp ra =>
    rename_i pa vs
    obtain ⟨ks, h1, h2, h3⟩ := ra.tups e5
    subst h1
    subst h2
    refine ⟨pa, ks, rfl, .of (s1.fh.at hp), fun p hp => tupT s1.fh (h3 p hp), by rw [List.length_map] at hlen; exact hlen, fun a L na hL hL2 => ?_⟩
    obtain ⟨s2, g2⟩ := s1.alloc (o := SetTO X.prog X.w a L) na
    have h3' : ∀ p ∈ L, (upd F1 a (SetTO X.prog X.w a L)) p.1 = some (.tup (p.2.map V.int)) := fun p hp => g2.ff _ _ (h3 p (hL p hp))
    refine ⟨a, L, rfl, upd_same, fun p hp => tupT s2.fh (h3' p hp), fun hnd => ?_⟩
    have el : L.length = (dd (ks.map (·.2))).length := by
      have hp2 : (L.map (·.2)).Perm (dd (ks.map (·.2))) := by
        refine (List.perm_ext_iff_of_nodup hnd (dd_nodup _)).mpr fun t => ?_
        rw [dd_mem]
        constructor
        · intro ht
          obtain ⟨p, hp, rfl⟩ := List.mem_map.mp ht
          exact List.mem_map_of_mem (hL p hp)
        · intro ht
          obtain ⟨p, hp, rfl⟩ := List.mem_map.mp ht
          exact hL2 p hp
      rw [← hp2.length_eq, List.length_map]
    rw [el]
    exact (kk.go g1) _ _ _ _ g2 s2 (.int _)
end
theorem perm_map {α β : Type} [DecidableEq α] {f : α → β} : ∀ {ys : List β} {xs : List α}, ys.Perm (xs.map f) → ∃ zs : List α, zs.Perm xs ∧ ys = zs.map f
  | [], xs, h => ⟨[], by rw [List.map_eq_nil_iff.mp h.symm.eq_nil], rfl⟩
  | y :: ys, xs, h => by
    obtain ⟨x, hx, rfl⟩ := List.mem_map.mp (h.mem_iff.mp List.mem_cons_self)
    have hp := List.perm_cons_erase hx
    obtain ⟨zs, h1, h2⟩ := perm_map (f := f) (ys := ys) (xs := xs.erase x) ((h.trans (hp.map f)).cons_inv)
    exact ⟨x :: zs, (h1.cons x).trans hp.symm, by rw [h2]; rfl⟩
def sortTs : List D → Option Od
  | [.lst ds] => (toTups ds).bind fun ts => if okTs ts = true then some (.fd (.lst ((tsort ts).map tupI))) else none
  | _ => none
def rSortTs (K : PySem.W.Frag) : List V → Hp → VK → Prop := fun vs H Q => ∃ (d : Nat), 1 ≤ d ∧ rSortU K d 64 vs H Q
theorem cr_sortTs {X : Cx} : CallR X (.builtin "sorted") (rSortTs X.K) := by
  intro pins s σ H vs us Q I r h
  obtain ⟨d, hd, h⟩ := h
  exact cr_sortT hd pins s σ H vs us Q I r h
theorem sr_sortTs {K : PySem.W.Frag} {cm : Cm} : SmR K cm (rSortTs K) sortTs := fun F H σ env O vs ds o Q s ra e k => by
  unfold sortTs at e
  split at e
  · obtain ⟨ts, e1, e⟩ := bind_some e
    obtain ⟨c, rfl⟩ := ite_some e
    obtain ⟨hlen, dd', hd1, hts⟩ := okTs_of c
    obtain ⟨v, rfl, r⟩ := ra.one
    cases r with
    | lst hp rs =>
      obtain ⟨ks, h1, h2, h3⟩ := rs.tups e1
      subst h1
      subst h2
      refine ⟨dd', hd1, _, _, rfl, .of (s.fh.at hp), by rw [List.length_map] at hlen ⊢; exact hlen, fun x hx => ?_, fun ys p hperm hpw np => ?_⟩
      · obtain ⟨q, hq, rfl⟩ := List.mem_map.mp hx
        exact ⟨q.2, ⟨q.1, rfl, tupT s.fh (h3 q hq)⟩, hts q.2 (List.mem_map_of_mem hq)⟩
      · obtain ⟨L, hL, rfl⟩ := perm_map hperm
        have h3' : ∀ q ∈ L, F q.1 = some (.tup (q.2.map V.int)) := fun q hq => h3 q (hL.mem_iff.mp hq)
        have eL : L.map (·.2) = tsort (ks.map (·.2)) := by
          refine tsort_eq (d := dd') hts (hL.map _) ?_
          rw [List.pairwise_map]
          refine List.Pairwise.imp_of_mem (fun {q r} hq hr h => h q.2 r.2 ⟨q.1, rfl, tupT s.fh (h3' q hq)⟩ ⟨r.1, rfl, tupT s.fh (h3' r hr)⟩) (List.pairwise_map.mp hpw)
        have rl := RpA.of_tups (cm := cm) (K := K) (F := F) L h3'
        have em : L.map (fun p => tupI p.2) = (tsort (ks.map (·.2))).map tupI := by rw [← eL, List.map_map]; rfl
        rw [em] at rl
        exact k.fresh s np rl
  · cases e
end DL
namespace DL
open PySem PySem.Spec PyProof.Rows L2
/-! len(set(e)), e a list or a tuple of ints -/
def rLenI (w : World) : List V → Hp → VK → Prop := fun vs H Q => ∃ (a : Addr) (S : Int → Bool) (n : Nat), vs = [.ref a] ∧ H a = some (SetO w a S n) ∧ n < 64 ∧ Q (.int (n : Nat)) H
theorem cr_lenI {X : Cx} : CallR X (.builtin "len") (rLenI X.w) := by
  intro pins s σ H vs us Q I r h
  obtain ⟨a, S, n, rfl, ha, hn, q⟩ := h
  have R := setO_get I ha
  rw [Vals.ref1 r]
  obtain ⟨o, es, ep, t, ho, hex, hd, h1, h2, h3, h4, h5, h6, h7, h8⟩ := R
  exact call_len_set ho hex hd h5 (by rw [h6]; omega) ⟨.int (n : Nat), H, I.tok _, ⟨_, by rw [h6]⟩, q⟩
def lenSetI1 (ds : List D) : Option D := (toInts ds).bind fun ns => if ns.length ≤ 4000 ∧ (metI ns).length < 64 then some (.int ((metI ns).length : Nat)) else none
def lenSetI : D → Option D
  | .lst ds => lenSetI1 ds
  | .tup ds => lenSetI1 ds
  | _ => none
section
variable {X : Cx} {cm : Cm} {a : Expr} {ta : TE} {pos : Pos}
theorem de_lensetI {p p2 q : Pos} {fa : M D} (hm : X.mg "len" = none) (hm2 : X.mg "set" = none) (ha : DE X cm a ta fa) (hg : Gl X "len" := by rfl) (hg2 : Gl X "set" := by rfl) (hc : X.calm = true := by rfl)
    (he1 : starEach [.Call (.Name "set" p2) [a] [] q] X.env = (false, eval (.Call (.Name "set" p2) [a] [] q) X.env) :: starEach [] X.env := by rfl) (he2 : starEach [a] X.env = (false, eval a X.env) :: starEach [] X.env := by rfl) :
    DE X cm (.Call (.Name "len" p) [.Call (.Name "set" p2) [a] [] q] [] pos) (tCB (rLenI X.w) (tCons (tCB (rSetI X.K X.w) (tCons ta tNil)) tNil)) (m1 lenSetI fa) := by
  refine ⟨pe_callB cr_lenI hg hm (by decide +kernel) (pa_cons (pe_callTy (cr_setI hc) hg2 hm2 (by decide +kernel) (pa_cons ha.pe pa_nil he2) (by decide) (by decide) he2 (by rfl)) pa_nil he1) (by decide) (by decide) he1 (by rfl), fun F H σ env O d env' Q s e kk => ?_⟩
  obtain ⟨x, env1, e1, e⟩ := mb_some e
  obtain ⟨e3, e4⟩ := mo_some e
  dsimp only at e3 e4
  subst e4
  refine ha.sm F H σ env O x _ _ s e1 fun F1 H1 v O1 g1 s1 r => ?_
  have fin : ∀ (p : Addr) (vs : List V) (ds : List D), v = .ref p → RpA X.K cm F1 vs ds → lenSetI1 ds = some d → (∀ ns : List Int, vs = ns.map V.int → SqL X.K H1 p (ns.map V.int) ∨ SqT X.K H1 p (ns.map V.int)) → tCons (fun _ H Q => Q v H) tNil σ H1 fun vs H => rSetI X.K X.w vs H fun x H => rLenI X.w [x] H Q := fun p vs ds ev ra e5 hs => by
    subst ev
    obtain ⟨ns, e6, e7⟩ := bind_some e5
    obtain ⟨⟨hl, h64⟩, rfl⟩ := ite_some e7
    have ei := ra.toInts e6
    refine ⟨p, ns, rfl, hs ns ei, hl, fun a na => ?_⟩
    obtain ⟨s2, g2⟩ := s1.alloc (o := SetO X.w a (fun j => decide (j ∈ ns)) (metI ns).length) na
    exact ⟨a, _, _, rfl, upd_same, h64, (kk.go g1) _ _ _ _ g2 s2 (.int _)⟩
  cases x <;> try (cases e3; done)
  · cases r with
    | lst hp ra => exact fin _ _ _ rfl ra e3 fun ns e => .inl (by rw [← e]; exact .of (s1.fh.at hp))
  · cases r with
    | tup hp ra => exact fin _ _ _ rfl ra e3 fun ns e => .inr (by rw [← e]; exact .of (s1.fh.at hp))
end
end DL

/-! The data layer: t[::-1], t a tuple or a list. -/
namespace HT
open PySem PySem.Spec PyProof.Rows
section
variable {prog : Program} {w : World} {A : Around} {E : Value → Shared → Prop} {s : Shared}
theorem adjust_back (n : Nat) : Builtin.Slice.sliceAdjust none none (-1) (n : Int) = ((n : Int) - 1, -1) := by
  unfold Builtin.Slice.sliceAdjust
  rfl
theorem places_back (n : Nat) : Builtin.Slice.slicePlaces ((n : Int) - 1) (-1) (-1) = n := by
  unfold Builtin.Slice.slicePlaces
  have h1 : ¬ ((-1 : Int) > 0) := by decide
  simp only [h1, if_false]
  by_cases h : (n : Int) - 1 > -1
  · rw [if_pos h]
    have : ((n : Int) - 1 - -1 - 1) / (- -1) = (n : Int) - 1 := by
      rw [show (- -1 : Int) = 1 by decide, Int.ediv_one]
      omega
    rw [this]
    omega
  · rw [if_neg h]
    omega
theorem range_get {α : Type} : ∀ l : List α, ((List.range l.length).filterMap fun m => l[m]?) = l
  | [] => rfl
  | x :: l => by
    rw [List.length_cons, List.range_succ_eq_map, List.filterMap_cons, List.filterMap_map]
    show x :: ((List.range l.length).filterMap fun m => l[m]?) = _
    rw [range_get l]
theorem filterMap_same {α β : Type} {f g : α → Option β} : ∀ {l : List α}, (∀ x ∈ l, f x = g x) → l.filterMap f = l.filterMap g
  | [], _ => rfl
  | x :: l, h => by
    rw [List.filterMap_cons, List.filterMap_cons, h x List.mem_cons_self, filterMap_same fun y hy => h y (List.mem_cons_of_mem _ hy)]
theorem pick_back (xs : Array Value) : ((List.range xs.size).filterMap fun (m : Nat) => xs[((xs.size : Int) - 1 + (m : Int) * (-1)).toNat]?).toArray = xs.toList.reverse.toArray := by
  have h := range_get xs.toList.reverse
  rw [List.length_reverse, Array.length_toList] at h
  rw [← h]
  congr 1
  refine filterMap_same fun m hm => ?_
  have hm := List.mem_range.mp hm
  rw [List.getElem?_reverse (by rw [Array.length_toList]; exact hm), Array.length_toList, show ((xs.size : Int) - 1 + (m : Int) * (-1)).toNat = xs.size - 1 - m by omega]
  exact Array.getElem?_toList.symm
theorem getItem_tuple_back {t sl : Addr} {items : Array Value} {vs : Value} {Q : Value → Shared → Prop} (ht : IsTup s.heap t items) (hs : s.heap.IsSliceOf sl .none .none vs) (ps : IsPart vs (some (-1)))
    (h : Q (.ref s.heap.objs.size) { s with heap := s.heap.push { cls := .type "tuple", data := .seq items.toList.reverse.toArray } })
    (hsz : items.size ≤ sizeLine) : wpAny (model prog w) A (getItem (.ref t) (.ref sl)) Q E s := by
  have htake : sizeOk (.seq items.toList.reverse.toArray) := by
    show items.toList.reverse.toArray.size ≤ sizeLine
    rw [List.size_toArray, List.length_reverse, Array.length_toList]
    exact hsz
  obtain ⟨os, hos, hcs, hds⟩ := id hs
  have hTs : s.TypeIs (.ref sl) "slice" := ⟨os, hos, hcs⟩
  unfold getItem
  try with_reducible refine wpAny_holding ?_
  first | refine wpAny_bind (wpAny_pure ?_) | skip
  refine wpAny_bind (wpAny_sequenceKey ht.typeIs (by decide) ?_)
  refine wpAny_bind (wpAny_callSpecial?_slot (name := Str.ofString "__getitem__") ht.typeIs PyProof.Rows.slot_tuple_getitem
    (wpAny_call_entry PyProof.Rows.slot_tuple_getitem ht.typeIs entry_tuple_getitem ?_ (args_tuple_getitem _ _)))
  show wpAny _ _ (Builtin.Tuple.tupleItemsOf (.ref t) >>= _) _ _ s
  refine wpAny_bind (tupleItemsOf_ ht ?_)
  refine wpAny_bind (wpAny_typeOf hTs ?_)
  rw [if_pos (by decide)]
  have happ : ∀ {A : Around} {Q : Int × Int × Nat → Shared → Prop}, Q ((items.size : Int) - 1, -1, items.size) s → wpAny (model prog w) A (Builtin.Slice.sliceApplied (.ref sl) (pure (items.size : Int))) Q E s := fun {A} {Q} h => by
    unfold Builtin.Slice.sliceApplied Builtin.Slice.sliceFields
    refine wpAny_bind (wpAny_bind (wpAny_field hos hds (x := .none) rfl (wpAny_bind (wpAny_field hos hds (x := .none) rfl (wpAny_bind (wpAny_field hos hds (x := vs) rfl (wpAny_pure ?_)))))))
    refine wpAny_bind (slicePart_ ps ?_)
    show wpAny _ _ (if ((-1 : Int) == 0) = true then _ else _) _ _ s
    rw [if_neg (by decide)]
    refine wpAny_bind (slicePart_none (wpAny_bind (slicePart_none (wpAny_bind (wpAny_pure ?_)))))
    show wpAny _ _ (match Builtin.Slice.sliceAdjust none none (-1) (items.size : Int) with | (lo, hi) => pure (lo, (-1 : Int), Builtin.Slice.slicePlaces lo hi (-1))) _ _ s
    rw [adjust_back]
    show wpAny _ _ (pure (((items.size : Int) - 1), (-1 : Int), Builtin.Slice.slicePlaces ((items.size : Int) - 1) (-1) (-1))) _ _ s
    rw [places_back]
    exact wpAny_pure h
  refine wpAny_bind (happ ?_)
  have hno : ¬ ((((items.size : Int) - 1) == 0 && (-1 : Int) == 1 && items.size == items.size) = true) := by
    intro q
    rw [Bool.and_eq_true, Bool.and_eq_true] at q
    exact absurd q.1.2 (by decide)
  show wpAny _ _ (if (((items.size : Int) - 1) == 0 && (-1 : Int) == 1 && items.size == items.size) = true then _ else _) _ _ s
  rw [if_neg hno, pick_back]
  first
    | exact wpAny_bind (m := Builtin.Tuple.tupleExact _) (wpAny_newObj_type (wpAny_pure ⟨_, rfl, wpAny_pure h⟩) htake)
    | exact wpAny_bind (m := Builtin.Tuple.tupleExact _) (wpAny_newObj_type (wpAny_bind (wpAny_pure (wpAny_pure ⟨_, rfl, wpAny_pure h⟩))) htake)
    | exact wpAny_bind (wpAny_bind (m := Builtin.Tuple.tupleExact _) (wpAny_newObj_type (wpAny_pure (wpAny_pure ⟨_, rfl, wpAny_pure h⟩)) htake))
    | exact wpAny_bind (wpAny_bind (m := Builtin.Tuple.tupleExact _) (wpAny_newObj_type (wpAny_pure ⟨_, rfl, wpAny_pure h⟩) htake))
end
end HT

namespace DL
open PySem PySem.Spec PyProof.Rows L2
def tRevA (K : PySem.W.Frag) (te : TE) : TE := fun σ H Q => te σ H fun x H1 => ∃ a xs, x = .ref a ∧ ((SqL K H1 a xs ∧ ∀ p, H1 p = none → Q (.ref p) (upd H1 p (.lst xs.reverse))) ∨ (SqT K H1 a xs ∧ ∀ p, H1 p = none → Q (.ref p) (upd H1 p (.tup xs.reverse))))
theorem pe_revA {X : Cx} {e : Expr} {te : TE} {k : Nat} {p1 p2 p3 pos : Pos} (he : PE X e te) : PE X (.Subscript e (.Slice none none (some (.UnaryOp .USub (.Constant (.int 1) k p1) p2)) p3) pos) (tRevA X.K te) := by
  refine ⟨fun pins s σ H Q I h => ?_⟩
  refine Subscript_ (thn (he.run pins s σ H _ I h) fun v s1 ⟨x, H1, I1, r1, q1⟩ => ?_)
  obtain ⟨a, xs, ex, q⟩ := q1
  subst ex
  cases r1
  have hst : PO X (some (.UnaryOp .USub (.Constant (.int 1) k p1) p2)) (tPart (tUn (rU fun i => .int (-i)) (tC (.int 1)))) := po_some (pe_un un_neg pe_int)
  refine wpAny_Slice (thn (po_none.run pins s1 σ H1 (fun o H2 => o = none ∧ H2 = H1) I1 ⟨rfl, rfl⟩) fun vl s2 ⟨l, H2, I2, pl, el, e2⟩ => ?_)
  subst el e2
  refine thn (po_none.run pins s2 σ H2 (fun o H3 => o = none ∧ H3 = H2) I2 ⟨rfl, rfl⟩) fun vu s3 ⟨u, H3, I3, pu, eu, e3⟩ => ?_
  subst eu e3
  refine thn (hst.run pins s3 σ H3 (fun o H4 => o = some (-1) ∧ H4 = H3) I3 ⟨1, rfl, -1, rfl, rfl, rfl⟩) fun vs s4 ⟨o, H4, I4, ps, eo, e4⟩ => ?_
  subst eo e4
  have I5 : Inv X pins σ H4 { s4 with heap := s4.heap.push { cls := .type "slice", data := .fields #[vl, vu, vs] } } := I4.kept (t' := s4.toks) fun b ob q => Heap.get?_push_of_some _ q
  show wpAny (model X.prog X.w) X.A (subscriptTail e (.Slice none none (some (.UnaryOp .USub (.Constant (.int 1) k p1) p2)) p3) (.ref a) (.ref s4.heap.objs.size)) (EP X pins σ Q) X.xe { s4 with heap := s4.heap.push { cls := .type "slice", data := .fields #[vl, vu, vs] } }
  rcases q with ⟨hx, q⟩ | ⟨hx, q⟩
  · obtain ⟨its, r, ht, hz⟩ := I5.list hx
    have hlen := r.length
    refine tail_any (ops := [.ref a, .ref s4.heap.objs.size]) ht.isList.typeIs (PySem.slot_list_getitem.lookup) ?_ (by with_unfolding_all rfl)
    refine wpAny_getItem_list_slice ht.isList (Heap.IsSliceOf.new _ vl vu vs) pl pu ps (by decide) ?_ (by rw [List.size_toArray]; omega)
    rw [PySem.W.krv_pick]
    refine ⟨.ref _, _, I5.laid (t' := s4.toks) (o := .lst xs.reverse) (fun b ob q => Heap.get?_push_of_some _ q) (Nat.le_refl _) ?_, rfl, q _ (I5.hok.fresh (Nat.le_refl _))⟩
    exact ⟨by rw [List.length_reverse]; exact hz, _, 0, r.reverse, Heap.get?_push_size _ rfl⟩
  · obtain ⟨its, r, ht, hz⟩ := I5.tuple hx
    have hlen := r.length
    cases pl
    cases pu
    refine tail_any (ops := [.ref a, .ref s4.heap.objs.size]) ht.typeIs (PyProof.Rows.slot_tuple_getitem.lookup) ?_ (by with_unfolding_all rfl)
    refine HT.getItem_tuple_back ht (Heap.IsSliceOf.new _ .none .none vs) ps ?_ (by rw [List.size_toArray]; omega)
    refine ⟨.ref _, _, I5.laid (t' := s4.toks) (o := .tup xs.reverse) (fun b ob q => Heap.get?_push_of_some _ q) (Nat.le_refl _) ?_, rfl, q _ (I5.hok.fresh (Nat.le_refl _))⟩
    exact ⟨by rw [List.length_reverse]; exact hz, _, r.reverse, IsTup.new _ _⟩
def revA : D → Option Od
  | .lst xs => some (.fd (.lst xs.reverse))
  | .tup xs => some (.fd (.val (.tup xs.reverse)))
  | _ => none
def mrevA (fa : M D) : M Od := mb fa fun x => mo (revA x)
section
variable {X : Cx} {cm : Cm} {a : Expr} {ta : TE} {pos : Pos}
theorem do_revA {fa : M D} {k p1 p2 p3} (h : DE X cm a ta fa) : DO X cm (.Subscript a (.Slice none none (some (.UnaryOp .USub (.Constant (.int 1) k p1) p2)) p3) pos) (tRevA X.K ta) (mrevA fa) := ⟨pe_revA h.pe, fun F H σ env O d env' Q s e kk => by
  obtain ⟨x, env1, e1, e⟩ := mb_some e
  obtain ⟨e3, e4⟩ := mo_some e
  dsimp only at e3 e4
  subst e4
  refine h.sm F H σ env O x _ _ s e1 fun F1 H1 v O1 g1 s1 r => ?_
  cases x <;> cases e3
  · cases r with
    | lst hp ra => exact ⟨_, _, rfl, .inl ⟨.of (s1.fh.at hp), fun p hp2 => (kk.go g1).fresh s1 hp2 ra.rev⟩⟩
  · cases r with
    | tup hp ra =>
      refine ⟨_, _, rfl, .inr ⟨tupT s1.fh hp, fun p hp2 => ?_⟩⟩
      rename_i vs
      obtain ⟨s2, g2⟩ := s1.alloc (o := .tup vs.reverse) hp2
      exact (kk.go g1) _ _ _ _ (fun _ => False) (g2.sub fun q z => z.resolve_left id) s2 (.fd (.val (.tup upd_same (ra.rev.mono g2.ff)))) fun q e => e.elim⟩
end
end DL

/-! The data layer: a list of lists of one's own: made by a comprehension, rows[i].append(e). -/
namespace DL
open PySem PySem.Spec PyProof.Rows L2
section
variable {K : PySem.W.Frag} {cm : Cm} {F H F1 H1 : Hp} {σ : L2.St} {env : Env} {O O1 : Nat → Rg}
/-- slot i let go: what it owns stands apart -/
theorem Sts.part (s : Sts K cm F H σ env O) {i : Nat} {o : Od} (q : env[i]? = some (some o)) :
    ∃ v O', σ[i]? = some (some v) ∧ Ow K cm F H v o (O i) ∧ Sts K cm F H σ (env.set i none) O' ∧ (∀ p, Un O' p → Un O p) ∧ (∀ p, O i p → ¬ Un O' p) ∧ ∀ p, Un O p → O i p ∨ Un O' p := by
  obtain ⟨v, ev, ow⟩ := s.at_ i o q
  refine ⟨v, fun j p => j ≠ i ∧ O j p, ev, ow, ⟨s.fh, by rw [List.length_set]; exact s.len, fun j x z => ?_, fun j p z => s.ow j p z.2, fun j l p z w => s.dj j l p z.2 w.2, s.mm⟩, fun p ⟨j, _, z⟩ => ⟨j, z⟩, fun p z ⟨j, hj, w⟩ => hj (s.dj _ _ _ w z), fun p ⟨j, z⟩ => ?_⟩
  · have hj : j ≠ i := fun h => by
      subst h
      have hl : j < env.length := (List.getElem?_eq_some_iff.mp q).1
      rw [List.getElem?_set_self hl] at z; cases z
    rw [List.getElem?_set_ne (Ne.symm hj)] at z
    obtain ⟨u, e2, ow2⟩ := s.at_ j x z
    exact ⟨u, e2, ow2.mono (Same.refl _) (fun _ _ q _ => q) fun p z => ⟨hj, z⟩⟩
  · by_cases hj : j = i
    · subst hj; exact .inl z
    · exact .inr ⟨j, hj, z⟩
theorem Apart.goR {D : Addr} {u : HO} {R : Rg} (a : Apart F H O D u) (g : Go (Un O) F H (fun p => R p ∨ Un O1 p) F1 H1) : Apart F1 H1 O1 D u ∧ ¬ R D := by
  refine ⟨⟨g.hh _ ⟨u, a.n⟩ a.h a.f a.o, ?_, fun z => ?_, a.n⟩, fun z => ?_⟩
  · cases q : F1 D with
    | none => rfl
    | some w =>
      rcases g.fr D (by rw [q]; exact fun z => nomatch z) with z | z | z | ⟨w, z, nw⟩
      · exact absurd a.f z
      · rw [a.h] at z; cases z
      · exact absurd z a.o
      · rw [a.h] at z; exact (nw (Option.some.inj z ▸ a.n)).elim
  · rcases g.ss D (.inr z) with z | z
    · exact a.o z
    · rw [a.h] at z; cases z
  · rcases g.ss D (.inl z) with z | z
    · exact a.o z
    · rw [a.h] at z; cases z
theorem Go.keep {S S1 T : Rg} (g : Go S F H S1 F1 H1) (h : ∀ p, S p → T p) : Go T F H (fun p => T p ∨ S1 p) F1 H1 :=
  ⟨g.ff, fun p u e f n => g.hh p u e f fun z => n (h p z), fun p z => (g.fr p z).imp id (.imp id (.imp (h p) id)), fun p z => z.elim (fun z => .inl z) fun z => (g.ss p z).imp (h p) id, g.al⟩
theorem Apart.ne {D E : Addr} {u w : HO} (a : Apart F H O D u) (h : D ≠ E) : Apart F (upd H E w) O D u := ⟨by rw [upd_ne h]; exact a.h, a.f, a.o, a.n⟩
end
/-- lists that stand apart, in no slot -/
inductive LA (K : PySem.W.Frag) (cm : Cm) (F H : Hp) (O : Nat → Rg) : List Addr → List (List D) → Prop
  | nil : LA K cm F H O [] []
  | cons {q : Addr} {vs : List V} {ds : List D} {ps : List Addr} {xss : List (List D)} : Apart F H O q (.lst vs) → RpA K cm F vs ds → LA K cm F H O ps xss → LA K cm F H O (q :: ps) (ds :: xss)
section
variable {K : PySem.W.Frag} {cm : Cm} {F H F1 H1 : Hp} {σ : L2.St} {env : Env} {O O1 : Nat → Rg} {ps : List Addr} {xss : List (List D)}
theorem LA.go (h : LA K cm F H O ps xss) (g : Go (Un O) F H (Un O1) F1 H1) : LA K cm F1 H1 O1 ps xss := by
  induction h with
  | nil => exact .nil
  | cons a r t ih => exact .cons (a.go g) (r.mono g.ff) ih
theorem LA.goR {R : Rg} (h : LA K cm F H O ps xss) (g : Go (Un O) F H (fun p => R p ∨ Un O1 p) F1 H1) : LA K cm F1 H1 O1 ps xss ∧ ∀ q ∈ ps, ¬ R q := by
  induction h with
  | nil => exact ⟨.nil, fun q h => absurd h (by simp)⟩
  | cons a r t ih =>
    obtain ⟨h1, h2⟩ := a.goR g
    refine ⟨.cons h1 (r.mono g.ff) ih.1, fun q hq => ?_⟩
    rcases List.mem_cons.mp hq with rfl | hq
    · exact h2
    · exact ih.2 q hq
theorem LA.put {E : Addr} {w : HO} (h : LA K cm F H O ps xss) (n : E ∉ ps) : LA K cm F (upd H E w) O ps xss := by
  induction h with
  | nil => exact .nil
  | cons a r t ih => exact .cons (a.ne fun e => n (by rw [← e]; exact List.mem_cons_self)) r (ih fun z => n (List.mem_cons_of_mem _ z))
theorem LA.app {q : Addr} {vs : List V} {ds : List D} (h : LA K cm F H O ps xss) (a : Apart F H O q (.lst vs)) (r : RpA K cm F vs ds) : LA K cm F H O (ps ++ [q]) (xss ++ [ds]) := by
  induction h with
  | nil => exact .cons a r .nil
  | cons b s t ih => exact .cons b s ih
theorem LA.len (h : LA K cm F H O ps xss) : ps.length = xss.length := by
  induction h with
  | nil => rfl
  | cons a r t ih => rw [List.length_cons, List.length_cons, ih]
theorem LA.ap (h : LA K cm F H O ps xss) {q : Addr} (hq : q ∈ ps) : ∃ u, Apart F H O q u := by
  induction h with
  | nil => exact absurd hq (by simp)
  | cons a r t ih =>
    rcases List.mem_cons.mp hq with rfl | hq
    · exact ⟨_, a⟩
    · exact ih hq
theorem LA.lls (h : LA K cm F H O ps xss) {S : Rg} (hS : ∀ q ∈ ps, S q) : LLs K cm F H ps xss S := by
  induction h with
  | nil => exact .nil
  | cons a r t ih => exact .cons a.h r (hS _ List.mem_cons_self) (ih fun q hq => hS q (List.mem_cons_of_mem _ hq))
theorem LLs.la {S : Rg} (h : LLs K cm F H ps xss S) (h1 : ∀ q, S q → F q = none) (h2 : ∀ q, S q → ¬ Un O q) : LA K cm F H O ps xss := by
  induction h with
  | nil => exact .nil
  | cons h r z t ih => exact .cons ⟨h, h1 _ z, h2 _ z, nt_l⟩ r (ih h1 h2)
theorem LLs.reg {S : Rg} (h : LLs K cm F H ps xss S) : ∀ q ∈ ps, S q := by
  induction h with
  | nil => exact fun q h => absurd h (by simp)
  | cons h r z t ih =>
    intro q hq
    rcases List.mem_cons.mp hq with rfl | hq
    · exact z
    · exact ih q hq
theorem LA.get (h : LA K cm F H O ps xss) : ∀ {k : Nat} {ds : List D}, xss[k]? = some ds → ∃ q vs, ps[k]? = some q ∧ Apart F H O q (.lst vs) ∧ RpA K cm F vs ds := by
  induction h with
  | nil => intro k ds e; simp at e
  | cons a r t ih =>
    intro k ds e
    cases k with
    | zero => cases e; exact ⟨_, _, rfl, a, r⟩
    | succ k => exact ih e
theorem LA.set {q : Addr} {vs : List V} {ds : List D} (h : LA K cm F H O ps xss) : ∀ {k : Nat}, ps.Nodup → ps[k]? = some q → RpA K cm F vs ds → LA K cm F (upd H q (.lst vs)) O ps (xss.set k ds) := by
  induction h with
  | nil => intro k _ e; simp at e
  | cons a r t ih =>
    intro k hn e rv
    obtain ⟨n1, n2⟩ := List.nodup_cons.mp hn
    cases k with
    | zero =>
      cases e
      exact .cons ⟨upd_same, a.f, a.o, nt_l⟩ rv (t.put n1)
    | succ k =>
      refine .cons (a.ne fun e2 => ?_) r (ih n2 e rv)
      subst e2
      exact n1 (List.mem_of_getElem? (show _ = some _ from e))
end
def llAt (i : Nat) (env : Env) : Option (List (List D)) := match env[i]? with
  | some (some (.ll xss)) => some xss
  | _ => none
theorem llAt_at {i : Nat} {env : Env} {xss : List (List D)} (e : llAt i env = some xss) : env[i]? = some (some (.ll xss)) := by
  unfold llAt at e
  split at e
  · rename_i q
    cases e
    exact q
  · cases e
/-- rows[b].append(a), rows in slot i -/
def mapp (i : Nat) (fb : M D) (fa : M (List D)) : M D := fun env => (llAt i env).bind fun xss => (fb (env.set i none)).bind fun q => (toI q.1).bind fun z => (ixN xss.length z).bind fun k => (xss[k]?).bind fun ds => (fa q.2).bind fun r => (appL ds r.1).map fun w => (w.1, r.2.set i (some (.ll (xss.set k w.2))))
theorem set_own {α : Type} {l : List α} {i : Nat} {x : α} (h : l[i]? = some x) : l.set i x = l := by
  refine List.ext_getElem? fun j => ?_
  by_cases e : i = j
  · subst e
    rw [List.getElem?_set_self (List.getElem?_eq_some_iff.mp h).1, h]
  · rw [List.getElem?_set_ne e]
section
variable {X : Cx} {cm : Cm} {b e : Expr} {tb : TE} {t : TA} {fb : M D} {fa : M (List D)} {i : Nat}
theorem sm_mapp (hb : Sm X.K cm tb fb) (ha : SmA X.K cm t fa) : Sm X.K cm (tBM X.K "list" rAppend (tOp (rIx X.K) (tVar i) tb) t) (mapp i fb fa) := fun F H σ env O d env' Q s e k => by
  obtain ⟨xss, e0, e⟩ := bind_some e
  obtain ⟨⟨y, env1⟩, e1, e⟩ := bind_some e
  obtain ⟨z, e2, e⟩ := bind_some e
  obtain ⟨j, e3, e⟩ := bind_some e
  obtain ⟨ds, e4, e⟩ := bind_some e
  obtain ⟨⟨es, env2⟩, e5, e⟩ := bind_some e
  obtain ⟨⟨d', ds'⟩, e6, e7⟩ := map_some e
  cases e7
  dsimp only at e1 e2 e5 e6
  have q0 := llAt_at e0
  obtain ⟨v, O', ev, ow, s', u1, u2, u3⟩ := s.part q0
  cases ow with
  | ll hp ls nd zp =>
    rename_i p ps
    obtain ⟨n1, n2⟩ := List.nodup_cons.mp nd
    have la : LA X.K cm F H O' ps xss := ls.la (fun q z => (s.ow i q z).1) u2
    have reg := ls.reg
    have ap : Apart F H O' p (.lst (ps.map V.ref)) := ⟨hp, (s.ow i p zp).1, u2 p zp, nt_l⟩
    refine ⟨.ref p, ev, hb F H σ (env.set i none) O' y env1 _ s' e1 fun F1 H1 w O1 g1 s1 r1 => ?_⟩
    have hy : y = .int z := by
      cases y <;> cases e2
      rfl
    subst hy
    cases r1
    have la1 := la.go g1
    have ap1 := ap.go g1
    obtain ⟨q, vs, hq, aq, rq⟩ := la1.get e4
    refine .inl ⟨p, ps.map V.ref, z, .ref q, rfl, rfl, .of ap1.h, ?_, ?_⟩
    · unfold atI
      rw [List.length_map, la.len, e3]
      show (ps.map V.ref)[j]? = some (.ref q)
      rw [List.getElem?_map, hq]
      rfl
    · refine ⟨tyV_l aq.h, ha F1 H1 σ env1 O1 es env2 _ s1 e5 fun F2 H2 xs O2 g2 s2 rx => ?_⟩
      have la2 := la1.go g2
      have ap2 := ap1.go g2
      have aq2 := aq.go g2
      have rq2 := rq.mono g2.ff
      refine sr_app F2 H2 q vs ds xs es _ ds' Q aq2.h rq2 rx s2.fh e6 fun v2 vs2 rv r2 => ?_
      have hqp : q ∈ ps := List.mem_of_getElem? hq
      obtain ⟨s3, g3, aq3⟩ := aq2.put (w := .lst vs2) s2
      have la3 := la2.set n2 hq r2
      have ap3 : Apart F2 (upd H2 q (.lst vs2)) O2 p (.lst (ps.map V.ref)) := ap2.ne fun e => n1 (by rw [e]; exact hqp)
      have hi : i < env2.length := by
        rw [← s2.len]
        exact (List.getElem?_eq_some_iff.mp ev).1
      obtain ⟨O3, s4, u4⟩ := s3.seto (i := i) (v := .ref p) (o := .ll (xss.set j ds')) (R := fun a => a = p ∨ a ∈ ps) hi (.ll ap3.h (la3.lls fun q h => .inr h) nd (.inl rfl)) fun a ha => by
        rcases ha with rfl | ha
        · exact ⟨ap3.f, ⟨⟨_, ap3.n⟩, ap3.h⟩, ap3.o⟩
        · obtain ⟨u, au⟩ := la3.ap ha
          exact ⟨au.f, ⟨⟨_, au.n⟩, au.h⟩, au.o⟩
      rw [set_own ev] at s4
      refine k F2 _ v2 O3 ?_ s4 rv
      have g12 := ((g1.trans g2).lift fun a => a = p ∨ a ∈ ps).trans (g3.keep (T := fun a => (a = p ∨ a ∈ ps) ∨ Un O2 a) fun a h => h.elim (fun h => .inl (.inr (by rw [h]; exact hqp))) .inr)
      refine (g12.mono fun a h => ?_).sub fun a h => ?_
      · rcases h with (rfl | h) | h
        · exact ⟨i, zp⟩
        · exact ⟨i, reg a h⟩
        · exact u1 a h
      · exact .inl (u4 a h)
end
end DL

namespace DL
open PySem PySem.Spec PyProof.Rows L2
/-! a comprehension whose items are lists of one's own -/
def lcLe (vs : List Nat) (acc : List (List D)) : Option (Od × Env) → Option (List (List D) × Env)
  | some (.fd (.lst xs), e) => if acc.length < 16777216 then some (acc ++ [xs], wipeE e vs) else none
  | _ => none
def lcL (vs : List Nat) (tg : Tg) (ft : M Bool) (fe : M Od) : List D → List (List D) → Env → Option (List (List D) × Env)
  | [], acc, env => some (acc, env)
  | d :: ds, acc, env => (tg d env).bind fun e1 => (ft e1).bind fun q => if q.1 = true then (lcLe vs acc (fe q.2)).bind fun r => lcL vs tg ft fe ds r.1 r.2 else lcL vs tg ft fe ds acc (wipeE q.2 vs)
def mlcL (n : Nat) (vs : List Nat) (f : M (List D)) (tg : Tg) (ft : M Bool) (fe : M Od) : M Od := fun env => (f env).bind fun q => if q.2.length = n then (lcL vs tg ft fe q.1 [] (wipeE q.2 vs)).map fun r => (.ll r.1, restE q.2 vs r.2) else none
section
variable {wi : TI} {g : TG} {tt : TT} {te : TE} {f : M (List D)} {tgd : Tg} {ft : M Bool} {fe : M Od} {cm : Cm}
theorem sm_lcL {n : Nat} {K : PySem.W.Frag} {vs : List Nat} (hi : SmI K cm wi f) (hg : SmG K cm (compl n vs) g tgd) (ht : SmT K cm tt ft) (he : SmO K cm te fe) : SmO K cm (tLc wi g tt te vs) (mlcL n vs f tgd ft fe) := fun F H σ env O o env' Q s e k => by
  obtain ⟨⟨ds, env1⟩, e1, e⟩ := bind_some e
  have hen : env1.length = n := by
    by_cases c : env1.length = n
    · exact c
    · rw [if_neg c] at e; cases e
  rw [if_pos hen] at e
  obtain ⟨⟨ys, envf⟩, e2, e3⟩ := map_some e
  cases e3
  dsimp only at e2
  refine hi F H σ env O ds env1 _ s e1 fun F1 H1 O1 J g1 s1 ⟨Y, W, hY⟩ D hD => ?_
  obtain ⟨sf, gf, f1, f2⟩ := s1.fresh (o := .lst []) hD
  have gf' : Go (Un O1) F1 H1 (fun p => (p = D ∨ p ∈ ([] : List Addr)) ∨ Un O1 p) F1 (upd H1 D (.lst [])) := gf.sub fun p z => z.elim (fun z => z.elim .inl fun z => absurd z (by simp)) .inr
  refine lc_it W (fun i H2 => ∃ F2 env2 O2 acc ps, Go (Un O) F H (fun p => (p = D ∨ p ∈ ps) ∨ Un O2 p) F2 H2 ∧ Same F1 F2 ∧ Sts K cm F2 H2 (wipe σ vs) env2 O2 ∧ Apart F2 H2 O2 D (.lst (ps.map V.ref)) ∧ LA K cm F2 H2 O2 ps acc ∧ (D :: ps).Nodup ∧ lcL vs tgd ft fe (ds.drop i) acc env2 = some (ys, envf))
    ⟨F1, wipeE env1 vs, O1, [], [], g1.trans gf', Same.refl _, sf.wipe vs, ⟨upd_same, f1, f2, nt_l⟩, .nil, by simp, e2⟩ (fun i H2 _ ⟨F2, env2, O2, _, _, _, sm, s2, _⟩ => sm.trh s2.fh) ?_ ?_
  · rintro i x H2 H' hi2 ⟨F2, env2, O2, acc, ps, g2, sm, s2, ap, la, nd, e4⟩ hy
    have hd : ds[i]? = some ds[i] := List.getElem?_eq_getElem hi2
    rw [List.drop_eq_getElem_cons hi2] at e4
    unfold lcL at e4
    obtain ⟨env3, e5, e4⟩ := bind_some e4
    obtain ⟨⟨kb, env4⟩, e6, e4⟩ := bind_some e4
    dsimp only at e4
    obtain ⟨F3, s3, g3, r3⟩ := wk_turn (J := J) (ds := ds) (hY i H2 x H' ds[i] hd (sm.trh s2.fh) hy) sm s2
    have ap3 := ap.go g3
    have la3 := la.go g3
    have gg3 := g2.trans ((g3.lift fun p => p = D ∨ p ∈ ps))
    refine hg F3 H' (wipe σ vs) env2 O2 x _ env3 _ s3 r3 e5 fun σ4 s4 b4 => ?_
    have ew : wipe σ4 vs = wipe σ vs := wipe_same (by rw [s1.len]; exact hen) b4
    refine ⟨ew, ht F3 H' σ4 env3 O2 kb env4 _ s4 e6 fun F5 H5 O5 g5 s5 => ?_⟩
    have ap5 := ap3.go g5
    have la5 := la3.go g5
    have gg5 := gg3.trans (g5.lift fun p => p = D ∨ p ∈ ps)
    have sm5 := (sm.trans g3.ff).trans g5.ff
    cases kb with
    | false =>
      rw [if_neg Bool.false_ne_true] at e4 ⊢
      refine ⟨F5, wipeE env4 vs, O5, acc, ps, gg5, sm5, ?_, ap5, la5, nd, e4⟩
      have := s5.wipe vs
      rw [ew] at this
      exact this
    | true =>
      rw [if_pos rfl] at e4 ⊢
      obtain ⟨⟨acc', env6⟩, e7, e4⟩ := bind_some e4
      dsimp only at e4
      unfold lcLe at e7
      split at e7
      · rename_i xs env7 e8
        by_cases hz : acc.length < 16777216
        · rw [if_pos hz] at e7
          cases e7
          refine he F5 H5 σ4 env4 O5 _ env7 _ s5 e8 fun F6 H6 v O6 R6 g6 s6 r6 n6 => ?_
          cases r6 with
          | fd r6 => cases r6 with
            | lst hq rq zq =>
              rename_i q vq
              obtain ⟨ap6, nD⟩ := ap5.goR g6
              obtain ⟨la6, nP⟩ := la5.goR g6
              have aq : Apart F6 H6 O6 q (.lst vq) := ⟨(n6 q zq).1 |> fun _ => hq, (n6 q zq).1, (n6 q zq).2.2, nt_l⟩
              have nqD : q ≠ D := fun e => nD (by rw [← e]; exact zq)
              have nqP : q ∉ ps := fun h => nP q h zq
              obtain ⟨nd1, nd2⟩ := List.nodup_cons.mp nd
              refine ⟨ps.map V.ref, ap6.h, szlt (by rw [List.length_map, la6.len]; exact hz), ?_⟩
              obtain ⟨s7, g7, ap7⟩ := ap6.put (w := .lst (ps.map V.ref ++ [.ref q])) s6
              have g6' := (g6.lift fun p => p = D ∨ p ∈ ps)
              have gg6 := gg5.trans g6'
              have gg7 := gg6.trans (g7.keep (T := fun p => (p = D ∨ p ∈ ps) ∨ (R6 p ∨ Un O6 p)) fun p z => z.elim (fun z => .inl (.inl z)) fun z => .inr (.inr z))
              refine ⟨F6, wipeE env7 vs, O6, acc ++ [xs], ps ++ [q], gg7.sub fun p z => ?_, sm5.trans g6.ff, ?_, ?_, ?_, ?_, e4⟩
              · rcases z with (z | z) | z
                · exact .inl (.inl (.inl z))
                · rcases List.mem_append.mp z with z | z
                  · exact .inl (.inl (.inr z))
                  · rw [List.mem_singleton] at z
                    subst z
                    exact .inl (.inr (.inl zq))
                · exact .inl (.inr (.inr z))
              · have := s7.wipe vs
                rw [ew] at this
                exact this
              · rw [List.map_append]
                exact ap7
              · exact (la6.put (w := .lst (ps.map V.ref ++ [.ref q])) nd1).app (aq.ne nqD) rq
              · refine List.nodup_cons.mpr ⟨fun z => ?_, List.nodup_append.mpr ⟨nd2, by simp, fun a ha b hb e => ?_⟩⟩
                · rcases List.mem_append.mp z with z | z
                  · exact nd1 z
                  · rw [List.mem_singleton] at z
                    exact nqD z.symm
                · rw [List.mem_singleton] at hb
                  subst hb; subst e
                  exact nqP ha
        · rw [if_neg hz] at e7; cases e7
      · cases e7
  · rintro H2 ⟨F2, env2, O2, acc, ps, g2, sm, s2, ap, la, nd, e4⟩
    rw [List.drop_length] at e4
    cases e4
    refine k F2 H2 (.ref D) O2 (fun p => p = D ∨ p ∈ ps) g2 (s1.rest s2 sm) (.ll ap.h (la.lls fun q h => .inr h) nd (.inl rfl)) fun p e => ?_
    rcases e with rfl | e
    · exact ⟨ap.f, ⟨⟨_, ap.n⟩, ap.h⟩, ap.o⟩
    · obtain ⟨u, au⟩ := la.ap e
      exact ⟨au.f, ⟨⟨_, au.n⟩, au.h⟩, au.o⟩
end
/-- what a meaning alone tells of a thing of one's own -/
def toOf (K : PySem.W.Frag) (cm : Cm) (f : M Od) : TE := fun σ H Q => ∃ F env O o env', Sts K cm F H σ env O ∧ f env = some (o, env') ∧ Ko K cm F H σ O env' o Q
theorem do_cn {X : Cx} {cm : Cm} {e : Expr} {f : M Od} (h : ∃ te, DO X cm e te f) : DO X cm e (toOf X.K cm f) f := by
  obtain ⟨te, h⟩ := h
  exact ⟨⟨fun pins s σ H Q I ⟨F, env, O, d, env', st, e1, k⟩ => h.pe.run pins s σ H Q I (h.sm F H σ env O d env' Q st e1 k)⟩, fun F H σ env O d env' Q s e k => ⟨F, env, O, d, env', s, e, k⟩⟩
section
variable {X : Cx} {cm : Cm} {B : List Nat} {elt tg iter c : Expr} {ifs : List Expr} {scope : Scope} {own : List (Str × Nat)} {pos : Pos} {wi : TI} {g : TG} {tt : TT} {te : TE} {f : M (List D)} {tgd : Tg} {ft : M Bool} {fe : M Od}
/-- y = [elt for ..], elt a list of one's own -/
theorem ds_setLcL {i n : Nat} {vs : List Nat} {y : Str} {py spos : Pos} (hN : X.N.Nodup) (hsw : swapsWith (.ListComp elt [⟨tg, iter, ifs, 0⟩] scope pos) (some (.Name y py)) spos.line X.env = pure true) (hi : DI X cm tg iter wi f) (ok : BlkOk X.N X.env.scope scope own)
    (hg : ∀ (s : Shared) (H : Hp) (C : Addr) (cl : List (Str × Addr)) (fp : List Addr), ∃ g, DG (X.blk s H scope (compEnvC scope cl C X.env) fp) cm (compl n vs) tg g tgd) (ht : ∀ (s : Shared) (H : Hp) (C : Addr) (cl : List (Str × Addr)) (fp : List Addr), ∃ tt, DTs (X.blk s H scope (compEnvC scope cl C X.env) fp) cm ifs tt ft)
    (he : ∀ (s : Shared) (H : Hp) (C : Addr) (cl : List (Str × Addr)) (fp : List Addr), ∃ te, DO (X.blk s H scope (compEnvC scope cl C X.env) fp) cm elt te fe) (hvs : own.map (·.2) = vs := by rfl) (hB : i ∉ B := by decide) (hy : X.N[i]? = some y := by rfl) (hyl : X.env.scope.names.lookup y = some .local := by rfl) (hc : X.calm = true := by rfl) (hs : ∀ x, foldedSetIterable iter X.env x = pure x := by intro _; rfl) :
    DS X cm B (.Assign [.Name y py] (.ListComp elt [⟨tg, iter, ifs, 0⟩] scope pos) spos) (tAsg (tLc wi (tgOf X.K cm (compl n vs) tgd) (ttOf X.K cm ft) (toOf X.K cm fe) vs) (gName i)) (gst i (mlcL n vs f tgd ft fe)) := by
  subst hvs
  have hg := fun s H C cl fp => dg_cn (hg s H C cl fp)
  have ht := fun s H C cl fp => dts_cn (ht s H C cl fp)
  have he := fun s H C cl fp => do_cn (he s H C cl fp)
  exact ⟨ps_setLc hc hN hy hyl hsw hi.pe ok (fun s H C cl fp => (hg s H C cl fp).pe) (fun s H C cl fp => (ht s H C cl fp).pe) (fun s H C cl fp => (he s H C cl fp).pe) hs, sms_asg (sm_lcL hi.sm (hg X.s_0 X.H_0 0 [] []).sm (ht X.s_0 X.H_0 0 [] []).sm (he X.s_0 X.H_0 0 [] []).sm) hB⟩
end
section
variable {X : Cx} {cm : Cm} {b e : Expr} {tb : TE} {x : Str} {pn ap cp p2 : Pos} {t : TA} {fb : M D} {fa : M (List D)} {i : Nat}
/-- rows[b].append(e) -/
theorem de_mapp (hb : DE X cm b tb fb) (ha : DA X cm [e] t fa) (hs2 : PlainIx b := by exact fun _ _ => rfl) (hN : X.N[i]? = some x := by rfl) (hv : Vis X.env.scope x := by first | exact Or.inl rfl | exact Or.inr (Or.inl rfl) | exact Or.inr (Or.inr rfl)) (hd : (x == ("__debug__" : Str)) = false := by decide) (hcd : (x == ("__classdict__" : Str)) = false := by decide)
    (hbase : attributeBase (.Subscript (.Name x pn) b p2) "append" X.env (eval (.Subscript (.Name x pn) b p2) X.env) = eval (.Subscript (.Name x pn) b p2) X.env := by rfl)
    (hfew : ((backTo cp (starEach [e] X.env)).all (fun x => !x.1) && (backToKw cp (keywordEach [] X.env)).all (fun x => x.1.isSome) && decide ([e].length + ([] : List Keyword).length + (if ([] : List Keyword).isEmpty then 0 else 1) < 30)) = true := by rfl)
    (hline : (ap.endLine == cp.line) = true := by rfl) (hs : starEach [e] X.env = (false, eval e X.env) :: starEach [] X.env := by rfl) (hpl : (backTo cp (starEach [] X.env)).any (·.1) = false := by rfl) :
    DE X cm (.Call (.Attribute (.Subscript (.Name x pn) b p2) "append" ap) [e] [] cp) (tBM X.K "list" rAppend (tOp (rIx X.K) (tVar i) tb) t) (mapp i fb fa) :=
  ⟨pe_bm PySem.F.plainAttrs_list PySem.F.slot_list_append PySem.F.type_list_append mt_append (pe_ix ix_seq (pe_var hN hv hd hcd) hb.pe hs2) ha.pe hbase hfew hline hs hpl, sm_mapp hb.sm ha.sm⟩
end
end DL

/-! The data layer: t * k, t a tuple that is not empty, k from 1 on. -/
namespace DL
open PySem PySem.Spec PyProof.Rows L2
/-- once: the tuple itself -/
theorem tuple_mul1 (l : Addr) (items : Array Value) (n : Nat) (dd : Option Addr) (sl : Array (Option Value)) (u : Tok) :
    Meets (Builtin.«tuple.__mul__» ⟨[.ref l, .int 1 u], []⟩) (fun _ R s => s.heap.get? l = some { cls := .type "tuple", dict := dd, data := .seq items n, slots := sl } ∧
      R (.ok (.ret (Value.ref l))) s) :=
  .of_wp fun prog w A R s h => by
    obtain ⟨hp, g, d, tk, os⟩ := s
    obtain ⟨hl, h⟩ := h
    have f1 := AutoSeq1.idx_int
    wp_walk using wpAny_loadPart' hl
    exact ⟨_, rfl, h⟩
def rRep1 (K : PySem.W.Frag) : R2 := fun x y H Q => ∃ l xs, x = .ref l ∧ y = .int 1 ∧ SqT K H l xs ∧ Q (.ref l) H
theorem op_rep1 {X : Cx} : OpR X (binaryOp .Mult) (rRep1 X.K) := by
  intro pins s σ H x y v u Q I rx ry h
  obtain ⟨l, xs, rfl, rfl, hT, q⟩ := h
  cases rx
  obtain ⟨t, rfl⟩ := ry
  obtain ⟨its, r, ⟨⟨cls, dd, data, sl⟩, ho, hc, n, hd⟩, hs⟩ := I.tuple hT
  simp only at hc hd
  subst hc hd
  refine wpAny_binaryOp_repeat_ref (T := "tuple") (U := "int") (by decide) ⟨_, ho, rfl⟩ (fun s' => typeIs_int s' 1 t) noFill_tuple_mul F.fills_int_mul F.slot_int_rmul repeat_tuple F.slot_int_index.lookup
    (call_meets F.slot_int_rmul (typeIs_int s 1 t) F.entry_int_rmul (F.args_int_rmul_2 _ _) (int_rmul_tuple 1 t l its.toArray n dd sl)
      ⟨ho, rfl, ⟨_, ho, rfl⟩, call_meets F.slot_tuple_mul ⟨_, ho, rfl⟩ F.entry_tuple_mul (F.args_tuple_mul_2 _ _) (tuple_mul1 l its.toArray n dd sl t) ⟨ho, ?_⟩⟩)
  exact ⟨.ref l, H, I, rfl, q⟩
def mulT : D → D → Option D
  | .tup xs, .int k => if xs ≠ [] ∧ 1 ≤ k ∧ k ≤ 1000 ∧ xs.length ≤ 1000 then some (.tup (List.replicate k.toNat xs).flatten) else none
  | _, _ => none
theorem RpA.rep {K : PySem.W.Frag} {cm : Cm} {F : Hp} {vs : List V} {ds : List D} (r : RpA K cm F vs ds) : ∀ k : Nat, RpA K cm F (List.replicate k vs).flatten (List.replicate k ds).flatten
  | 0 => .nil
  | k + 1 => by
    rw [List.replicate_succ, List.replicate_succ, List.flatten_cons, List.flatten_cons]
    exact r.app (RpA.rep r k)
theorem sr_mulT {K : PySem.W.Frag} {cm : Cm} : SmR2 K cm (fun x y H Q => rRep1 K x y H Q ∨ rRepT K x y H Q) mulT := fun F H σ env O x y a b d Q s ra rb e k => by
  unfold mulT at e
  split at e
  · rename_i xs i
    obtain ⟨⟨c1, c2, c3, c4⟩, e⟩ := ite_some e
    cases e
    cases rb
    cases ra with
    | tup h r =>
      rename_i p vs
      by_cases c : i = 1
      · subst c
        refine .inl ⟨p, vs, rfl, rfl, tupT s.fh h, ?_⟩
        have e1 : (List.replicate (1 : Int).toNat xs).flatten = xs := by simp
        rw [e1] at k
        exact k.here s (.tup h r)
      · refine .inr ⟨p, i, vs, rfl, rfl, tupT s.fh h, fun e => c1 ?_, by omega, c3, by rw [r.len]; exact c4, fun q hq => ?_⟩
        · have := r.len
          rw [e] at this
          exact List.eq_nil_of_length_eq_zero this.symm
        · exact k.alloc s hq fun F' sm e => .tup e ((r.rep i.toNat).mono sm)
  · cases e
section
variable {X : Cx} {cm : Cm} {a b : Expr} {ta tb : TE} {pos : Pos} {fa fb : M D}
theorem de_mulT (ha : DE X cm a ta fa) (hb : DE X cm b tb fb) : DE X cm (.BinOp a .Mult b pos) (tOp (fun x y H Q => rRep1 X.K x y H Q ∨ rRepT X.K x y H Q) ta tb) (m2 mulT fa fb) := de_op (.or op_rep1 op_repT) sr_mulT ha hb
end
end DL
namespace DL
open PySem PySem.Spec PyProof.Rows L2
/-! both sides are looked at only -/
def pcLL (g : D → D → Option D) (fx fy : P Fd) : P D := fun env => (fx env).bind fun x => (fy env).bind fun y => (thaw x).bind fun a => (thaw y).bind fun b => (g a b).bind onlyB
section
variable {X : Cx} {cm : Cm} {a b : Expr} {ta tb : TE} {pos : Pos} {fx fy : P Fd}
theorem dp_cmpLL {op : CmpOp} {r : R2} {g : D → D → Option D} (ho : OpR X (compareOp op) r) (hr : Pure2 X.K cm r g) (ha : DX X cm a ta fx) (hb : DX X cm b tb fy) (hm : behindInMarks op b = false) : DP X cm (.Compare a [op] [b] pos) (tOp r ta tb) (pcLL g fx fy) := ⟨pe_cmpR ho ha.pe hb.pe hm, fun F H σ env O d Q s e k => by
  obtain ⟨x, e1, e⟩ := bind_some e
  obtain ⟨y, e2, e⟩ := bind_some e
  obtain ⟨z, e3, e⟩ := bind_some e
  obtain ⟨z2, e4, e⟩ := bind_some e
  obtain ⟨q, e5, e6⟩ := bind_some e
  refine ha.sm F H σ env O x _ s e1 fun v S ow => hb.sm F H σ env O y _ s e2 fun w S2 ow2 => ?_
  obtain ⟨F', f1, f2, r1, f5⟩ := ow.rp s.fh s.mm e3
  obtain ⟨F2, f3, f4, r2, _⟩ := (ow2.mono f1 (fun _ _ h _ => h) fun _ h => h).rp f2 f5 e4
  cases q <;> cases e6
  exact hr F2 H v w z z2 _ Q (r1.mono f3) r2 f4 e5 fun u ru => by
    cases ru
    exact k _ (.bl _)⟩
theorem dq_cmpLL {op : CmpOp} {r : R2} {g : D → D → Option D} (ho : OpR X (compareOp op) r) (hr : Pure2 X.K cm r g) (ha : DX X cm a ta fx) (hb : DX X cm b tb fy) (hm : behindInMarks op b = false) : DQ X cm (.Compare a [op] [b] pos) (tTest (tOp r ta tb)) (tq (pcLL g fx fy)) := ⟨pt_cmpR ho ha.pe hb.pe hm, spt_of (dp_cmpLL (pos := pos) ho hr ha hb hm).sm⟩
end
end DL

/-! The data layer: dict comprehensions with int or text keys. -/
namespace DL
open PySem PySem.Spec PyProof.Rows L2
/-- a dict comprehension over any walk -/
theorem dc_it {J : It} {n : Nat} {G0 : Hp → Prop} {Y : Nat → Hp → V → Hp → Prop} (w : Walk J n G0 Y) {g : TG} {tt : TT} {tk tv : TE} {vs : List Nat} {σ : L2.St} {H1 : Hp} {D : Addr} {Qd : Hp → Prop} (Pv : Nat → Hp → Prop) (h0 : Pv 0 (upd H1 D (.dK []))) (hG : ∀ i H, i ≤ n → Pv i H → G0 H)
    (hs : ∀ i x H H', i < n → Pv i H → Y i H x H' → g x (wipe σ vs) H' fun σ2 H2 => wipe σ2 vs = wipe σ vs ∧ tt σ2 H2 fun b H3 =>
      if b = true then tk σ2 H3 fun y H4 => tv σ2 H4 fun z H5 => ∃ kvs k, y = kV k ∧ H5 D = some (.dK kvs) ∧ kvs.length < sizeLine ∧ Pv (i + 1) (upd H5 D (.dK (putK kvs k z))) else Pv (i + 1) H3) (hd : ∀ H, Pv n H → Qd H) :
    ∃ W : Nat → Nat → Hp → Prop, (∃ m, W 0 m (upd H1 D (.dK []))) ∧ ∀ i m H, W i m H →
      (J.stop i H ∧ Qd H) ∨ (J.go i H ∧ ∃ Nx : Hp → Prop, (∀ H', Nx H' → ∃ m', m' < m ∧ W (i + 1) m' H') ∧ ∀ x H', J.yld i H x H' → g x (wipe σ vs) H' fun σ2 H2 => wipe σ2 vs = wipe σ vs ∧ tt σ2 H2 fun b H3 =>
        if b = true then tk σ2 H3 fun y H4 => tv σ2 H4 fun z H5 => ∃ kvs k, y = kV k ∧ H5 D = some (.dK kvs) ∧ kvs.length < sizeLine ∧ Nx (upd H5 D (.dK (putK kvs k z))) else Nx H3) := by
  refine ⟨fun i m H => m = n - i ∧ i ≤ n ∧ Pv i H, ⟨n, by simp, Nat.zero_le _, h0⟩, ?_⟩
  rintro i m H ⟨rfl, hi, p⟩
  have q := hG i H hi p
  by_cases hlt : i < n
  · refine .inr ⟨w.goes i H hlt q, Pv (i + 1), fun H' p' => ⟨n - (i + 1), by omega, rfl, hlt, p'⟩, fun x H' y => hs i x H H' hlt p (w.yields i H x H' hlt q y)⟩
  · have e : i = n := by omega
    subst e
    exact .inl ⟨w.stops H q, hd H p⟩
/-! the data level -/
def dcLe (vs : List Nat) (acc : List (L2.Key × D)) (fv : M D) : Option (D × Env) → Option (List (L2.Key × D) × Env)
  | some (kd, e) => (toK kd).bind fun k => (fv e).bind fun r => if acc.length < 16777216 then some (dput acc k r.1, wipeE r.2 vs) else none
  | none => none
def dcD (vs : List Nat) (tg : Tg) (ft : M Bool) (fk fv : M D) : List D → List (L2.Key × D) → Env → Option (List (L2.Key × D) × Env)
  | [], acc, env => some (acc, env)
  | d :: ds, acc, env => (tg d env).bind fun e1 => (ft e1).bind fun q => if q.1 = true then (dcLe vs acc fv (fk q.2)).bind fun r => dcD vs tg ft fk fv ds r.1 r.2 else dcD vs tg ft fk fv ds acc (wipeE q.2 vs)
def mdc (n : Nat) (vs : List Nat) (f : M (List D)) (tg : Tg) (ft : M Bool) (fk fv : M D) : M Od := fun env => (f env).bind fun q => if q.2.length = n then (dcD vs tg ft fk fv q.1 [] (wipeE q.2 vs)).map fun r => (.fd (.dik r.1), restE q.2 vs r.2) else none
section
variable {wi : TI} {g : TG} {tt : TT} {tk tv : TE} {f : M (List D)} {tgd : Tg} {ft : M Bool} {fk fv : M D} {cm : Cm}
theorem sm_dc {n : Nat} {K : PySem.W.Frag} {vs : List Nat} (hi : SmI K cm wi f) (hg : SmG K cm (compl n vs) g tgd) (ht : SmT K cm tt ft) (hk : Sm K cm tk fk) (hv : Sm K cm tv fv) : SmO K cm (tDc wi g tt tk tv vs) (mdc n vs f tgd ft fk fv) := fun F H σ env O o env' Q s e k => by
  obtain ⟨⟨ds, env1⟩, e1, e⟩ := bind_some e
  have hen : env1.length = n := by
    by_cases c : env1.length = n
    · exact c
    · rw [if_neg c] at e; cases e
  rw [if_pos hen] at e
  obtain ⟨⟨ys, envf⟩, e2, e3⟩ := map_some e
  cases e3
  dsimp only at e2
  refine hi F H σ env O ds env1 _ s e1 fun F1 H1 O1 J g1 s1 ⟨Y, W, hY⟩ D hD => ?_
  obtain ⟨sf, gf, f1, f2⟩ := s1.fresh (o := .dK []) hD
  refine dc_it W (fun i H2 => ∃ F2 env2 O2 acc ws, Go (Un O) F H (fun p => p = D ∨ Un O2 p) F2 H2 ∧ Same F1 F2 ∧ Sts K cm F2 H2 (wipe σ vs) env2 O2 ∧ Apart F2 H2 O2 D (.dK ws) ∧ ws.map (·.1) = acc.map (·.1) ∧ RpA K cm F2 (ws.map (·.2)) (acc.map (·.2)) ∧ dcD vs tgd ft fk fv (ds.drop i) acc env2 = some (ys, envf))
    ⟨F1, wipeE env1 vs, O1, [], [], g1.trans gf, Same.refl _, sf.wipe vs, ⟨upd_same, f1, f2, nt_k⟩, rfl, .nil, e2⟩ (fun i H2 _ ⟨F2, env2, O2, _, _, _, sm, s2, _⟩ => sm.trh s2.fh) ?_ ?_
  · rintro i x H2 H' hi2 ⟨F2, env2, O2, acc, ws, g2, sm, s2, ap, rn, ra, e4⟩ hy
    have hd : ds[i]? = some ds[i] := List.getElem?_eq_getElem hi2
    rw [List.drop_eq_getElem_cons hi2] at e4
    unfold dcD at e4
    obtain ⟨env3, e5, e4⟩ := bind_some e4
    obtain ⟨⟨kb, env4⟩, e6, e4⟩ := bind_some e4
    dsimp only at e4
    obtain ⟨F3, s3, g3, r3⟩ := wk_turn (J := J) (ds := ds) (hY i H2 x H' ds[i] hd (sm.trh s2.fh) hy) sm s2
    have ap3 := ap.go g3
    have gg3 := g2.trans ((g3.lift fun p => p = D))
    refine hg F3 H' (wipe σ vs) env2 O2 x _ env3 _ s3 r3 e5 fun σ4 s4 b4 => ?_
    have ew : wipe σ4 vs = wipe σ vs := wipe_same (by rw [s1.len]; exact hen) b4
    refine ⟨ew, ht F3 H' σ4 env3 O2 kb env4 _ s4 e6 fun F5 H5 O5 g5 s5 => ?_⟩
    have ap5 := ap3.go g5
    have gg5 := gg3.trans (g5.lift fun p => p = D)
    have sm5 := (sm.trans g3.ff).trans g5.ff
    cases kb with
    | false =>
      rw [if_neg Bool.false_ne_true] at e4 ⊢
      refine ⟨F5, wipeE env4 vs, O5, acc, ws, gg5, sm5, ?_, ap5, rn, (ra.mono g3.ff).mono g5.ff, e4⟩
      have := s5.wipe vs
      rw [ew] at this
      exact this
    | true =>
      rw [if_pos rfl] at e4 ⊢
      obtain ⟨⟨acc', env7⟩, e7, e4⟩ := bind_some e4
      dsimp only at e4
      unfold dcLe at e7
      split at e7
      · rename_i kd env6 e8
        obtain ⟨kk, e9, e7⟩ := bind_some e7
        obtain ⟨⟨y, env8⟩, e10, e7⟩ := bind_some e7
        obtain ⟨hz, e7⟩ := ite_some e7
        cases e7
        refine hk F5 H5 σ4 env4 O5 kd env6 _ s5 e8 fun F6 H6 w O6 g6 s6 r6 => ?_
        refine hv F6 H6 σ4 env6 O6 y env8 _ s6 e10 fun F7 H7 v O7 g7 s7 r7 => ?_
        have ap7 := (ap5.go g6).go g7
        have ra7 := (((ra.mono g3.ff).mono g5.ff).mono g6.ff).mono g7.ff
        obtain ⟨j1, j2⟩ := dput_rel kk rn ra7 r7
        have hl : ws.length = acc.length := by have := congrArg List.length rn; rwa [List.length_map, List.length_map] at this
        refine ⟨ws, kk, r6.toK e9, ap7.h, szlt (by rw [hl]; exact hz), ?_⟩
        obtain ⟨s8, g8, ap8⟩ := ap7.put (w := .dK (putK ws kk v)) s7
        refine ⟨F7, wipeE env8 vs, O7, dput acc kk y, putK ws kk v, ((gg5.trans (g6.lift fun p => p = D)).trans (g7.lift fun p => p = D)).trans g8, (sm5.trans g6.ff).trans g7.ff, ?_, ap8, j1, j2, e4⟩
        have := s8.wipe vs
        rw [ew] at this
        exact this
      · cases e7
  · rintro H2 ⟨F2, env2, O2, acc, ws, g2, sm, s2, ap, rn, ra, e4⟩
    rw [List.drop_length] at e4
    cases e4
    refine k F2 H2 (.ref D) O2 (fun p => p = D) g2 (s1.rest s2 sm) (.fd (.dik ap.h rn ra rfl)) fun p e => ?_
    subst e
    exact ⟨ap.f, ⟨⟨_, ap.n⟩, ap.h⟩, ap.o⟩
end
section
variable {X : Cx} {cm : Cm} {kx vx tg iter c : Expr} {ifs : List Expr} {scope : Scope} {own : List (Str × Nat)} {pos : Pos} {wi : TI} {f : M (List D)} {tgd : Tg} {ft : M Bool} {fk fv : M D}
/-- {k: v for ..} -/
theorem do_dc {n : Nat} {vs : List Nat} (hN : X.N.Nodup) (hi : DI X cm tg iter wi f) (ok : BlkOk X.N X.env.scope scope own)
    (hg : ∀ (s : Shared) (H : Hp) (C : Addr) (cl : List (Str × Addr)) (fp : List Addr), ∃ g, DG (X.blk s H scope (compEnvC scope cl C X.env) fp) cm (compl n vs) tg g tgd) (ht : ∀ (s : Shared) (H : Hp) (C : Addr) (cl : List (Str × Addr)) (fp : List Addr), ∃ tt, DTs (X.blk s H scope (compEnvC scope cl C X.env) fp) cm ifs tt ft)
    (hk : ∀ (s : Shared) (H : Hp) (C : Addr) (cl : List (Str × Addr)) (fp : List Addr), ∃ te, DE (X.blk s H scope (compEnvC scope cl C X.env) fp) cm kx te fk)
    (hv : ∀ (s : Shared) (H : Hp) (C : Addr) (cl : List (Str × Addr)) (fp : List Addr), ∃ te, DE (X.blk s H scope (compEnvC scope cl C X.env) fp) cm vx te fv) (hvs : own.map (·.2) = vs := by rfl) (hc : X.calm = true := by rfl) (hs : ∀ x, foldedSetIterable iter X.env x = pure x := by intro _; rfl) :
    DO X cm (.DictComp kx vx [⟨tg, iter, ifs, 0⟩] scope pos) (tDc wi (tgOf X.K cm (compl n vs) tgd) (ttOf X.K cm ft) (teOf X.K cm fk) (teOf X.K cm fv) vs) (mdc n vs f tgd ft fk fv) := by
  subst hvs
  have hg := fun s H C cl fp => dg_cn (hg s H C cl fp)
  have ht := fun s H C cl fp => dts_cn (ht s H C cl fp)
  have hk := fun s H C cl fp => de_cn (hk s H C cl fp)
  have hv := fun s H C cl fp => de_cn (hv s H C cl fp)
  exact ⟨pe_dc hc hN hi.pe ok (fun s H C cl fp => (hg s H C cl fp).pe) (fun s H C cl fp => (ht s H C cl fp).pe) (fun s H C cl fp => (hk s H C cl fp).pe) (fun s H C cl fp => (hv s H C cl fp).pe) hs, sm_dc hi.sm (hg X.s_0 X.H_0 0 [] []).sm (ht X.s_0 X.H_0 0 [] []).sm (hk X.s_0 X.H_0 0 [] []).sm (hv X.s_0 X.H_0 0 [] []).sm⟩
end
end DL

/-! The data layer: dicts compared, emptied, asked with get; a walk over a dict's keys that asks two dicts. -/
namespace DL
open PySem PySem.Spec PyProof.Rows L2
/-! ### == of dicts that hold ints, texts, flags, None -/
def eqFlat : D → D → Bool
  | .non, .non => true
  | .bl a, .bl b => a == b
  | .int a, .int b => a == b
  | .str a, .str b => decide (a = b)
  | _, _ => false
def eqdk (ks ls : List (L2.Key × D)) : Bool := ks.length == ls.length && ks.all fun p => match dget ls p.1 with
  | some d => eqFlat p.2 d
  | none => false
def neDD (a b : D) : Option D := match a, b with
  | .dik ks, .dik ls => if eqdk ks ls = true then some (.bl false) else none
  | a, b => neD a b
def eqDD (a b : D) : Option D := match a, b with
  | .dik ks, .dik ls => if eqdk ks ls = true then some (.bl true) else none
  | a, b => eqD a b
section
variable {K : PySem.W.Frag} {cm : Cm} {F H : Hp}
theorem eqFlat_rel {a b : D} {v w : V} (e : eqFlat a b = true) (ra : Rp K cm F v a) (rb : Rp K cm F w b) : w = v ∧ flatB v = true := by
  unfold eqFlat at e
  split at e
  · cases ra; cases rb; exact ⟨rfl, rfl⟩
  · cases ra; cases rb; rw [beq_iff_eq] at e; subst e; exact ⟨rfl, rfl⟩
  · cases ra; cases rb; rw [beq_iff_eq] at e; subst e; exact ⟨rfl, rfl⟩
  · cases ra; cases rb; have e := of_decide_eq_true e; subst e; exact ⟨rfl, rfl⟩
  · cases e
theorem eqdk_rel {ks ls : List (L2.Key × D)} {kvs lvs : List (L2.Key × V)} (e : eqdk ks ls = true) (h1 : kvs.map (·.1) = ks.map (·.1)) (r1 : RpA K cm F (kvs.map (·.2)) (ks.map (·.2))) (h2 : lvs.map (·.1) = ls.map (·.1)) (r2 : RpA K cm F (lvs.map (·.2)) (ls.map (·.2))) :
    kvs.length = lvs.length ∧ ∀ p ∈ kvs, valV lvs p.1 = some p.2 ∧ flatB p.2 = true := by
  unfold eqdk at e
  rw [Bool.and_eq_true, beq_iff_eq, List.all_eq_true] at e
  obtain ⟨e1, e2⟩ := e
  have l1 : kvs.length = ks.length := by have := congrArg List.length h1; rwa [List.length_map, List.length_map] at this
  have l2 : lvs.length = ls.length := by have := congrArg List.length h2; rwa [List.length_map, List.length_map] at this
  refine ⟨by omega, fun p hp => ?_⟩
  obtain ⟨i, hi, hpi⟩ := List.getElem_of_mem hp
  have g1 : (kvs.map (·.2))[i]? = some p.2 := by rw [List.getElem?_map, List.getElem?_eq_getElem hi, hpi]; rfl
  have g0 : (kvs.map (·.1))[i]? = some p.1 := by rw [List.getElem?_map, List.getElem?_eq_getElem hi, hpi]; rfl
  obtain ⟨d, g2, rd⟩ := r1.get g1
  rw [h1] at g0
  rw [List.getElem?_map] at g0 g2
  cases hq : ks[i]? with
  | none => rw [hq] at g0; cases g0
  | some q =>
    rw [hq] at g0 g2
    obtain ⟨q1, q2⟩ := q
    have g3 : q1 = p.1 := Option.some.inj g0
    have g4 : q2 = d := Option.some.inj g2
    clear g0 g2
    subst g3 g4
    have e3 := e2 (p.1, q2) (List.mem_of_getElem? hq)
    dsimp only at e3
    split at e3
    · rename_i d' e4
      obtain ⟨_, i2⟩ := dget_rel p.1 h2 r2
      obtain ⟨w, e5, rw'⟩ := i2 d' e4
      obtain ⟨e6, e7⟩ := eqFlat_rel e3 rd rw'
      subst e6
      exact ⟨e5, e7⟩
    · cases e3
theorem Rp.atK {v : V} {ks : List (L2.Key × D)} (r : Rp K cm F v (.dik ks)) : ∃ a kvs, v = .ref a ∧ F a = some (.dK kvs) ∧ kvs.map (·.1) = ks.map (·.1) ∧ RpA K cm F (kvs.map (·.2)) (ks.map (·.2)) := by
  cases r with
  | dik h1 h2 h3 => exact ⟨_, _, rfl, h1, h2, h3⟩
theorem pu_neDD : Pure2 K cm (fun x y H Q => rNeDA x y H Q ∨ rNeD K x y H Q) neDD := fun F H x y a b d Q ra rb fh e k => by
  unfold neDD at e
  split at e
  · obtain ⟨c, e⟩ := ite_some e
    cases e
    obtain ⟨p, kvs, rfl, p1, p2, p3⟩ := ra.atK
    obtain ⟨q, lvs, rfl, q1, q2, q3⟩ := rb.atK
    obtain ⟨c1, c2⟩ := eqdk_rel c p2 p3 q2 q3
    exact .inl ⟨p, q, kvs, lvs, rfl, rfl, fh.at p1, fh.at q1, c1, c2, k _ (.bl _)⟩
  · exact .inr (pu_ne F H x y a b d Q ra rb fh e k)
theorem pu_eqDD : Pure2 K cm (fun x y H Q => rEqDA x y H Q ∨ rEqD K x y H Q) eqDD := fun F H x y a b d Q ra rb fh e k => by
  unfold eqDD at e
  split at e
  · obtain ⟨c, e⟩ := ite_some e
    cases e
    obtain ⟨p, kvs, rfl, p1, p2, p3⟩ := ra.atK
    obtain ⟨q, lvs, rfl, q1, q2, q3⟩ := rb.atK
    obtain ⟨c1, c2⟩ := eqdk_rel c p2 p3 q2 q3
    exact .inl ⟨p, q, kvs, lvs, rfl, rfl, fh.at p1, fh.at q1, c1, c2, k _ (.bl _)⟩
  · exact .inr (pu_eq F H x y a b d Q ra rb fh e k)
end
theorem hu_0 {u c : Nat} (h : u + 64 < c) : u < c := by omega
theorem op_eqDD {X : Cx} (hu : X.A.units + 64 < cLine) : OpR X (compareOp .Eq) (fun x y H Q => rEqDA x y H Q ∨ rEqD X.K x y H Q) := .or (op_eq_dictA (hu_0 hu)) (op_eqD hu)
theorem op_neDD {X : Cx} (hu : X.A.units + 64 < cLine) : OpR X (compareOp .NotEq) (fun x y H Q => rNeDA x y H Q ∨ rNeD X.K x y H Q) := .or (op_ne_dictA (hu_0 hu)) (op_neD hu)
/-! ### d.clear(), d a dict of one's own in slot i -/
def mclr (i : Nat) : M D := fun env => match env[i]? with
  | some (some (.fd (.dik _))) => some (.non, env.set i (some (.fd (.dik []))))
  | _ => none
section
variable {X : Cx} {cm : Cm} {a b : Expr} {ta tb : TE} {pos apos : Pos} {fb : P D} {fx : P Fd}
theorem tyV_d {K : PySem.W.Frag} {H : Hp} {p : Addr} {kvs : List (L2.Key × V)} (h : H p = some (.dK kvs)) : tyV K "dict" (.ref p) H := .inr (.inr (.inl ⟨rfl, .inl ⟨_, h⟩⟩))
theorem de_clr {i : Nat} {x : Str} {px1 : Pos} (hbase : attributeBase (.Name x px1) "clear" X.env (eval (.Name x px1) X.env) = eval (.Name x px1) X.env := by rfl) (hline : (apos.endLine == pos.line) = true := by rfl) (hN : X.N[i]? = some x := by rfl) (hv : Vis X.env.scope x := by first | exact Or.inl rfl | exact Or.inr (Or.inl rfl) | exact Or.inr (Or.inr rfl)) (hd : (x == ("__debug__" : Str)) = false := by decide)
    (hcd : (x == ("__classdict__" : Str)) = false := by decide) : DE X cm (.Call (.Attribute (.Name x px1) "clear" apos) [] [] pos) (tBM0 X.K "dict" rDClear (tVar i)) (mclr i) := ⟨pe_dclear (pe_var hN hv hd hcd) hbase hline, fun F H σ env O d env' Q s e k => by
  unfold mclr at e
  split at e
  · rename_i ks q
    cases e
    obtain ⟨u, eu, ow⟩ := s.at_ i _ q
    cases ow with
    | fd ow => cases ow with
      | @dik p kvs _ _ h1 h2 h3 z =>
        obtain ⟨s2, g2⟩ := s.write (p := p) (u := .dK []) q eu z (.fd (.dik (ks := []) (kvs := []) upd_same rfl .nil z))
        exact ⟨_, eu, tyV_d h1, p, kvs, rfl, rfl, h1, k F _ .non O g2 s2 .non⟩
  · cases e⟩
/-! ### d.get(k) -/
def pdg1 (fx : P Fd) (fb : P D) : P D := fun env => (fx env).bind fun x => (fb env).bind fun k => (dgetF x k).map fun r => r.getD .non
theorem isD_of {K : PySem.W.Frag} {cm : Cm} {F H : Hp} {v : V} {x : Fd} {S : Rg} {k : D} {r : Option D} (ow : OwF K cm F H v x S) (fh : SmH F H) (e : dgetF x k = some r) : ∃ a, v = .ref a ∧ IsD H a := by
  cases ow with
  | val rr =>
    cases rr <;> try (cases e; done)
    · exact ⟨_, rfl, .inl ⟨_, .of (fh.at (by assumption))⟩⟩
    · exact ⟨_, rfl, .inr ⟨_, .of (fh.at (by assumption))⟩⟩
    · exact ⟨_, rfl, .inl ⟨_, fh.rd (by assumption)⟩⟩
    · exact ⟨_, rfl, .inr ⟨_, fh.rd (by assumption)⟩⟩
  | lst => cases e
  | dik h1 h2 h3 z => exact ⟨_, rfl, .inl ⟨_, .of h1⟩⟩
  | dit h1 h2 h3 z => exact ⟨_, rfl, .inr ⟨_, .of h1⟩⟩
theorem dp_dget1 (hu : X.A.units + 1 < cLine) (ho : DX X cm a ta fx) (hi : DP X cm b tb fb) (m : M1 X a "get" apos b pos := by exact ⟨rfl, rfl, rfl, rfl⟩) : DP X cm (.Call (.Attribute a "get" apos) [b] [] pos) (tDGet1 ta tb) (pdg1 fx fb) := ⟨pe_dget1 hu ho.pe hi.pe m, fun F H σ env O d Q s e k => by
  obtain ⟨x, e1, e⟩ := bind_some e
  obtain ⟨y, e2, e⟩ := bind_some e
  obtain ⟨r, e3, rfl⟩ := map_some e
  refine ho.sm F H σ env O x _ s e1 fun v S ow => ?_
  obtain ⟨a0, rfl, isd⟩ := isD_of ow s.fh e3
  refine ⟨a0, rfl, isd, hi.sm F H σ env O y _ s e2 fun w rk => ?_⟩
  obtain ⟨q, o, eq, g, i1, i2⟩ := dget_at ow s.fh rk e3
  cases eq
  refine ⟨o, g, ?_⟩
  cases r with
  | none =>
    cases o with
    | none => exact k _ .non
    | some _ => cases i1
  | some d' =>
    obtain ⟨u, rfl, ru⟩ := i2 d' rfl
    exact k _ ru⟩
end
/-! ### [x.get(k) == y[k] for k in y] -/
def dikF : Fd → Option (List (L2.Key × D))
  | .dik ks => some ks
  | .val (.dik ks) => some ks
  | _ => none
def eqKI (a b : D) : Option D := match a, b with
  | .int i, .int j => eqD (.int i) (.int j)
  | .non, .int j => eqD .non (.int j)
  | _, _ => none
theorem ite_opt {α : Type} {c : Prop} [Decidable c] {o : Option α} {b : α} (h : (if c then o else none) = some b) : c ∧ o = some b := by
  by_cases q : c
  · rw [if_pos q] at h; exact ⟨q, h⟩
  · rw [if_neg q] at h; cases h
def keysEq (ls ks0 : List (L2.Key × D)) : List (L2.Key × D) → Option (List D)
  | [] => some []
  | p :: r => (dget ks0 p.1).bind fun v => (eqKI ((dget ls p.1).getD .non) v).bind fun b => (keysEq ls ks0 r).map (b :: ·)
def mlcK (i j : Nat) : M Od := fun env => (px i env).bind fun x => (px j env).bind fun y => (dikF x).bind fun ls => (dikF y).bind fun ks => if ks.length < 16777216 then (keysEq ls ks ks).map fun bs => (.fd (.lst bs), env) else none
theorem keysEq_get {ls ks0 : List (L2.Key × D)} : ∀ {ks : List (L2.Key × D)} {bs : List D}, keysEq ls ks0 ks = some bs → bs.length = ks.length ∧ ∀ (i : Nat) (p : L2.Key × D), ks[i]? = some p → ∃ v b, dget ks0 p.1 = some v ∧ eqKI ((dget ls p.1).getD .non) v = some b ∧ bs[i]? = some b
  | [], bs, e => by cases e; exact ⟨rfl, fun i p h => by simp at h⟩
  | q :: r, bs, e => by
    unfold keysEq at e
    obtain ⟨v, e1, e⟩ := bind_some e
    obtain ⟨b, e2, e⟩ := bind_some e
    obtain ⟨bs', e3, rfl⟩ := map_some e
    obtain ⟨h1, h2⟩ := keysEq_get e3
    refine ⟨by simp [h1], fun i p h => ?_⟩
    cases i with
    | zero => simp at h; subst h; exact ⟨v, b, e1, e2, rfl⟩
    | succ i => simp at h; obtain ⟨v', b', a1, a2, a3⟩ := h2 i p h; exact ⟨v', b', a1, a2, by simpa using a3⟩
section
variable {K : PySem.W.Frag} {cm : Cm} {F H : Hp} {σ : L2.St} {env : Env} {O : Nat → Rg}
theorem OwF.atK {v : V} {x : Fd} {S : Rg} {ks : List (L2.Key × D)} (ow : OwF K cm F H v x S) (fh : SmH F H) (e : dikF x = some ks) : ∃ a kvs, v = .ref a ∧ H a = some (.dK kvs) ∧ kvs.map (·.1) = ks.map (·.1) ∧ RpA K cm F (kvs.map (·.2)) (ks.map (·.2)) := by
  unfold dikF at e
  split at e
  · cases e; cases ow with
    | dik h1 h2 h3 z => exact ⟨_, _, rfl, h1, h2, h3⟩
  · cases e; cases ow with
    | val r => cases r with
      | dik h1 h2 h3 => exact ⟨_, _, rfl, fh.at h1, h2, h3⟩
  · cases e
theorem px_at {i : Nat} {x : Fd} (s : Sts K cm F H σ env O) (e : px i env = some x) : ∃ v S, σ[i]? = some (some v) ∧ OwF K cm F H v x S := by
  unfold px at e
  split at e
  · rename_i xx q
    cases e
    obtain ⟨v, ev, ow⟩ := s.at_ i _ q
    cases ow with
    | fd ow => exact ⟨v, _, ev, ow⟩
  · cases e
/-- the heap has grown: nothing of one's own has changed -/
theorem Sts.grow {H' : Hp} (s : Sts K cm F H σ env O) (h : Same H H') : Sts K cm F H' σ env O :=
  ⟨s.fh.trans h, s.len, fun i x e => let ⟨v, e1, ow⟩ := s.at_ i x e; ⟨v, e1, ow.mono (Same.refl _) (fun q u e _ => h q u e) fun _ z => z⟩, fun i q z => let ⟨a, u, b⟩ := s.ow i q z; ⟨a, u, h _ _ b⟩, s.dj, s.mm.grow h⟩
theorem Ko.grown {Q : VK} {p : Addr} {vs : List V} {ds : List D} {H' : Hp} (k : Ko K cm F H σ O env (.fd (.lst ds)) Q) (s : Sts K cm F H σ env O) (h : Same H H') (hn : H p = none) (hp : H' p = some (.lst vs)) (r : RpA K cm F vs ds) : Q (.ref p) H' := by
  refine k F H' (.ref p) O (fun q => q = p) ⟨Same.refl _, fun q u e _ _ => h q u.1 e, fun q z => .inl z, fun q z => ?_, fun q z => ?_⟩ (s.grow h) (.fd (.lst hp r rfl)) fun q e => ?_
  · rcases z with z | z
    · subst z; exact .inr hn
    · exact .inl z
  · cases e : H q with
    | none => exact absurd e z
    | some u => rw [h _ _ e]; exact fun z => nomatch z
  · subst e
    refine ⟨s.fnone hn, ⟨⟨_, nt_l⟩, hp⟩, fun ⟨j, z⟩ => ?_⟩
    obtain ⟨_, u, b⟩ := s.ow j q z
    rw [hn] at b; cases b
end
theorem lockSame {H : Hp} {d : Addr} {od : Obj} {u : HO} {H' : Hp} (hd : H d = some u) (h : Same (upd H d (.frz od u)) H') : Same H (upd H' d u) := fun b o e => by
  by_cases hb : b = d
  · subst hb; rw [hd] at e; cases e; exact upd_same
  · rw [upd_ne hb]; exact h _ _ (by rw [upd_ne hb]; exact e)
theorem set_wipe1 {σ : L2.St} {kk : Nat} {x : Option V} : wipe ((wipe σ [kk]).set kk x) [kk] = wipe σ [kk] := by
  show ((List.set σ kk none).set kk x).set kk none = List.set σ kk none
  rw [List.set_set, List.set_set]
section
variable {X : Cx} {cm : Cm} {elt iter : Expr} {scope : Scope} {pos tpos : Pos} {K : PySem.W.Frag}
theorem sm_lcK {i j kk : Nat} (hi : i ≠ kk) (hj : j ≠ kk) (hkk : ∀ env : Env, True) : SmO X.K cm (tLockE (tLc (iKeys (tVar j)) (gName kk) tYes (tOp (rEqD X.K) (tDGet1 (tVar i) (tVar kk)) (tDGet (tVar j) (tVar kk))) [kk])) (fun env => if kk < env.length then mlcK i j env else none) := fun F H σ env O o env' Q s e k => by
  obtain ⟨hk, e⟩ := ite_opt e
  obtain ⟨x, e1, e⟩ := bind_some e
  obtain ⟨y, e2, e⟩ := bind_some e
  obtain ⟨ls, e3, e⟩ := bind_some e
  obtain ⟨ks, e4, e⟩ := bind_some e
  obtain ⟨hz, e⟩ := ite_opt e
  obtain ⟨bs, e5, e6⟩ := map_some e
  cases e6
  obtain ⟨v1, S1, ev1, ow1⟩ := px_at s e1
  obtain ⟨v2, S2, ev2, ow2⟩ := px_at s e2
  obtain ⟨p, lvs, rfl, hp, p2, p3⟩ := ow1.atK s.fh e3
  obtain ⟨d, kvs, rfl, hd, d2, d3⟩ := ow2.atK s.fh e4
  obtain ⟨bl, bg⟩ := keysEq_get e5
  have hkl : kvs.length = ks.length := by have := congrArg List.length d2; rwa [List.length_map, List.length_map] at this
  refine ⟨d, .dK kvs, hd, trivial, fun od => ?_⟩
  refine ⟨_, ev2, d, od, rfl, .inl ⟨kvs, upd_same, fun D hD => ?_⟩⟩
  have hDd : D ≠ d := fun h => by subst h; rw [upd_same] at hD; cases hD
  have hDn : H D = none := by rw [upd_ne hDd] at hD; exact hD
  refine lc_it walk_keys (Pv := fun n H' => Same (upd H d (.frz od (.dK kvs))) H' ∧ ∃ acc, H' D = some (.lst acc) ∧ acc.length = n ∧ RpA X.K cm F acc (bs.take n)) ⟨same_new hD, [], upd_same, rfl, .nil⟩ (fun n H' _ h => h.1 _ _ upd_same) ?_ ?_
  · rintro n x H2 H' hn ⟨sm, acc, ha, hl, ra⟩ ⟨rfl, ky, v, hkv, rfl⟩
    have hkp : (ks[n]?).map (·.1) = some ky := by
      have : (kvs.map (·.1))[n]? = some ky := by rw [List.getElem?_map, hkv]; rfl
      rw [d2, List.getElem?_map] at this
      exact this
    obtain ⟨pr, hpr, rfl⟩ := map_some hkp
    obtain ⟨dv, b, b1, b2, b3⟩ := bg n pr hpr
    have hlen : σ.length = env.length := s.len
    refine ⟨set_wipe1, ?_⟩
    unfold tYes
    dsimp only
    rw [if_pos rfl]
    have rk : ((wipe σ [kk]).set kk (some (kV pr.1)))[kk]? = some (some (kV pr.1)) :=
      List.getElem?_set_self (by rw [wipe_length, hlen]; exact hk)
    have ri : ((wipe σ [kk]).set kk (some (kV pr.1)))[i]? = some (some (.ref p)) := by
      rw [List.getElem?_set_ne (Ne.symm hi), wipe_out (by simpa using hi)]; exact ev1
    have rj : ((wipe σ [kk]).set kk (some (kV pr.1)))[j]? = some (some (.ref d)) := by
      rw [List.getElem?_set_ne (Ne.symm hj), wipe_out (by simpa using hj)]; exact ev2
    have rdp : Rd H' p (.dK lvs) := by
      by_cases hpd : p = d
      · subst hpd
        rw [hd] at hp; cases hp
        exact .inr ⟨od, sm _ _ upd_same⟩
      · exact .inl (sm _ _ (by rw [upd_ne hpd]; exact hp))
    obtain ⟨i1, i2⟩ := dget_rel pr.1 p2 p3
    obtain ⟨j1, j2⟩ := dget_rel pr.1 d2 d3
    obtain ⟨u, u1, u2⟩ := j2 _ b1
    refine ⟨_, ri, p, rfl, .inl ⟨lvs, rdp⟩, _, rk, valV lvs pr.1, .inl ⟨lvs, pr.1, rdp, rfl, rfl⟩, ?_⟩
    refine ⟨_, rj, _, rk, d, u, rfl, .inl ⟨kvs, pr.1, .inr ⟨od, sm _ _ upd_same⟩, rfl, u1.symm⟩, ?_⟩
    have rg : Rp X.K cm F ((valV lvs pr.1).getD .non) ((dget ls pr.1).getD .non) := by
      cases q : dget ls pr.1 with
      | none =>
        rw [q] at i1
        cases q2 : valV lvs pr.1 with
        | none => exact .non
        | some _ => rw [q2] at i1; cases i1
      | some dd =>
        obtain ⟨w, w1, w2⟩ := i2 _ q
        rw [w1]; exact w2
    have key : ∀ Q' : VK, (∀ w, Rp X.K cm F w b → Q' w H') → rEqD X.K ((valV lvs pr.1).getD .non) u H' Q' := fun Q' kq => by
      generalize (valV lvs pr.1).getD .non = w0 at rg ⊢
      unfold eqKI at b2
      split at b2
      · rename_i g1 g2 q1
        rw [q1] at rg
        cases u2
        cases rg
        exact pu_eq (K := X.K) (cm := cm) (fun _ => none) H' _ _ _ _ b Q' (.int _) (.int _) (fun _ _ z => by cases z) b2 fun w rw' => kq w (rw'.mono (fun _ _ z => by cases z))
      · rename_i g2 q1
        rw [q1] at rg
        cases u2
        cases rg
        exact pu_eq (K := X.K) (cm := cm) (fun _ => none) H' _ _ _ _ b Q' .non (.int _) (fun _ _ z => by cases z) b2 fun w rw' => kq w (rw'.mono (fun _ _ z => by cases z))
      · cases b2
    refine key _ fun w rw' => ⟨acc, ha, szlt (by omega), fun b0 o0 e0 => ?_, acc ++ [w], upd_same, by simp [hl], ?_⟩
    · have : b0 ≠ D := fun h => by subst h; rw [hD] at e0; cases e0
      rw [upd_ne this]; exact sm _ _ e0
    · rw [List.take_succ, b3]
      exact ra.app (.cons rw' .nil)
  · rintro H2 ⟨sm, acc, ha, hl, ra⟩
    refine ⟨sm _ _ upd_same, ?_⟩
    have hl2 : bs.take kvs.length = bs := List.take_of_length_le (by omega)
    rw [hl2] at ra
    exact k.grown s (lockSame hd sm) hDn (by rw [upd_ne hDd]; exact ha) ra
end
section
variable {X : Cx} {cm : Cm} {scope : Scope} {pos p1 p2 p3 p4 p5 p6 p7 p8 p9 : Pos} {x y z : Str}
def mlcKn (i j kk : Nat) : M Od := fun env => if kk < env.length then mlcK i j env else none
theorem do_lcK {i j kk : Nat} {py : Pos} (hi : i ≠ kk) (hj : j ≠ kk) (hN : X.N.Nodup) (ok : BlkOk X.N X.env.scope scope [(z, kk)])
    (hg : ∀ (s : Shared) (H : Hp) (C : Addr) (cl : List (Str × Addr)) (fp : List Addr), PG (X.blk s H scope (compEnvC scope cl C X.env) fp) (.Name z p1) (gName kk))
    (he : ∀ (s : Shared) (H : Hp) (C : Addr) (cl : List (Str × Addr)) (fp : List Addr), PE (X.blk s H scope (compEnvC scope cl C X.env) fp) (.Compare (.Call (.Attribute (.Name x p2) "get" p3) [.Name z p4] [] p5) [.Eq] [.Subscript (.Name y p6) (.Name z p7) p8] p9) (tOp (rEqD X.K) (tDGet1 (tVar i) (tVar kk)) (tDGet (tVar j) (tVar kk))))
    (hc : X.calm = true := by rfl) (hNj : X.N[j]? = some y := by rfl) (hvj : Vis X.env.scope y := by first | exact Or.inl rfl | exact Or.inr (Or.inl rfl) | exact Or.inr (Or.inr rfl)) (hdj : (y == ("__debug__" : Str)) = false := by decide)
    (hcdj : (y == ("__classdict__" : Str)) = false := by decide)
    (hs : ∀ v, foldedSetIterable (.Name y py) X.env v = pure v := by intro _; rfl) :
    DO X cm (.ListComp (.Compare (.Call (.Attribute (.Name x p2) "get" p3) [.Name z p4] [] p5) [.Eq] [.Subscript (.Name y p6) (.Name z p7) p8] p9) [⟨.Name z p1, .Name y py, [], 0⟩] scope pos) (tLockE (tLc (iKeys (tVar j)) (gName kk) tYes (tOp (rEqD X.K) (tDGet1 (tVar i) (tVar kk)) (tDGet (tVar j) (tVar kk))) [kk])) (mlcKn i j kk) :=
  ⟨pe_lock (pe_lc hc hN (pi_keys (pe_var hNj hvj hdj hcdj)) ok hg (fun _ _ _ _ _ => pts_nil) he hs), sm_lcK hi hj fun _ => trivial⟩
end
end DL

/-! The data layer: walks over a dict of one's own (keys, items); d.get(k, x); tuples that the heap holds. -/
namespace DL
open PySem PySem.Spec PyProof.Rows L2
section
variable {K : PySem.W.Frag} {cm : Cm} {F H : Hp} {σ : L2.St} {env : Env} {O : Nat → Rg}
/-- a tuple that stands in the heap as a datum -/
theorem Sts.tuple (s : Sts K cm F H σ env O) {q : Addr} {vs : List V} {ds : List D} (h : H q = some (.tup vs)) (r : RpA K cm F vs ds) : ∃ F', Sts K cm F' H σ env O ∧ Go (Un O) F H (Un O) F' H ∧ Rp K cm F' (.ref q) (.tup ds) := by
  cases hq : F q with
  | some u =>
    have e : F q = some (.tup vs) := by
      by_cases nx : NX u
      · have := s.fh.at hq nx
        rw [h] at this
        rw [hq, ← Option.some.inj this]
      · obtain ⟨n, ps, rfl⟩ : ∃ n ps, u = tagM n ps := by
          apply Classical.byContradiction
          intro z
          exact nx fun n ps e => z ⟨n, ps, e⟩
        obtain ⟨kvs, z, _⟩ := s.mm q n ps hq
        rw [h] at z; cases z
    exact ⟨F, s, Go.refl, .tup e r⟩
  | none =>
    have sm : Same F (upd F q (.tup vs)) := same_new hq
    refine ⟨upd F q (.tup vs), ⟨fun p u e => ?_, s.len, fun i o e => ?_, fun i p z => ?_, s.dj, s.mm.ext sm fun p n ps e => ?_⟩, ⟨sm, fun _ _ e _ _ => e, fun p z => ?_, fun p z => .inl z, fun _ z => z⟩, .tup upd_same (r.mono sm)⟩
    · by_cases c : p = q
      · subst c; rw [upd_same] at e; cases e; exact ⟨fun _ => h, _, h⟩
      · rw [upd_ne c] at e; exact s.fh _ _ e
    · obtain ⟨v, e1, ow⟩ := s.at_ i o e
      exact ⟨v, e1, ow.mono sm (fun _ _ e _ => e) fun _ z => z⟩
    · obtain ⟨a, u, b⟩ := s.ow i p z
      refine ⟨?_, u, b⟩
      rw [upd_ne (show p ≠ q from fun c => by subst c; rw [h] at b; exact u.2.1 _ (Option.some.inj b).symm)]
      exact a
    · by_cases c : p = q
      · subst c; rw [upd_same] at e; cases e
      · rw [upd_ne c] at e; exact e
    · by_cases c : p = q
      · subst c; exact .inr (.inr (.inr ⟨_, h, fun n => n.1 _ rfl⟩))
      · rw [upd_ne c] at z; exact .inl z
end
/-! ### the lock is taken away -/
section
variable {K : PySem.W.Frag} {cm : Cm} {F H : Hp} {d : Addr} {od : Obj} {u : HO}
theorem rd_unl (hd : F d = some (.frz od u)) {a : Addr} {w : HO} (hw : ∀ o x, w ≠ .frz o x) (h : L2.Rd F a w) : L2.Rd (upd F d u) a w := by
  by_cases c : a = d
  · subst c
    rcases h with h | ⟨o, h⟩
    · rw [hd] at h; exact (hw _ _ (Option.some.inj h).symm).elim
    · rw [hd] at h; cases h; exact .inl upd_same
  · unfold L2.Rd; rw [upd_ne c]; exact h
theorem at_unl (hd : F d = some (.frz od u)) {a : Addr} {w : HO} (h : F a = some w) (hw : ∀ o x, w ≠ .frz o x) : upd F d u a = some w := by
  rw [upd_ne (fun c => by subst c; rw [hd] at h; exact hw _ _ (Option.some.inj h).symm)]; exact h
mutual
theorem Rp.conv {F F' : Hp} (h1 : ∀ a w, F a = some w → (∀ o x, w ≠ .frz o x) → F' a = some w) (h2 : ∀ a w, L2.Rd F a w → (∀ o x, w ≠ .frz o x) → L2.Rd F' a w) : ∀ {v : V} {x : D}, Rp K cm F v x → Rp K cm F' v x
  | _, _, .non => .non
  | _, _, .bl b => .bl b
  | _, _, .int b => .int b
  | _, _, .str b => .str b
  | _, _, .cn b => .cn b
  | _, _, .lst h r => .lst (h1 _ _ h fun _ _ z => (nomatch z)) (RpA.conv h1 h2 r)
  | _, _, .scr h => .scr (h.elim (fun h => .inl (h2 _ _ h (fun _ _ z => (nomatch z)))) .inr)
  | _, _, .tup h r => .tup (h1 _ _ h fun _ _ z => (nomatch z)) (RpA.conv h1 h2 r)
  | _, _, .obj h c n r => .obj (h1 _ _ h fun _ _ z => (nomatch z)) c n (RpA.conv h1 h2 r)
  | _, _, .dik h n r => .dik (h1 _ _ h fun _ _ z => (nomatch z)) n (RpA.conv h1 h2 r)
  | _, _, .dit h n r => .dit (h1 _ _ h fun _ _ z => (nomatch z)) n (RpA.conv h1 h2 r)
  | _, _, .memo h => .memo (h1 _ _ h fun _ _ z => (nomatch z))
  | _, _, .lik h n r => .lik (h2 _ _ h (fun _ _ z => (nomatch z))) n (RpA.conv h1 h2 r)
  | _, _, .lit h n r => .lit (h2 _ _ h (fun _ _ z => (nomatch z))) n (RpA.conv h1 h2 r)
theorem RpA.conv {F F' : Hp} (h1 : ∀ a w, F a = some w → (∀ o x, w ≠ .frz o x) → F' a = some w) (h2 : ∀ a w, L2.Rd F a w → (∀ o x, w ≠ .frz o x) → L2.Rd F' a w) : ∀ {vs : List V} {ds : List D}, RpA K cm F vs ds → RpA K cm F' vs ds
  | _, _, .nil => .nil
  | _, _, .cons h r => .cons (Rp.conv h1 h2 h) (RpA.conv h1 h2 r)
end
theorem Rp.unl (hd : F d = some (.frz od u)) {v : V} {x : D} (r : Rp K cm F v x) : Rp K cm (upd F d u) v x := r.conv (fun _ _ h n => at_unl hd h n) fun _ _ h n => rd_unl hd n h
theorem RpA.unl (hd : F d = some (.frz od u)) {v : List V} {x : List D} (r : RpA K cm F v x) : RpA K cm (upd F d u) v x := r.conv (fun _ _ h n => at_unl hd h n) fun _ _ h n => rd_unl hd n h
variable {H' : Hp}
theorem OwF.unl (hd : F d = some (.frz od u)) {v : V} {x : Fd} {S : Rg} (h : OwF K cm F H v x S) (k : ∀ p u, H p = some u → S p → H' p = some u) : OwF K cm (upd F d u) H' v x S := by
  cases h with
  | val r => exact .val (r.unl hd)
  | lst h r z => exact .lst (k _ _ h z) (r.unl hd) z
  | dik h n r z => exact .dik (k _ _ h z) n (r.unl hd) z
  | dit h n r z => exact .dit (k _ _ h z) n (r.unl hd) z
theorem OwFs.unl (hd : F d = some (.frz od u)) {fs : List (Str × V)} {gs : List (Str × Fd)} {S : Rg} (h : OwFs K cm F H fs gs S) (k : ∀ p u, H p = some u → S p → H' p = some u) : OwFs K cm (L2.upd F d u) H' fs gs S := by
  induction h with
  | nil => exact .nil
  | cons h r dj a b ih => exact .cons (h.unl hd (fun p u q z => k p u q (a p z))) (ih (fun p u q z => k p u q (b p z))) dj a b
theorem LLs.unl (hd : F d = some (.frz od u)) {ps : List Addr} {xss : List (List D)} {S : Rg} (h : LLs K cm F H ps xss S) (k : ∀ p u, H p = some u → S p → H' p = some u) : LLs K cm (upd F d u) H' ps xss S := by
  induction h with
  | nil => exact .nil
  | cons h r z t ih => exact .cons (k _ _ h z) (r.unl hd) z (ih k)
theorem Ow.unl (hd : F d = some (.frz od u)) {v : V} {x : Od} {S : Rg} (h : Ow K cm F H v x S) (k : ∀ p u, H p = some u → S p → H' p = some u) : Ow K cm (upd F d u) H' v x S := by
  cases h with
  | fd r => exact .fd (r.unl hd k)
  | obj h c r n a z => exact .obj (k _ _ h z) c (r.unl hd fun p u q w => k p u q (a p w)) n a z
  | ll h r n z => exact .ll (k _ _ h z) (r.unl hd k) n z
variable {σ : L2.St} {env : Env} {O : Nat → Rg}
theorem keep_unl {R : Rg} (hd : F d = some (.frz od u)) (n : ∀ p, R p → F p = none) {o : HO} : ∀ p w, H p = some w → R p → upd H d o p = some w := fun p w e z => by
  rw [upd_ne (fun c => by subst c; have := n _ z; rw [hd] at this; cases this)]; exact e
theorem Sts.unl (s : Sts K cm F H σ env O) (hd : F d = some (.frz od u)) (hu : NX u) : Sts K cm (upd F d u) (upd H d u) σ env O := by
  have ne : ∀ {p : Addr}, F p = none → p ≠ d := fun h c => by subst c; rw [hd] at h; cases h
  refine ⟨fun p w e => ?_, s.len, fun i o e => ?_, fun i p z => ?_, s.dj, fun p n ps e => ?_⟩
  · by_cases c : p = d
    · subst c; rw [upd_same] at e; cases e; exact ⟨fun _ => upd_same, _, upd_same⟩
    · rw [upd_ne c] at e; rw [upd_ne c]; exact s.fh _ _ e
  · obtain ⟨v, e1, ow⟩ := s.at_ i o e
    exact ⟨v, e1, ow.unl hd (keep_unl hd fun p z => (s.ow i p z).1)⟩
  · obtain ⟨a, w, b⟩ := s.ow i p z
    exact ⟨by rw [upd_ne (ne a)]; exact a, w, by rw [upd_ne (ne a)]; exact b⟩
  · by_cases c : p = d
    · subst c; rw [upd_same] at e; exact (hu _ _ (Option.some.inj e)).elim
    · rw [upd_ne c] at e
      obtain ⟨kvs, a, b⟩ := s.mm p n ps e
      exact ⟨kvs, by rw [upd_ne c]; exact a, fun q hq => let ⟨x, x1, x2⟩ := b q hq; ⟨x, x1, x2.unl hd⟩⟩
theorem Go.unl {F0 H0 : Hp} {S S' : Rg} (g : Go S F0 H0 S' F H) (h0 : F0 d = none) (hs : S d) : Go S F0 H0 S' (upd F d u) (upd H d u) := by
  refine ⟨fun p w e => ?_, fun p w e f n => ?_, fun p z => ?_, g.ss, fun p z => ?_⟩
  · rw [upd_ne (fun c => by subst c; rw [h0] at e; cases e)]; exact g.ff p w e
  · rw [upd_ne (fun c => n (by rw [c]; exact hs))]; exact g.hh p w e f n
  · by_cases c : p = d
    · exact .inr (.inr (.inl (by rw [c]; exact hs)))
    · rw [upd_ne c] at z; exact g.fr p z
  · by_cases c : p = d
    · subst c; rw [upd_same]; exact fun z => nomatch z
    · rw [upd_ne c]; exact g.al p z
theorem New.unl {R : Rg} (n : New F H O R) (hd : F d = some (.frz od u)) : New (upd F d u) (upd H d u) O R := fun p z => by
  obtain ⟨a, ⟨w, b⟩, c⟩ := n p z
  have ne : p ≠ d := fun c => by subst c; rw [hd] at a; cases a
  exact ⟨by rw [upd_ne ne]; exact a, ⟨w, by rw [upd_ne ne]; exact b⟩, c⟩
/-- what a turn of a walk gives -/
def TurnD (K : PySem.W.Frag) (cm : Cm) (F0 H : Hp) (x : V) (H' : Hp) (d : D) : Prop :=
  (H' = H ∧ Rp K cm F0 x d) ∨ (∃ T vs es, x = .ref T ∧ H' = H ∧ H T = some (.tup vs) ∧ d = .tup es ∧ RpA K cm F0 vs es) ∨ ∃ T vs es, x = .ref T ∧ H T = none ∧ H' = upd H T (.tup vs) ∧ d = .tup es ∧ RpA K cm F0 vs es
theorem wk_turn3 {F0 : Hp} {x : V} {dd : D} (h : TurnD K cm F0 H x H' dd) (sm : Same F0 F) (s : Sts K cm F H σ env O) :
    ∃ F', Sts K cm F' H' σ env O ∧ Go (Un O) F H (Un O) F' H' ∧ Rp K cm F' x dd := by
  rcases h with ⟨rfl, r⟩ | ⟨T, vs, es, rfl, rfl, hT, rfl, r⟩ | ⟨T, vs, es, rfl, hT, rfl, rfl, r⟩
  · exact ⟨F, s, Go.refl, r.mono sm⟩
  · exact s.tuple hT (r.mono sm)
  · obtain ⟨s1, g1⟩ := s.alloc (o := .tup vs) hT
    exact ⟨_, s1, g1, .tup upd_same ((r.mono sm).mono (same_new (s.fnone hT)))⟩
end
def kD : L2.Key → D
  | .inl i => .int i
  | .inr x => .str x
theorem rp_k {K : PySem.W.Frag} {cm : Cm} {F : Hp} : ∀ k : L2.Key, Rp K cm F (kV k) (kD k)
  | .inl i => .int i
  | .inr x => .str x
theorem rpA_k {K : PySem.W.Frag} {cm : Cm} {F : Hp} : ∀ ks : List L2.Key, RpA K cm F (ks.map kV) (ks.map kD)
  | [] => .nil
  | k :: ks => .cons (rp_k k) (rpA_k ks)
/-! ### for k in d, for k, v in d.items(), d a dict of one's own in slot i -/
def gforK (i : Nat) (tg : Tg) (body : G) : G := fun env => match env[i]? with
  | some (some (.fd (.dit ks))) => forD tg body (ks.map fun q => .tup (q.1.map kD)) (env.set i (some (.fd (.val (.lit ks)))))
  | some (some (.fd (.dik ks))) => forD tg body (ks.map fun q => kD q.1) (env.set i (some (.fd (.val (.lik ks)))))
  | _ => none
def gforI (i : Nat) (tg : Tg) (body : G) : G := fun env => match env[i]? with
  | some (some (.fd (.dik ks))) => forD tg body (ks.map fun q => .tup [kD q.1, q.2]) (env.set i (some (.fd (.val (.lik ks)))))
  | _ => none
section
variable {X : Cx} {cm : Cm} {B : List Nat} {tg : Expr} {pos px : Pos} {x : Str}
/-- slot i is locked -/
theorem Sts.lock {K : PySem.W.Frag} {F H : Hp} {σ : L2.St} {env : Env} {O : Nat → Rg} {i : Nat} {o : Od} {d : Addr} {u : HO} {od : Obj} {x : D} (s : Sts K cm F H σ env O) (q : env[i]? = some (some o)) (ev : σ[i]? = some (some (.ref d))) (z : O i d) (r : Rp K cm (upd F d (.frz od u)) (.ref d) x) :
    ∃ O1, Sts K cm (upd F d (.frz od u)) (upd H d (.frz od u)) σ (env.set i (some (.fd (.val x)))) O1 ∧ Go (Un O) F H (Un O1) (upd F d (.frz od u)) (upd H d (.frz od u)) := by
  have hF := (s.ow i d z).1
  have sm : Same F (upd F d (.frz od u)) := same_new hF
  have hlt : i < env.length := (List.getElem?_eq_some_iff.mp q).1
  refine ⟨fun j p => j ≠ i ∧ O j p, ⟨fun p w e => ?_, by rw [List.length_set]; exact s.len, fun j y e => ?_, fun j p w => ?_, fun j l p a b => s.dj j l p a.2 b.2, (s.mm.upd hF).ext sm fun p n ps e => ?_⟩, ⟨sm, fun p w e f n => ?_, fun p e => ?_, fun p ⟨j, e⟩ => .inl ⟨j, e.2⟩, fun p e => ?_⟩⟩
  · by_cases c : p = d
    · subst c; rw [upd_same] at e ⊢; exact ⟨fun _ => e, _, rfl⟩
    · rw [upd_ne c] at e ⊢; exact s.fh _ _ e
  · by_cases hj : j = i
    · subst hj
      rw [List.getElem?_set_self hlt] at e
      cases e
      exact ⟨_, ev, .fd (.val r)⟩
    · rw [List.getElem?_set_ne (Ne.symm hj)] at e
      obtain ⟨v, e2, ow2⟩ := s.at_ j y e
      refine ⟨v, e2, ow2.mono sm (fun p w e y => ?_) fun p y => ⟨hj, y⟩⟩
      rw [upd_ne (fun c => hj (s.dj j i p y (by rw [c]; exact z)))]; exact e
  · obtain ⟨a, y, b⟩ := s.ow j p w.2
    have ne : p ≠ d := fun c => w.1 (s.dj j i p w.2 (by rw [c]; exact z))
    exact ⟨by rw [upd_ne ne]; exact a, y, by rw [upd_ne ne]; exact b⟩
  · by_cases c : p = d
    · subst c; rw [upd_same] at e; cases e
    · rw [upd_ne c] at e; exact e
  · rw [upd_ne (fun c => n ⟨i, by rw [c]; exact z⟩)]; exact e
  · by_cases c : p = d
    · exact .inr (.inr (.inl ⟨i, by rw [c]; exact z⟩))
    · rw [upd_ne c] at e; exact .inl e
  · by_cases c : p = d
    · subst c; rw [upd_same]; exact fun z => nomatch z
    · rw [upd_ne c]; exact e
theorem sms_lock {K : PySem.W.Frag} {g : TG} {tgd : Tg} {t : TS} {gb : G} (hg : SmG K cm B g tgd) (hb : SmS K cm B t gb) {F H : Hp} {σ : L2.St} {env : Env} {O : Nat → Rg} {i : Nat} {o : Od} {d : Addr} {u : HO} {x : D} {ds : List D} {out : Out} {env' : Env} {Dn : Ends} {od : Obj} {J : It} {Y : Nat → Hp → V → Hp → Prop}
    (s : Sts K cm F H σ env O) (q : env[i]? = some (some o)) (ev : σ[i]? = some (some (.ref d))) (z : O i d) (nu : NX u)
    (r : Rp K cm (upd F d (.frz od u)) (.ref d) x) (W : Walk J ds.length (fun H => H d = some (.frz od u)) Y) (hY : ∀ i H x H' dd, ds[i]? = some dd → Y i H x H' → TurnD K cm (upd F d (.frz od u)) H x H' dd)
    (e : forD tgd gb ds (env.set i (some (.fd (.val x)))) = some (out, env')) (k : EndP K cm B Dn F H σ O env' out) :
    ∃ W : Nat → Nat → L2.St → Hp → Prop, (∃ m, W 0 m σ (upd H d (.frz od u))) ∧ ∀ i m σ H, W i m σ H →
      (J.stop i H ∧ (H d = some (.frz od u) ∧ Dn.nx σ (upd H d u))) ∨ (J.go i H ∧ ∃ N : L2.St → Hp → Prop, (∀ σ' H', N σ' H' → ∃ m', m' < m ∧ W (i + 1) m' σ' H') ∧ ∀ x H', J.yld i H x H' → g x σ H' fun σ2 H2 => t ⟨N, fun v H' => H' d = some (.frz od u) ∧ Dn.rt v (upd H' d u), fun σ H' => H' d = some (.frz od u) ∧ Dn.nx σ (upd H' d u), N⟩ σ2 H2) := by
  have hF := (s.ow i d z).1
  obtain ⟨O1, s1, g1⟩ := s.lock (od := od) (u := u) q ev z r
  have hd1 : upd F d (.frz od u) d = some (.frz od u) := upd_same
  have fin : ∀ {F5 H5 : Hp} {σ5 : L2.St} {env5 : Env} {O5 : Nat → Rg}, Same (upd F d (.frz od u)) F5 → Sts K cm F5 H5 σ5 env5 O5 → F5 d = some (.frz od u) ∧ H5 d = some (.frz od u) := fun sm s5 => ⟨sm _ _ hd1, s5.fh.at (sm _ _ hd1)⟩
  refine for_it W (D := ⟨fun σ H' => H' d = some (.frz od u) ∧ Dn.nx σ (upd H' d u), fun v H' => H' d = some (.frz od u) ∧ Dn.rt v (upd H' d u), fun σ H' => H' d = some (.frz od u) ∧ Dn.bk σ (upd H' d u), fun σ H' => H' d = some (.frz od u) ∧ Dn.ct σ (upd H' d u)⟩)
    (fun j σ2 H2 => ∃ F2 env2 O2, Go (Un O) F H (Un O2) F2 H2 ∧ Same (upd F d (.frz od u)) F2 ∧ Sts K cm F2 H2 σ2 env2 O2 ∧ Bor B σ σ2 ∧ forD tgd gb (ds.drop j) env2 = some (out, env'))
    ⟨_, _, O1, g1, Same.refl _, s1, .refl, e⟩ (fun j σ2 H2 _ ⟨F2, env2, O2, _, sm, s2, _, _⟩ => (fin sm s2).2) ?_ ?_
  · rintro j x σ2 H2 H' hi2 ⟨F2, env2, O2, g2, sm, s2, b2, e2⟩ hy
    have hd : ds[j]? = some ds[j] := List.getElem?_eq_getElem hi2
    rw [List.drop_eq_getElem_cons hi2] at e2
    unfold forD at e2
    obtain ⟨env3, e3, e2⟩ := bind_some e2
    obtain ⟨⟨o4, env4⟩, e4, e2⟩ := bind_some e2
    obtain ⟨F3, s3, g3, r3⟩ := wk_turn3 (hY j H2 x H' ds[j] hd hy) sm s2
    refine hg F3 H' σ2 env2 O2 x _ env3 _ s3 r3 e3 fun σ4 s4 b4 => ?_
    refine hb F3 H' σ4 env3 O2 o4 env4 _ s4 e4 ?_
    have gg := g2.trans g3
    have bb := b2.trans b4
    have sm3 := sm.trans g3.ff
    cases o4 with
    | nx => exact fun F5 H5 σ5 O5 g5 s5 b5 => ⟨F5, env4, O5, gg.trans g5, sm3.trans g5.ff, s5, bb.trans b5, e2⟩
    | ct => exact fun F5 H5 σ5 O5 g5 s5 b5 => ⟨F5, env4, O5, gg.trans g5, sm3.trans g5.ff, s5, bb.trans b5, e2⟩
    | bk =>
      have e2 : some (Out.nx, env4) = some (out, env') := e2
      cases e2
      intro F5 H5 σ5 O5 g5 s5 b5
      obtain ⟨f1, f2⟩ := fin (sm3.trans g5.ff) s5
      exact ⟨f2, k _ _ σ5 O5 ((gg.trans g5).unl hF ⟨i, z⟩) (s5.unl f1 nu) (bb.trans b5)⟩
    | rt o =>
      have e2 : some (Out.rt o, env4) = some (out, env') := e2
      cases e2
      intro F5 H5 σ5 v O5 R g5 s5 b5 ow n
      obtain ⟨f1, f2⟩ := fin (sm3.trans g5.ff) s5
      exact ⟨f2, k _ _ σ5 v O5 R ((gg.trans g5).unl hF ⟨i, z⟩) (s5.unl f1 nu) (bb.trans b5) (ow.unl f1 (keep_unl f1 fun p z => (n p z).1)) (n.unl f1)⟩
  · rintro σ2 H2 ⟨F2, env2, O2, g2, sm, s2, b2, e2⟩
    rw [List.drop_length] at e2
    cases e2
    obtain ⟨f1, f2⟩ := fin sm s2
    exact ⟨f2, k _ _ σ2 O2 (g2.unl hF ⟨i, z⟩) (s2.unl f1 nu) b2⟩
theorem keys_at {K : PySem.W.Frag} {F : Hp} {κ : Type} {kvs : List (κ × V)} {ks : List (κ × D)} (n : kvs.map (·.1) = ks.map (·.1)) (r : RpA K cm F (kvs.map (·.2)) (ks.map (·.2))) : ks.length = kvs.length ∧ ∀ {j : Nat} {k : κ} {v : V}, kvs[j]? = some (k, v) → ∃ d, ks[j]? = some (k, d) ∧ Rp K cm F v d := by
  have hl : kvs.length = ks.length := by have := congrArg List.length n; rwa [List.length_map, List.length_map] at this
  refine ⟨hl.symm, fun {j k v} e => ?_⟩
  obtain ⟨d, e1, e2⟩ := r.get (i := j) (v := v) (by rw [List.getElem?_map, e]; rfl)
  rw [List.getElem?_map] at e1
  obtain ⟨⟨k', d'⟩, e3, rfl⟩ := map_some e1
  have e4 : (kvs.map (·.1))[j]? = (ks.map (·.1))[j]? := by rw [n]
  rw [List.getElem?_map, List.getElem?_map, e, e3] at e4
  cases e4
  exact ⟨_, e3, e2⟩
theorem ds_forK {g : TG} {tgd : Tg} {t : TS} {body : List Stmt} {gb : G} (i : Nat) (hg : DG X cm B tg g tgd) (hb : DSs X cm B body t gb) (hN : X.N[i]? = some x := by rfl) (hv : Vis X.env.scope x := by first | exact Or.inl rfl | exact Or.inr (Or.inl rfl) | exact Or.inr (Or.inr rfl)) (hd : (x == ("__debug__" : Str)) = false := by decide) (hcd : (x == ("__classdict__" : Str)) = false := by decide)
    (hc : X.calm = true := by rfl) (hp : PassesOwn (model X.prog X.w) X.A X.env X.xe := by exact PassesOwn.never) (hs : ∀ y, foldedSetIterable (.Name x px) X.env y = pure y := by intro _; rfl) :
    DS X cm B (.For tg (.Name x px) body [] pos) (tLock (tFor (iKeys (tVar i)) g t)) (gforK i tgd gb) := ⟨ps_lock (ps_for hp hc (pi_keys (pe_var hN hv hd hcd)) hg.pe hb.pe hs), fun F H σ env O out env' Dn s e k => by
  unfold gforK at e
  split at e
  · rename_i ks q
    obtain ⟨v, ev, ow⟩ := s.at_ i _ q
    cases ow with
    | fd ow =>
      cases ow with
      | @dit d kvs _ _ h1 h2 h3 z =>
        obtain ⟨kl, ka⟩ := keys_at h2 h3
        refine ⟨d, .dT kvs, h1, trivial, fun od => ⟨_, ev, d, od, rfl, .inr ⟨kvs, upd_same, ?_⟩⟩⟩
        have hF := (s.ow i d z).1
        refine sms_lock hg.sm hb.sm (x := .lit ks) (ds := ks.map fun q => .tup (q.1.map kD)) s q ev z (fun _ _ z => (nomatch z)) (.lit (.inr ⟨od, upd_same⟩) h2 (h3.mono (same_new hF))) (by rw [List.length_map, kl]; exact walk_keysT) (fun j H x H' dd hdd hy => ?_) e k
        obtain ⟨rfl, k', v', q', i1, rfl, i2⟩ := hy
        obtain ⟨d', i3, _⟩ := ka i1
        rw [List.getElem?_map, i3] at hdd
        cases hdd
        exact .inr (.inl ⟨q', _, _, rfl, rfl, i2, rfl, rpA_k _⟩)
  · rename_i ks q
    obtain ⟨v, ev, ow⟩ := s.at_ i _ q
    cases ow with
    | fd ow =>
      cases ow with
      | @dik d kvs _ _ h1 h2 h3 z =>
        obtain ⟨kl, ka⟩ := keys_at h2 h3
        refine ⟨d, .dK kvs, h1, trivial, fun od => ⟨_, ev, d, od, rfl, .inl ⟨kvs, upd_same, ?_⟩⟩⟩
        have hF := (s.ow i d z).1
        refine sms_lock hg.sm hb.sm (x := .lik ks) (ds := ks.map fun q => kD q.1) s q ev z (fun _ _ z => (nomatch z)) (.lik (.inr ⟨od, upd_same⟩) h2 (h3.mono (same_new hF))) (by rw [List.length_map, kl]; exact walk_keys) (fun j H x H' dd hdd hy => ?_) e k
        obtain ⟨rfl, k', v', i1, rfl⟩ := hy
        obtain ⟨d', i3, _⟩ := ka i1
        rw [List.getElem?_map, i3] at hdd
        cases hdd
        exact .inl ⟨rfl, rp_k _⟩
  · cases e⟩
theorem ds_forI {elts : List Expr} {kk : Nat} {tpos ap cp : Pos} {g : TG} {tgd : Tg} {t : TS} {body : List Stmt} {gb : G} (i : Nat) (hg : DG X cm B (.Tuple elts kk tpos) g tgd) (hb : DSs X cm B body t gb) (hN : X.N[i]? = some x := by rfl) (hv : Vis X.env.scope x := by first | exact Or.inl rfl | exact Or.inr (Or.inl rfl) | exact Or.inr (Or.inr rfl)) (hd : (x == ("__debug__" : Str)) = false := by decide) (hcd : (x == ("__classdict__" : Str)) = false := by decide)
    (hbase : attributeBase (.Name x px) "items" X.env (eval (.Name x px) X.env) = eval (.Name x px) X.env := by rfl) (hline : (ap.endLine == cp.line) = true := by rfl)
    (hc : X.calm = true := by rfl) (hp : PassesOwn (model X.prog X.w) X.A X.env X.xe := by exact PassesOwn.never) (hs : ∀ y, foldedSetIterable (.Call (.Attribute (.Name x px) "items" ap) [] [] cp) X.env y = pure y := by intro _; rfl) :
    DS X cm B (.For (.Tuple elts kk tpos) (.Call (.Attribute (.Name x px) "items" ap) [] [] cp) body [] pos) (tLock (tFor (iItems (tVar i)) g t)) (gforI i tgd gb) := ⟨ps_lock (ps_for hp hc (pi_items (pe_var hN hv hd hcd) hbase hline) hg.pe hb.pe hs), fun F H σ env O out env' Dn s e k => by
  unfold gforI at e
  split at e
  · rename_i ks q
    obtain ⟨v, ev, ow⟩ := s.at_ i _ q
    cases ow with
    | fd ow =>
      cases ow with
      | @dik d kvs _ _ h1 h2 h3 z =>
        obtain ⟨kl, ka⟩ := keys_at h2 h3
        refine ⟨d, .dK kvs, h1, trivial, fun od => ⟨_, ev, d, od, kvs, rfl, upd_same, ?_⟩⟩
        have hF := (s.ow i d z).1
        have sm := same_new (o := .frz od (.dK kvs)) hF
        refine sms_lock hg.sm hb.sm (x := .lik ks) (ds := ks.map fun q => .tup [kD q.1, q.2]) s q ev z (fun _ _ z => (nomatch z)) (.lik (.inr ⟨od, upd_same⟩) h2 (h3.mono sm)) (by rw [List.length_map, kl]; exact walk_items) (fun j H x H' dd hdd hy => ?_) e k
        obtain ⟨T, v1, v2, rfl, hT, rfl, i1, i2⟩ := hy
        obtain ⟨⟨k', v'⟩, i3, rfl⟩ := map_some i1
        dsimp only at i2
        rw [i3] at i2
        cases i2
        obtain ⟨d', i4, r4⟩ := ka i3
        rw [List.getElem?_map, i4] at hdd
        cases hdd
        exact .inr (.inr ⟨T, _, _, rfl, hT, rfl, rfl, .cons (rp_k _) (.cons (r4.mono sm) .nil)⟩)
  · cases e⟩
end
/-! ### d.get(k, x), d in slot i -/
def isDF : Fd → Bool
  | .dik _ => true
  | .dit _ => true
  | .val (.dik _) => true
  | .val (.dit _) => true
  | .val (.lik _) => true
  | .val (.lit _) => true
  | _ => false
theorem isD_F {K : PySem.W.Frag} {cm : Cm} {F H : Hp} {v : V} {x : Fd} {S : Rg} (ow : OwF K cm F H v x S) (fh : SmH F H) (e : isDF x = true) : ∃ a, v = .ref a ∧ IsD H a := by
  cases ow with
  | val rr =>
    cases rr <;> try (cases e; done)
    · exact ⟨_, rfl, .inl ⟨_, .of (fh.at (by assumption))⟩⟩
    · exact ⟨_, rfl, .inr ⟨_, .of (fh.at (by assumption))⟩⟩
    · exact ⟨_, rfl, .inl ⟨_, fh.rd (by assumption)⟩⟩
    · exact ⟨_, rfl, .inr ⟨_, fh.rd (by assumption)⟩⟩
  | lst => cases e
  | dik h1 h2 h3 z => exact ⟨_, rfl, .inl ⟨_, .of h1⟩⟩
  | dit h1 h2 h3 z => exact ⟨_, rfl, .inr ⟨_, .of h1⟩⟩
def mdg2 (i : Nat) (fb fc : M D) : M D := fun env => (px i env).bind fun x0 => if isDF x0 = true then mb fb (fun k => mb fc fun z => pu fun env => (px i env).bind fun x => (dgetF x k).map fun r => r.getD z) env else none
section
variable {X : Cx} {cm : Cm} {b c : Expr} {tb tc : TE} {pos apos px' : Pos} {x : Str} {fb fc : M D}
theorem de_dget2 (i : Nat) (hu : X.A.units + 1 < cLine) (hi : DE X cm b tb fb) (hx : DE X cm c tc fc) (hN : X.N[i]? = some x := by rfl) (hv : Vis X.env.scope x := by first | exact Or.inl rfl | exact Or.inr (Or.inl rfl) | exact Or.inr (Or.inr rfl)) (hd : (x == ("__debug__" : Str)) = false := by decide) (hcd : (x == ("__classdict__" : Str)) = false := by decide)
    (m : M2 X (.Name x px') "get" apos b c pos := by exact ⟨rfl, rfl, rfl, rfl⟩) : DE X cm (.Call (.Attribute (.Name x px') "get" apos) [b, c] [] pos) (tDGet2 (tVar i) tb tc) (mdg2 i fb fc) := ⟨pe_dget2 hu (pe_var hN hv hd hcd) hi.pe hx.pe m, fun F H σ env O d env' Q s e k => by
  obtain ⟨x0, e0, e⟩ := bind_some e
  obtain ⟨hD, e⟩ := ite_opt e
  obtain ⟨y, env1, e1, e⟩ := mb_some e
  obtain ⟨z, env2, e2, e⟩ := mb_some e
  obtain ⟨d', e3, e9⟩ := map_some e
  cases e9
  obtain ⟨x1, e4, e⟩ := bind_some e3
  obtain ⟨r, e5, rfl⟩ := map_some e
  obtain ⟨v0, S0, ev0, ow0⟩ := px_at s e0
  obtain ⟨a0, rfl, isd⟩ := isD_F ow0 s.fh hD
  refine ⟨_, ev0, a0, rfl, isd, hi.sm F H σ env O y _ _ s e1 fun F1 H1 w O1 g1 s1 rk => hx.sm F1 H1 σ env1 O1 z _ _ s1 e2 fun F2 H2 w2 O2 g2 s2 rz => ?_⟩
  obtain ⟨v1, S1, ev1, ow1⟩ := px_at s2 e4
  rw [ev0] at ev1
  cases ev1
  obtain ⟨q, o, eq, g, i1, i2⟩ := dget_at ow1 s2.fh (rk.mono g2.ff) e5
  cases eq
  refine ⟨o, g, ?_⟩
  cases r with
  | none =>
    cases o with
    | none => exact k _ _ _ _ (g1.trans g2) s2 rz
    | some _ => cases i1
  | some d' =>
    obtain ⟨u, rfl, ru⟩ := i2 d' rfl
    exact k _ _ _ _ (g1.trans g2) s2 ru⟩
end
end DL

/-! The plain layer: meanings are evaluated step by step. -/
namespace DL
open PySem PySem.Spec PyProof.Rows L2

abbrev vv (d : D) : Option Od := some (.fd (.val d))
abbrev vl (ds : List D) : Option Od := some (.fd (.lst ds))
/-! ### continuations -/
section
variable {α β : Type}
def mbk (o : Option (α × Env)) (g : α → M β) : Option (β × Env) := match o with
  | some (a, e) => g a e
  | none => none
theorem mbk_some {a : α} {e : Env} {g : α → M β} : mbk (some (a, e)) g = g a e := rfl
theorem mb_k {f : M α} {g : α → M β} {env : Env} : mb f g env = mbk (f env) g := by
  unfold mb mbk
  cases f env <;> rfl
theorem mo_s {a : α} {env : Env} : mo (some a) env = some (a, env) := rfl
theorem mr_s {a : α} {env : Env} : mr a env = some (a, env) := rfl
theorem pu_s {f : P D} {env : Env} : pu f env = mo (f env) env := rfl
theorem put_s {f : P Bool} {env : Env} : put f env = mo (f env) env := rfl
theorem ite_e {c : Prop} [Decidable c] {f g : M α} {env : Env} : (if c then f else g) env = if c then f env else g env := by split <;> rfl
theorem iteG_e {c : Prop} [Decidable c] {f g : G} {env : Env} : (if c then f else g) env = if c then f env else g env := by split <;> rfl
theorem mbk_ite {c : Prop} [Decidable c] {x y : Option (α × Env)} {g : α → M β} : mbk (if c then x else y) g = if c then mbk x g else mbk y g := by split <;> rfl
theorem mif_k {c : M Bool} {f g : M α} {env : Env} : mif c f g env = mbk (c env) fun k => if k = true then f else g := mb_k
end
section
variable {env : Env} {f g fa fb fc : M D} {t u : M Bool} {l : M (List D)} {h : M Od}
theorem tst_k : tst f env = mbk (f env) fun d => mo (toB d) := mb_k
theorem m1_k {p : D → Option D} : m1 p fa env = mbk (fa env) fun x => mo (p x) := mb_k
theorem m2_k {p : D → D → Option D} : m2 p fa fb env = mbk (fa env) fun x => mb fb fun y => mo (p x y) := mb_k
theorem mch_k {p q : D → D → Option D} : mch p q fa fb fc env = mbk (fa env) fun x => mb fb fun y => mb (mo ((p x y).bind toB)) fun k => if k = true then mb fc fun z => mo (q y z) else mr (.bl false) := mb_k
def fzk (o : Option (Od × Env)) : Option (D × Env) := o.map fun q => (q.1.frz, q.2)
theorem fz_k : fz h env = fzk (h env) := rfl
theorem fzk_s {o : Od} {e : Env} : fzk (some (o, e)) = some (o.frz, e) := rfl
def ovk (o : Option (D × Env)) : Option (Od × Env) := o.map fun q => (.fd (.val q.1), q.2)
theorem ov_k : ov f env = ovk (f env) := rfl
theorem ovk_s {o : D} {e : Env} : ovk (some (o, e)) = some (.fd (.val o), e) := rfl
theorem frz_v {d : D} : (Od.fd (.val d)).frz = d := rfl
theorem frz_l {d : List D} : (Od.fd (.lst d)).frz = .lst d := rfl
theorem frz_k {d : List (L2.Key × D)} : (Od.fd (.dik d)).frz = .dik d := rfl
theorem frz_t {d : List (List L2.Key × D)} : (Od.fd (.dit d)).frz = .dit d := rfl
theorem frz_o {c : Nat} {fs : List (Str × Fd)} : (Od.obj c fs).frz = .obj c (fs.map fun q => (q.1, q.2.frz)) := rfl
theorem frzF_v {d : D} : (Fd.val d).frz = d := rfl
theorem frzF_l {d : List D} : (Fd.lst d).frz = .lst d := rfl
theorem frzF_k {d : List (L2.Key × D)} : (Fd.dik d).frz = .dik d := rfl
theorem frzF_t {d : List (List L2.Key × D)} : (Fd.dit d).frz = .dit d := rfl
theorem vand_k : vand f g env = mbk (tst f env) fun k => if k = true then g else mr (.bl false) := mb_k
theorem vor_k : vor f g env = mbk (tst f env) fun k => if k = true then mr (.bl true) else g := mb_k
theorem vnot_k : vnot f env = mbk (tst f env) fun k => mr (.bl (!k)) := mb_k
theorem mand_k : mand t u env = mbk (t env) fun k => if k = true then u else mr false := mb_k
theorem mor_k : mor t u env = mbk (t env) fun k => if k = true then mr true else u := mb_k
theorem mnot_k : mnot t env = mbk (t env) fun k => mr (!k) := mb_k
theorem anil_s : anil env = some ([], env) := rfl
theorem acons_k : acons f l env = mbk (f env) fun d => mb l fun ds => mr (d :: ds) := mb_k
theorem mtup_k : mtup l env = mbk (l env) fun ds => mo (szc ds.length (.tup ds)) := mb_k
theorem mlst_k : mlst l env = mbk (l env) fun ds => mo (szc ds.length (.fd (.lst ds))) := mb_k
theorem mcb_k {p : List D → Option Od} : mcb p l env = mbk (l env) fun ds => mo (p ds) := mb_k
theorem mss_k : mss f env = mbk (f env) fun d => mo (ssetB [d]) := mb_k
theorem mix_k : mix fa fb env = mbk (fa env) fun x => mb fb fun i => mo (ixF (.val x) i) := mb_k
theorem minx_k {neg : Bool} {fx : P Fd} : minx neg fa fx env = mbk (fa env) fun a => pu fun env => (fx env).bind fun x => inD neg a x := mb_k
def mslk (fl fh : P (Option Int)) (x : D) : M D := fun env => (fl env).bind fun l => (fh env).bind fun h => mo (slD x l h) env
theorem msl_k {fl fh : P (Option Int)} : msl fa fl fh env = mbk (fa env) fun x => mslk fl fh x := mb_k
theorem mslk_s {fl fh : P (Option Int)} {x : D} : mslk fl fh x env = (fl env).bind fun l => (fh env).bind fun h => mo (slD x l h) env := rfl
theorem rg1_k : rg1 fa env = mbk (fa env) fun x => mo ((toI x).map fun n => (0, n)) := mb_k
theorem rg2_k : rg2 fa fb env = mbk (fa env) fun x => mb fb fun y => mo ((toI x).bind fun i => (toI y).map fun j => (i, j)) := mb_k
theorem mlrg_k {r : M (Int × Int)} : mlrg r env = mbk (r env) fun d => mo (if rgC d = true then some (.fd (.lst ((rgL d.1 d.2).map .int))) else none) := mb_k
theorem mtrg_k {r : M (Int × Int)} : mtrg r env = mbk (r env) fun d => mo (if rgC d = true then some (.tup ((rgL d.1 d.2).map .int)) else none) := mb_k
def rngA (j : Int) : Option (List D) := if -(2 ^ 62) ≤ j ∧ j < 2 ^ 62 then some (rgN 0 j.toNat) else none
def rngB (i j : Int) : Option (List D) := if -(2 ^ 62) ≤ i ∧ i < 2 ^ 62 ∧ -(2 ^ 62) ≤ j ∧ j < 2 ^ 62 then some (rgN i (j - i).toNat) else none
theorem two62 : (2 : Int) ^ 62 = 4611686018427387904 := by decide
theorem rngA_s {j : Int} (h1 : -16777216 ≤ j) (h2 : j ≤ 16777216) : rngA j = some (rgN 0 j.toNat) := if_pos (by rw [two62]; omega)
theorem rngB_s {i j : Int} (h1 : -16777216 ≤ i) (h2 : i ≤ 16777216) (h3 : -16777216 ≤ j) (h4 : j ≤ 16777216) : rngB i j = some (rgN i (j - i).toNat) := if_pos (by rw [two62]; omega)
theorem itR1_k : itR1 f env = mbk (f env) fun d => mo ((toI d).bind rngA) := mb_k
theorem itR2_k : itR2 f g env = mbk (f env) fun d => mb g fun d2 => mo ((toI d).bind fun i => (toI d2).bind fun j => rngB i j) := mb_k
theorem itA_k : itA f env = mbk (f env) fun d => mo (itemsF (.val d)) := mb_k
theorem itEA_k : itEA f env = mbk (f env) fun d => mo ((itemsF (.val d)).map (enD 0)) := mb_k
theorem itZ_k : itZ l env = mbk (l env) fun ds => mo (match ds with | [.tup xs, .tup ys] => some (zpD xs ys) | [.lst xs, .lst ys] => some (zpD xs ys) | _ => none) := mb_k
/-! names -/
theorem set_id {i : Nat} {o : Option Od} (e : env[i]? = some o) : env.set i o = env := by
  refine List.ext_getElem? fun j => ?_
  by_cases h : i = j
  · subst h
    obtain ⟨h1, h2⟩ := List.getElem?_eq_some_iff.mp e
    rw [List.getElem?_set_self h1, e]
  · rw [List.getElem?_set_ne h]
def rdx (i : Nat) (env : Env) : Option (Option Od) → Option (D × Env)
  | some (some (.fd (.val d))) => some (d, env)
  | some (some o) => some (o.frz, env.set i (vv o.frz))
  | _ => none
theorem rd_k {i : Nat} : rd i env = rdx i env env[i]? := by
  unfold rd
  split
  · rename_i o q
    rw [q]
    cases o with
    | obj => rfl
    | ll => rfl
    | fd x =>
      cases x with
      | val d =>
        show some (d, env.set i (some (.fd (.val d)))) = some (d, env)
        rw [set_id q]
      | lst => rfl
      | dik => rfl
      | dit => rfl
  · rename_i q
    cases h : env[i]? with
    | none => rfl
    | some o =>
      cases o with
      | none => rfl
      | some o => exact absurd h (q o)
theorem rdx_ll {i : Nat} {d : List (List D)} : rdx i env (some (some (.ll d))) = some (.lst (d.map .lst), env.set i (vv (.lst (d.map .lst)))) := rfl
theorem rdx_v {i : Nat} {d : D} : rdx i env (some (some (.fd (.val d)))) = some (d, env) := rfl
theorem rdx_l {i : Nat} {d : List D} : rdx i env (some (some (.fd (.lst d)))) = some (.lst d, env.set i (vv (.lst d))) := rfl
theorem rdx_k {i : Nat} {d : List (L2.Key × D)} : rdx i env (some (some (.fd (.dik d)))) = some (.dik d, env.set i (vv (.dik d))) := rfl
theorem rdx_t {i : Nat} {d : List (List L2.Key × D)} : rdx i env (some (some (.fd (.dit d)))) = some (.dit d, env.set i (vv (.dit d))) := rfl
theorem rdx_o {i : Nat} {c : Nat} {fs : List (Str × Fd)} : rdx i env (some (some (.obj c fs))) = some (.obj c (fs.map fun q => (q.1, q.2.frz)), env.set i (vv (.obj c (fs.map fun q => (q.1, q.2.frz))))) := rfl
def mvx (i : Nat) (env : Env) : Option (Option Od) → Option (Od × Env)
  | some (some o) => some (o, env.set i none)
  | _ => none
theorem mv_k {i : Nat} : mv i env = mvx i env env[i]? := by
  unfold mv mvx
  split <;> first | rfl | (split <;> simp_all) | simp_all
theorem mvx_s {i : Nat} {o : Od} : mvx i env (some (some o)) = some (o, env.set i none) := rfl
def pdx : Option (Option Od) → Option D
  | some (some (.fd (.val d))) => some d
  | _ => none
theorem pd_k {i : Nat} : pd i env = pdx env[i]? := by
  unfold pd pdx
  split <;> first | rfl | (split <;> simp_all) | simp_all
theorem pdx_s {d : D} : pdx (some (some (.fd (.val d)))) = some d := rfl
def pxx : Option (Option Od) → Option Fd
  | some (some (.fd d)) => some d
  | _ => none
theorem px_k {i : Nat} : px i env = pxx env[i]? := by
  unfold px pxx
  split <;> first | rfl | (split <;> simp_all) | simp_all
theorem pxx_s {d : Fd} : pxx (some (some (.fd d))) = some d := rfl
def lsx : Option (Option Od) → Option (List D)
  | some (some (.fd (.lst d))) => some d
  | _ => none
theorem ls_k {i : Nat} : lstAt i env = lsx env[i]? := by
  unfold lstAt lsx
  split <;> first | rfl | (split <;> simp_all) | simp_all
theorem lsx_s {d : List D} : lsx (some (some (.fd (.lst d)))) = some d := rfl
def pfx (n : Str) : Option (Option Od) → Option Fd
  | some (some (.obj _ gs)) => gs.lookup n
  | some (some (.fd (.val (.obj _ gs)))) => (gs.lookup n).map .val
  | _ => none
theorem pxf_k {i : Nat} {n : Str} : pxf i n env = pfx n env[i]? := by
  unfold pxf pfx
  split <;> first | rfl | (split <;> simp_all) | simp_all
theorem pfx_o {n : Str} {c : Nat} {gs : List (Str × Fd)} : pfx n (some (some (.obj c gs))) = gs.lookup n := rfl
theorem pfx_v {n : Str} {c : Nat} {gs : List (Str × D)} : pfx n (some (some (.fd (.val (.obj c gs))))) = (gs.lookup n).map .val := rfl
def fdv : Option Fd → Option D
  | some (.val d) => some d
  | _ => none
theorem fdv_v {d : D} : fdv (some (.val d)) = some d := rfl
theorem pdf_k {i : Nat} {n : Str} : pdf i n env = fdv (pfx n env[i]?) := by
  unfold pdf; rw [pxf_k]
  generalize pfx n env[i]? = x
  cases x with
  | none => rfl
  | some y => cases y <;> rfl
/-! pure ones -/
theorem pc_s {d : D} : pc d env = some d := rfl
section
variable {pf pg ph : P D} {fx : P Fd}
theorem pval_s : pval pf env = (pf env).map .val := rfl
theorem p1_s {g : D → Option D} : p1 g pf env = (pf env).bind g := rfl
theorem p2_s {g : D → D → Option D} : p2 g pf pg env = (pf env).bind fun x => (pg env).bind fun y => g x y := rfl
theorem pch_s {g g' : D → D → Option D} : pch g g' pf pg ph env = (pf env).bind fun x => (pg env).bind fun y => ((g x y).bind toB).bind fun k => if k = true then (ph env).bind fun z => g' y z else some (.bl false) := rfl
theorem tq_s : tq pf env = (pf env).bind toB := rfl
theorem pin_s {neg : Bool} : pin neg pf fx env = (pf env).bind fun a => (fx env).bind fun x => inD neg a x := rfl
theorem pix_s : pix fx pf env = (fx env).bind fun x => (pf env).bind fun i => ixF x i := rfl
theorem plen_s : plen fx env = (fx env).bind lenF := rfl
theorem ptI_s : ptI pf env = (pf env).bind fun d => match d with | .int i => some (some i) | _ => none := rfl
end
theorem toB_s {b : Bool} : toB (.bl b) = some b := rfl
theorem toI_s {i : Int} : toI (.int i) = some i := rfl
theorem liI_s {q : Int → Int → D} {i j : Int} : liI q (.int i) (.int j) = some (q i j) := rfl
theorem lcI_s {C : Int → Int → Bool} {q : Int → Int → D} {i j : Int} (h : C i j = true) : lcI C q (.int i) (.int j) = some (q i j) := if_pos h
theorem subD_s {i j : Int} : subD (.int i) (.int j) = some (.int (i - j)) := rfl
theorem addI_s {i j : Int} : addI (.int i) (.int j) = some (.int (i + j)) := rfl
theorem addD_i {i j : Int} : addD (.int i) (.int j) = some (.int (i + j)) := rfl
theorem addD_t {x y : List D} (h : x.length + y.length ≤ 16777216) : addD (.tup x) (.tup y) = some (.tup (x ++ y)) := if_pos h
theorem addD_l {x y : List D} (h : x.length + y.length ≤ 16777216) : addD (.lst x) (.lst y) = some (.lst (x ++ y)) := if_pos h
theorem ltD_s {i j : Int} : ltD (.int i) (.int j) = some (.bl (decide (i < j))) := rfl
theorem leD_s {i j : Int} : leD (.int i) (.int j) = some (.bl (decide (i ≤ j))) := rfl
theorem gtD_s {i j : Int} : gtD (.int i) (.int j) = some (.bl (decide (j < i))) := rfl
theorem geD_s {i j : Int} : geD (.int i) (.int j) = some (.bl (decide (j ≤ i))) := rfl
theorem mulD_l {i j : Int} (h1 : -(2 ^ 64) < i) (h2 : i < 2 ^ 64) : mulD (.int i) (.int j) = some (.int (i * j)) := if_pos (by unfold mulC; exact decide_eq_true (.inl ⟨h1, h2⟩))
theorem mulD_r {i j : Int} (h1 : -(2 ^ 64) < j) (h2 : j < 2 ^ 64) : mulD (.int i) (.int j) = some (.int (i * j)) := if_pos (by unfold mulC; exact decide_eq_true (.inr ⟨h1, h2⟩))
theorem mulD_fm {x j : Int} : mulD (.int (x.fmod 2147483647)) (.int j) = some (.int (x.fmod 2147483647 * j)) := mulD_l (by have := Int.fmod_nonneg_of_pos x (show (0 : Int) < 2147483647 by decide); omega) (by have := Int.fmod_lt_of_pos x (show (0 : Int) < 2147483647 by decide); omega)
theorem divD_s {i j : Int} (h1 : 0 < j) (h2 : j < 1073741824) : divD (.int i) (.int j) = some (.int (i.fdiv j)) := if_pos (by unfold divC; exact decide_eq_true ⟨by omega, by omega⟩)
theorem modD_s {i j : Int} (h1 : 0 < j) : modD (.int i) (.int j) = some (.int (i.fmod j)) := if_pos (by unfold modC; exact decide_eq_true (by omega))
theorem powD_s {i j : Int} (h : powC i j = true) : powD (.int i) (.int j) = some (.int (i ^ j.toNat)) := if_pos h
theorem shlD_s {i j : Int} (h : powC i j = true) : shlD (.int i) (.int j) = some (.int (i * 2 ^ j.toNat)) := if_pos h
theorem shrD_s {i j : Int} (h : 0 ≤ j) : shrD (.int i) (.int j) = some (.int (i / 2 ^ j.toNat)) := if_pos (by unfold shrC; exact decide_eq_true h)
theorem andD_s {i j : Int} : andD (.int i) (.int j) = some (.int (Builtin.bitAnd i j)) := rfl
theorem negD_s {i : Int} : negD (.int i) = some (.int (-i)) := rfl
theorem int1D_s {i : Int} : int1D (.int i) = some (.int i) := rfl
theorem int1D_b {b : Bool} : int1D (.bl b) = some (.int (if b then 1 else 0)) := rfl
theorem szc_s {α : Type} {n : Nat} {a : α} (h : n ≤ 16777216) : szc n a = some a := if_pos h
theorem isnD_n : isnD .non .non = some (.bl true) := rfl
theorem isnD_i {i : Int} : isnD (.int i) .non = some (.bl false) := rfl
theorem isnD_t {i : List D} : isnD (.tup i) .non = some (.bl false) := rfl
theorem nonD_n : nonD .non .non = some (.bl false) := rfl
theorem nonD_i {i : Int} : nonD (.int i) .non = some (.bl true) := rfl
theorem nonD_t {i : List D} : nonD (.tup i) .non = some (.bl true) := rfl
theorem tupB_l {xs : List D} : tupB (.lst xs) = some (.tup xs) := rfl
theorem tupB_t {xs : List D} : tupB (.tup xs) = some (.tup xs) := rfl
theorem listB_l {xs : List D} : listB [.lst xs] = some (.fd (.lst xs)) := rfl
theorem listB_t {xs : List D} : listB [.tup xs] = some (.fd (.lst xs)) := rfl
theorem listB_s {xs : List Int} : listB [.scr xs] = some (.fd (.lst (xs.map .int))) := rfl
theorem itF_vt {xs : List D} : itemsF (.val (.tup xs)) = some xs := rfl
theorem itF_vl {xs : List D} : itemsF (.val (.lst xs)) = some xs := rfl
theorem itF_l {xs : List D} : itemsF (.lst xs) = some xs := rfl
theorem lenF_vt {xs : List D} : lenF (.val (.tup xs)) = some (.int xs.length) := rfl
theorem lenF_vl {xs : List D} : lenF (.val (.lst xs)) = some (.int xs.length) := rfl
theorem lenF_l {xs : List D} : lenF (.lst xs) = some (.int xs.length) := rfl
theorem slD_t {xs : List D} {lo hi : Option Int} : slD (.tup xs) lo hi = some (.tup (cutD xs lo hi)) := rfl
theorem slD_l {xs : List D} {lo hi : Option Int} : slD (.lst xs) lo hi = some (.lst (cutD xs lo hi)) := rfl
theorem fldD_s {n : Str} {c : Nat} {gs : List (Str × D)} : fldD n (.obj c gs) = gs.lookup n := rfl
theorem minB_s {i j : Int} : minB [.int i, .int j] = some (.int (if j < i then j else i)) := rfl
theorem maxB_s {i j : Int} : maxB [.int i, .int j] = some (.int (if j > i then j else i)) := rfl
theorem absB_s {i : Int} : absB [.int i] = some (.int (if i < 0 then -i else i)) := rfl
/-! statements -/
def gk (o : Option (Out × Env)) (h : G) : Option (Out × Env) := o.bind fun q => match q.1 with
  | .nx => h q.2
  | o => some (o, q.2)
variable {h' g' : G} {e : Env} {o : Od}
theorem gseq_k : gseq g' h' env = gk (g' env) h' := rfl
theorem gk_nx : gk (some (.nx, e)) h' = h' e := rfl
theorem gk_rt : gk (some (.rt o, e)) h' = some (.rt o, e) := rfl
theorem gk_bk : gk (some (.bk, e)) h' = some (.bk, e) := rfl
theorem gk_ct : gk (some (.ct, e)) h' = some (.ct, e) := rfl
theorem gk_ite {c : Prop} [Decidable c] {x y : Option (Out × Env)} : gk (if c then x else y) h' = if c then gk x h' else gk y h' := by split <;> rfl
theorem gnx_s : gnx env = some (.nx, env) := rfl
def grk (o : Option (Od × Env)) : Option (Out × Env) := o.map fun q => (.rt q.1, q.2)
theorem gret_k {f : M Od} : gret f env = grk (f env) := rfl
theorem grk_s : grk (some (o, e)) = some (.rt o, e) := rfl
def gik (o : Option (Bool × Env)) (g h : G) : Option (Out × Env) := o.bind fun q => if q.1 = true then g q.2 else h q.2
theorem gif_k : gif t g' h' env = gik (t env) g' h' := by
  unfold gif gm gik
  cases t env with
  | none => rfl
  | some q =>
    show (if q.1 = true then g' else h') q.2 = if q.1 = true then g' q.2 else h' q.2
    split <;> rfl
theorem gik_t : gik (some (true, e)) g' h' = g' e := rfl
theorem gik_f : gik (some (false, e)) g' h' = h' e := rfl
theorem gik_s {b : Bool} : gik (some (b, e)) g' h' = if b = true then g' e else h' e := rfl
theorem gik_ite {c : Prop} [Decidable c] {x y : Option (Bool × Env)} : gik (if c then x else y) g' h' = if c then gik x g' h' else gik y g' h' := by split <;> rfl
def gxk (o : Option (D × Env)) : Option (Out × Env) := o.map fun q => (.nx, q.2)
theorem gex_k : gex f env = gxk (f env) := rfl
theorem gxk_s {d : D} : gxk (some (d, e)) = some (.nx, e) := rfl
def gsk (o : Option (Od × Env)) (i : Nat) : Option (Out × Env) := o.bind fun q => if i < q.2.length then some (.nx, q.2.set i (some q.1)) else none
theorem gst_k {i : Nat} {f : M Od} : gst i f env = gsk (f env) i := rfl
theorem gsk_s {i : Nat} : gsk (some (o, e)) i = if i < e.length then some (.nx, e.set i (some o)) else none := rfl
def gtk (o : Option (D × Env)) (tg : Tg) : Option (Out × Env) := o.bind fun q => (tg q.1 q.2).map fun env' => (.nx, env')
theorem gtg_k {tg : Tg} : gtg f tg env = gtk (f env) tg := rfl
theorem gtk_s {tg : Tg} {d : D} : gtk (some (d, e)) tg = (tg d e).map fun env' => (.nx, env') := rfl
theorem tgn_s {i : Nat} {d : D} : tgn i d env = if i < env.length then some (env.set i (vv d)) else none := rfl
theorem tgt_s {u : List D → Env → Option Env} {ds : List D} : tgt u (.tup ds) env = u ds env := rfl
theorem tgc_s {t : Tg} {u : List D → Env → Option Env} {d : D} {ds : List D} : tgc t u (d :: ds) env = (t d env).bind fun env1 => u ds env1 := rfl
theorem tgz_s : tgz [] env = some env := rfl
def gpk (o : Option (List D × Env)) (i j : Nat) : Option (Out × Env) := o.bind fun q => match q.1 with
  | [d1, d2] => if i < q.2.length ∧ j < q.2.length then some (.nx, (q.2.set i (some (.fd (.val d1)))).set j (some (.fd (.val d2)))) else none
  | _ => none
theorem gpar_k {i j : Nat} : gpar i j l env = gpk (l env) i j := rfl
theorem gpk_s {i j : Nat} {d1 d2 : D} : gpk (some ([d1, d2], e)) i j = if i < e.length ∧ j < e.length then some (.nx, (e.set i (vv d1)).set j (vv d2)) else none := rfl
def gak (i : Nat) (op : D → D → Option D) (x : D) (o : Option (D × Env)) : Option (Out × Env) := o.bind fun q => (op x q.1).bind fun z => if i < q.2.length then some (.nx, q.2.set i (some (.fd (.val z)))) else none
theorem gaug_k {i : Nat} {op : D → D → Option D} : gaug i op f env = (pd i env).bind fun x => gak i op x (f env) := rfl
theorem gak_s {i : Nat} {op : D → D → Option D} {x y : D} : gak i op x (some (y, e)) = (op x y).bind fun z => if i < e.length then some (.nx, e.set i (vv z)) else none := rfl
def mek (i : Nat) (g : List D → List D → Option (D × List D)) (o : Option (List D × Env)) : Option (D × Env) := o.bind fun q => (lstAt i q.2).bind fun ds => (g ds q.1).map fun r => (r.1, q.2.set i (some (.fd (.lst r.2))))
theorem mme_k {i : Nat} {g : List D → List D → Option (D × List D)} : mme i g l env = (lstAt i env).bind fun _ => mek i g (l env) := rfl
theorem mek_s {i : Nat} {g : List D → List D → Option (D × List D)} {ds : List D} : mek i g (some (ds, e)) = (lstAt i e).bind fun xs => (g xs ds).map fun r => (r.1, e.set i (vl r.2)) := rfl
theorem appL_s {xs : List D} {d : D} (h : xs.length < 16777216) : appL xs [d] = some (.non, xs ++ [d]) := if_pos h
theorem extL_s {xs es : List D} (h : xs.length + es.length ≤ 16777216) : extL xs [.lst es] = some (.non, xs ++ es) := if_pos h
theorem extT_l {xs es : List D} (h : xs.length + es.length ≤ 16777216) : extT xs [.lst es] = some (.non, xs ++ es) := if_pos h
theorem extT_t {xs es : List D} (h : xs.length + es.length ≤ 16777216) : extT xs [.tup es] = some (.non, xs ++ es) := if_pos h
def sik (j : Nat) (fb : P D) (o : Option (D × Env)) : Option (Out × Env) := o.bind fun q => (lstAt j q.2).bind fun ds => (fb q.2).bind fun b => (toI b).bind fun z => (ixN ds.length z).map fun n => (.nx, q.2.set j (some (.fd (.lst (ds.set n q.1)))))
theorem gsi_k {j : Nat} {fb : P D} : gsi j fb f env = sik j fb (f env) := rfl
theorem sik_s {j : Nat} {fb : P D} {d : D} : sik j fb (some (d, e)) = (lstAt j e).bind fun ds => (fb e).bind fun b => (toI b).bind fun z => (ixN ds.length z).map fun n => (.nx, e.set j (vl (ds.set n d))) := rfl
def gfk (o : Option (List D × Env)) (tg : Tg) (body : G) : Option (Out × Env) := o.bind fun q => forD tg body q.1 q.2
theorem gfor_k {tg : Tg} {body : G} : gfor l tg body env = gfk (l env) tg body := rfl
theorem gfk_s {tg : Tg} {body : G} {ds : List D} : gfk (some (ds, e)) tg body = forD tg body ds e := rfl
def lck (n : Nat) (vs : List Nat) (o : Option (List D × Env)) (tg : Tg) (ft : M Bool) (fe : M D) : Option (Od × Env) := o.bind fun q => if q.2.length = n then (lcD vs tg ft fe q.1 [] (wipeE q.2 vs)).map fun r => (.fd (.lst r.1), restE q.2 vs r.2) else none
theorem mlc_k {n : Nat} {vs : List Nat} {tg : Tg} {ft : M Bool} {fe : M D} : mlc n vs l tg ft fe env = lck n vs (l env) tg ft fe := rfl
/-! calls -/
def clk (p : Fn) (n : Nat) (o : Option (List D × Env)) : Option (Od × Env) := o.bind fun q => if q.1.length = n then (p (vals q.1)).map fun r => (r.1, q.2) else none
theorem mcl_k {p : Fn} {n : Nat} : mcl p n l env = clk p n (l env) := rfl
theorem clk_s {p : Fn} {n : Nat} {ds : List D} {r : Env} (hl : ds.length = n) (h : p (vals ds) = some (o, r)) : clk p n (some (ds, e)) = some (o, e) := by
  unfold clk
  show (if ds.length = n then _ else none) = _
  rw [if_pos hl, h]; rfl
def cbk (i : Nat) (p : Fn) (n : Nat) (o : Option (List D × Env)) : Option (Od × Env) := o.bind fun q => ((q.2[i]?).join).bind fun o => if q.1.length + 1 = n then (p (some o :: vals q.1)).bind fun r => (r.2[0]?).map fun o1 => (r.1, q.2.set i o1) else none
def c1k (x : Option (Option Od)) (o : Option (Od × Env)) : Option (Od × Env) := x.join.bind fun _ => o
theorem mcb1_k {i : Nat} {p : Fn} {n : Nat} : mcb1 i p n l env = c1k env[i]? (cbk i p n (l env)) := rfl
theorem c1k_s {o : Od} {x : Option (Od × Env)} : c1k (some (some o)) x = x := rfl
theorem cbk_s {i : Nat} {p : Fn} {n : Nat} {ds : List D} {o0 o1 : Od} {y : Option Od} {r : Env} (h : e[i]? = some (some o0)) (hl : ds.length + 1 = n) (hp : p (some o0 :: vals ds) = some (o1, y :: r)) : cbk i p n (some (ds, e)) = some (o1, e.set i y) := by
  unfold cbk
  show ((e[i]?).join).bind _ = _
  rw [h]
  show (if ds.length + 1 = n then _ else none) = _
  rw [if_pos hl, hp]; rfl
def mtk (m : Str) (c : Nat) (x : Option (Option Od)) (o : Option (Od × Env)) : Option (Od × Env) := x.join.bind fun o0 => if noM m c o0 = true then o else none
theorem mmt_k {m : Str} {c i : Nat} {p : Fn} {n : Nat} : mmt m c i p n l env = mtk m c env[i]? (cbk i p n (l env)) := rfl
theorem mtk_s {m : Str} {c : Nat} {o : Od} {x : Option (Od × Env)} : mtk m c (some (some o)) x = if noM m c o = true then x else none := rfl
def cbx (i : Nat) (e : Env) : Option (Od × Env) → Option (Od × Env)
  | some (o1, y :: _) => some (o1, e.set i y)
  | _ => none
def cb2 (i : Nat) (p : Fn) (n : Nat) (ds : List D) (e : Env) : Option (Option Od) → Option (Od × Env)
  | some (some o0) => if ds.length + 1 = n then cbx i e (p (some o0 :: vals ds)) else none
  | _ => none
theorem cbk_k {i : Nat} {p : Fn} {n : Nat} {ds : List D} : cbk i p n (some (ds, e)) = cb2 i p n ds e e[i]? := by
  unfold cbk cb2
  simp only [Option.bind_some]
  cases h : e[i]? with
  | none => rfl
  | some o =>
    cases o with
    | none => rfl
    | some o =>
      show (if ds.length + 1 = n then (p (some o :: vals ds)).bind _ else none) = if ds.length + 1 = n then cbx i e (p (some o :: vals ds)) else none
      split
      · cases p (some o :: vals ds) with
        | none => rfl
        | some r =>
          obtain ⟨o1, r⟩ := r
          cases r <;> rfl
      · rfl
theorem cb2_s {i : Nat} {p : Fn} {n : Nat} {ds : List D} {o0 : Od} : cb2 i p n ds e (some (some o0)) = if ds.length + 1 = n then cbx i e (p (some o0 :: vals ds)) else none := rfl
theorem cbx_s {i : Nat} {o1 : Od} {y : Option Od} {r : Env} : cbx i e (some (o1, y :: r)) = some (o1, e.set i y) := rfl
def clx (e : Env) : Option (Od × Env) → Option (Od × Env)
  | some (o, _) => some (o, e)
  | none => none
theorem clk_k {p : Fn} {n : Nat} {ds : List D} : clk p n (some (ds, e)) = if ds.length = n then clx e (p (vals ds)) else none := by
  unfold clk
  show (if ds.length = n then (p (vals ds)).map _ else none) = _
  split
  · cases p (vals ds) <;> rfl
  · rfl
theorem clx_s {o : Od} {r : Env} : clx e (some (o, r)) = some (o, e) := rfl
def mkx (e : Env) : Option (Od × Env) → Option (Od × Env)
  | some (.fd (.val .non), some o :: _) => some (o, e)
  | _ => none
def mkk (c : Nat) (p : Fn) (n : Nat) (o : Option (List D × Env)) : Option (Od × Env) := o.bind fun q => if q.1.length + 1 = n then (p (some (.obj c []) :: vals q.1)).bind fun r => match r.1, r.2 with
    | .fd (.val .non), some o :: _ => some (o, q.2)
    | _, _ => none
  else none
theorem mmk_k {c : Nat} {p : Fn} {n : Nat} : mmk c p n l env = mkk c p n (l env) := rfl
theorem mkk_k {c : Nat} {p : Fn} {n : Nat} {ds : List D} : mkk c p n (some (ds, e)) = if ds.length + 1 = n then mkx e (p (some (.obj c []) :: vals ds)) else none := by
  unfold mkk
  show (if ds.length + 1 = n then (p (some (.obj c []) :: vals ds)).bind _ else none) = _
  split
  · cases p (some (.obj c []) :: vals ds) with
    | none => rfl
    | some r =>
      obtain ⟨o1, r⟩ := r
      show (match o1, r with
        | .fd (.val .non), some o :: _ => some (o, e)
        | _, _ => none) = _
      unfold mkx
      split <;> first | rfl | (split <;> simp_all) | simp_all
  · rfl
theorem mkx_s {o : Od} {r : Env} : mkx e (some (.fd (.val .non), some o :: r)) = some (o, e) := rfl
theorem mkk_s {c : Nat} {p : Fn} {n : Nat} {ds : List D} {r : Env} (hl : ds.length + 1 = n) (hp : p (some (.obj c []) :: vals ds) = some (.fd (.val .non), some o :: r)) : mkk c p n (some (ds, e)) = some (o, e) := by
  unfold mkk
  show (if ds.length + 1 = n then _ else none) = _
  rw [if_pos hl, hp]; rfl
def fsx (i : Nat) (n : Str) (cs : List Nat) (e : Env) (x : Od) : Option (Option Od) → Option (Out × Env)
  | some (some (.obj c gs)) => match x with
    | .fd x => if cs.contains c = true ∧ gs.length < 1000 then some (.nx, e.set i (some (.obj c (putG n x gs)))) else none
    | _ => none
  | _ => none
def fsk (i : Nat) (n : Str) (cs : List Nat) (o : Option (Od × Env)) : Option (Out × Env) := o.bind fun q => fsx i n cs q.2 q.1 q.2[i]?
theorem gfs_k {i : Nat} {n : Str} {cs : List Nat} {f : M Od} : gfs i n cs f env = fsk i n cs (f env) := by
  unfold gfs fsk
  cases f env with
  | none => rfl
  | some q =>
    obtain ⟨o, e⟩ := q
    simp only [Option.bind_some]
    unfold fsx
    split
    · rename_i q1 q2; rw [q2]
    · rename_i q
      split
      · rename_i c gs q2
        split
        · rename_i x; exact absurd rfl (q x c gs · q2)
        · rfl
      · rfl
theorem fsk_s {i : Nat} {n : Str} {cs : List Nat} : fsk i n cs (some (o, e)) = fsx i n cs e o e[i]? := rfl
theorem fsx_s {i : Nat} {n : Str} {cs : List Nat} {x : Fd} {c : Nat} {gs : List (Str × Fd)} (h : gs.length < 1000) : fsx i n cs e (.fd x) (some (some (.obj c gs))) = if cs.contains c = true then some (.nx, e.set i (some (.obj c (putG n x gs)))) else none := by
  unfold fsx
  simp only [h, and_true]
theorem putG_nil {n : Str} {x : Fd} : putG n x [] = [(n, x)] := rfl
theorem putG_ne {n m : Str} {x y : Fd} {r : List (Str × Fd)} (h : (m == n) = false) : putG n x ((m, y) :: r) = (m, y) :: putG n x r := by
  conv => lhs; unfold putG
  rw [if_neg (by simpa using h)]
theorem putG_eq {n : Str} {x y : Fd} {r : List (Str × Fd)} : putG n x ((n, y) :: r) = (n, x) :: r := by
  conv => lhs; unfold putG
  rw [if_pos rfl]
theorem noM_o {m : Str} {c c' : Nat} {gs : List (Str × Fd)} : noM m c (.obj c' gs) = (c' == c && (gs.lookup m).isNone) := rfl
theorem noM_v {m : Str} {c c' : Nat} {gs : List (Str × D)} : noM m c (.fd (.val (.obj c' gs))) = (c' == c && (gs.lookup m).isNone) := rfl
theorem lk_nil {β : Type} {n : Str} : List.lookup n ([] : List (Str × β)) = none := rfl
theorem lk_eq {β : Type} {n : Str} {x : β} {r : List (Str × β)} : List.lookup n ((n, x) :: r) = some x := by
  rw [List.lookup_cons, beq_self_eq_true]
theorem lk_ne {β : Type} {n m : Str} {x : β} {r : List (Str × β)} (h : (n == m) = false) : List.lookup n ((m, x) :: r) = List.lookup n r := by
  rw [List.lookup_cons, h]
def rdk (np : Nat) (B : List Nat) (args : Env) (o : Option (Out × Env)) : Option (Od × Env) := o.bind fun q => match q.1 with
    | .nx => some (.fd (.val .non), outA B args q.2)
    | .rt o => some (o, outA B args q.2)
    | _ => none
theorem runD_k {np n : Nat} {B : List Nat} {g : G} {args : Env} : runD np n B g args = if args.length = np then rdk np B args (g (args ++ List.replicate (n - np) none)) else none := rfl
theorem rdk_nx {np : Nat} {B : List Nat} {args : Env} : rdk np B args (some (.nx, e)) = some (.fd (.val .non), outA B args e) := rfl
theorem rdk_rt {np : Nat} {B : List Nat} {args : Env} : rdk np B args (some (.rt o, e)) = some (o, outA B args e) := rfl
/-! places -/
theorem ixF_l {ds : List D} {i : Int} : ixF (.lst ds) (.int i) = atI ds i := rfl
theorem ixF_vl {ds : List D} {i : Int} : ixF (.val (.lst ds)) (.int i) = atI ds i := rfl
theorem ixF_vt {ds : List D} {i : Int} : ixF (.val (.tup ds)) (.int i) = atI ds i := rfl
theorem ixF_vs {ns : List Int} {i : Int} : ixF (.val (.scr ns)) (.int i) = atI (ns.map .int) i := rfl
theorem atI_n {α : Type} {xs : List α} {n : Nat} : atI xs (n : Int) = xs[n]? := by
  unfold atI ixN
  rw [if_pos (by omega)]
  by_cases c : n < xs.length
  · rw [if_pos (by omega)]; rfl
  · rw [if_neg (by omega), List.getElem?_eq_none (by omega)]; rfl
theorem atI_lit {α : Type} {xs : List α} {n : Nat} : atI xs (@OfNat.ofNat Int n _) = xs[(OfNat.ofNat n : Nat)]? := atI_n
theorem atI_s {α : Type} {xs : List α} {i : Int} (h : 0 ≤ i) : atI xs i = xs[i.toNat]? := by
  have := @atI_n α xs i.toNat
  rwa [Int.toNat_of_nonneg h] at this
theorem ixN_n {m n : Nat} : ixN m (n : Int) = if n < m then some n else none := by
  unfold ixN
  rw [if_pos (by omega)]
  by_cases c : n < m
  · rw [if_pos (by omega), if_pos c]; rfl
  · rw [if_neg (by omega), if_neg c]
theorem ixN_lit {m n : Nat} : ixN m (@OfNat.ofNat Int n _) = if (OfNat.ofNat n : Nat) < m then some (OfNat.ofNat n : Nat) else none := ixN_n
theorem ixN_s {m : Nat} {i : Int} (h : 0 ≤ i) (h2 : i < m) : ixN m i = some i.toNat := by
  unfold ixN
  rw [if_pos h, if_pos h2]
/-! what the arguments are behind a call -/
def vox : Option Od → Option Od
  | some (.fd (.val d)) => some (.fd (.val d))
  | _ => none
def outB (B : List Nat) : Nat → Env → Env → Env
  | _, [], _ => []
  | k, a :: r, env => (if B.contains k = true then (env[k]?).join else vox a) :: outB B (k + 1) r env
theorem outB_at {B : List Nat} {env : Env} : ∀ (k : Nat) (args : Env) (i : Nat), (outB B k args env)[i]? = if i < args.length then some (if B.contains (k + i) = true then (env[k + i]?).join else valOnly args i) else none
  | k, [], i => by
    have : ¬ i < ([] : Env).length := Nat.not_lt_zero _
    unfold outB; rw [if_neg this]; rfl
  | k, a :: r, 0 => by
    have : 0 < (a :: r).length := Nat.zero_lt_succ _
    unfold outB
    rw [if_pos this, List.getElem?_cons_zero, Nat.add_zero]
    unfold valOnly vox
    rw [List.getElem?_cons_zero]
    congr 2
    split <;> first | rfl | (split <;> simp_all) | simp_all
  | k, a :: r, i + 1 => by
    unfold outB
    rw [List.getElem?_cons_succ, outB_at (k + 1) r i, show k + 1 + i = k + (i + 1) by omega]
    unfold valOnly
    simp only [List.length_cons, Nat.add_lt_add_iff_right, List.getElem?_cons_succ]
theorem outA_k {B : List Nat} {args env : Env} : outA B args env = outB B 0 args env := by
  refine List.ext_getElem? fun i => ?_
  rw [outB_at]
  unfold outA
  rw [List.getElem?_map]
  by_cases h : i < args.length
  · rw [List.getElem?_range h, if_pos h, Nat.zero_add]; rfl
  · rw [List.getElem?_eq_none (by rw [List.length_range]; omega), if_neg h]; rfl
theorem outB_nil {B : List Nat} {k : Nat} {env : Env} : outB B k [] env = [] := rfl
theorem outB_cons {B : List Nat} {k : Nat} {a : Option Od} {r env : Env} : outB B k (a :: r) env = (if B.contains k = true then (env[k]?).join else vox a) :: outB B (k + 1) r env := rfl
theorem vox_v {d : D} : vox (some (.fd (.val d))) = some (.fd (.val d)) := rfl
theorem vox_l {d : List D} : vox (some (.fd (.lst d))) = none := rfl
theorem vox_o {c : Nat} {gs : List (Str × Fd)} : vox (some (.obj c gs)) = none := rfl
theorem vox_n : vox none = none := rfl
theorem join_s {α : Type} {a : Option α} : (some a).join = a := rfl
theorem vals_nil : vals [] = [] := rfl
theorem vals_cons {d : D} {ds : List D} : vals (d :: ds) = vv d :: vals ds := rfl
end
/-! a law's tape -/
def tapeD (ns : List Int) (a b c d : Int) : List D := [.lst (ns.map .int), .int a, .int b, .int c, .int d]
def Tape (t : List D) : Prop := ∃ ns a b c d, t = tapeD ns a b c d ∧ 0 ≤ a
/-! ### comprehensions -/
def lcC (vs : List Nat) (o : Option (D × Env)) : Option (Option D × Env) := o.map fun r => (some r.1, wipeE r.2 vs)
def lcB (vs : List Nat) (fe : M D) : Option (Bool × Env) → Option (Option D × Env)
  | some (b, e) => if b = true then lcC vs (fe e) else some (none, wipeE e vs)
  | none => none
def lcA (vs : List Nat) (ft : M Bool) (fe : M D) : Option Env → Option (Option D × Env)
  | some e => lcB vs fe (ft e)
  | none => none
def lc1 (vs : List Nat) (tg : Tg) (ft : M Bool) (fe : M D) (d : D) (e : Env) : Option (Option D × Env) := lcA vs ft fe (tg d e)
section
variable {vs : List Nat} {tg : Tg} {ft : M Bool} {fe : M D} {d : D} {e env env0 : Env}
theorem lc1_k : lc1 vs tg ft fe d e = lcA vs ft fe (tg d e) := rfl
theorem lcA_s : lcA vs ft fe (some e) = lcB vs fe (ft e) := rfl
theorem lcB_s {b : Bool} : lcB vs fe (some (b, e)) = if b = true then lcC vs (fe e) else some (none, wipeE e vs) := rfl
theorem lcB_ite {c : Prop} [Decidable c] {x y : Option (Bool × Env)} : lcB vs fe (if c then x else y) = if c then lcB vs fe x else lcB vs fe y := by split <;> rfl
theorem lcC_s : lcC vs (some (d, e)) = some (some d, wipeE e vs) := rfl
theorem wipeE_nil : wipeE e [] = e := rfl
theorem wipeE_cons {v : Nat} : wipeE e (v :: vs) = (wipeE e vs).set v none := rfl
theorem restE_nil : restE env0 [] e = e := rfl
theorem restE_cons {v : Nat} : restE env0 (v :: vs) e = (restE env0 vs e).set v (valOnly env0 v) := rfl
theorem valOnly_k {i : Nat} : valOnly env i = vox (env[i]?).join := by
  unfold valOnly vox
  cases h : env[i]? with
  | none => rfl
  | some o =>
    cases o with
    | none => rfl
    | some o => cases o with
      | obj => rfl
      | ll => rfl
      | fd x => cases x <;> rfl
theorem lck_s {n : Nat} {ds : List D} : lck n vs (some (ds, e)) tg ft fe = if e.length = n then (lcD vs tg ft fe ds [] (wipeE e vs)).map fun r => (.fd (.lst r.1), restE e vs r.2) else none := rfl
theorem lcD_cons {ds acc : List D} : lcD vs tg ft fe (d :: ds) acc e = (lc1 vs tg ft fe d e).bind fun r => match r.1 with
    | some y => if acc.length < 16777216 then lcD vs tg ft fe ds (acc ++ [y]) r.2 else none
    | none => lcD vs tg ft fe ds acc r.2 := by
  conv => lhs; unfold lcD
  unfold lc1
  cases tg d e with
  | none => rfl
  | some e1 =>
    show ((ft e1).bind _) = (lcB vs fe (ft e1)).bind _
    cases ft e1 with
    | none => rfl
    | some q =>
      obtain ⟨b, e2⟩ := q
      cases b with
      | false => rfl
      | true =>
        show ((fe e2).bind _) = (lcC vs (fe e2)).bind _
        cases fe e2 with
        | none => rfl
        | some r => rfl
theorem lcD_inv' (I : Nat → List D → Env → Prop) : ∀ (ds : List D) (k : Nat) (acc : List D) (e : Env), I k acc e → acc.length + ds.length ≤ 16777216 →
    (∀ i d acc e, ds[i]? = some d → I (k + i) acc e → ∃ r e', lc1 vs tg ft fe d e = some (r, e') ∧ I (k + i + 1) (acc ++ r.toList) e') →
    ∃ out e', lcD vs tg ft fe ds acc e = some (out, e') ∧ I (k + ds.length) out e'
  | [], k, acc, e, h0, _, _ => ⟨acc, e, rfl, h0⟩
  | d :: ds, k, acc, e, h0, hl, step => by
    obtain ⟨r, e1, h1, h2⟩ := step 0 d acc e rfl h0
    have hl : acc.length + (ds.length + 1) ≤ 16777216 := hl
    have st : ∀ i d acc e, ds[i]? = some d → I (k + 1 + i) acc e → ∃ r e', lc1 vs tg ft fe d e = some (r, e') ∧ I (k + 1 + i + 1) (acc ++ r.toList) e' := fun i d acc e hd h => by
      have := step (i + 1) d acc e (by simpa using hd) (by rw [show k + (i + 1) = k + 1 + i by omega]; exact h)
      rwa [show k + (i + 1) = k + 1 + i by omega] at this
    rw [lcD_cons, h1]
    show ∃ out e', (match r with
      | some y => if acc.length < 16777216 then lcD vs tg ft fe ds (acc ++ [y]) e1 else none
      | none => lcD vs tg ft fe ds acc e1) = some (out, e') ∧ _
    have hk : k + (d :: ds).length = k + 1 + ds.length := by rw [List.length_cons]; omega
    rw [hk]
    cases r with
    | some y =>
      dsimp only
      rw [if_pos (by omega)]
      exact lcD_inv' I ds (k + 1) (acc ++ [y]) e1 h2 (by rw [List.length_append, List.length_singleton]; omega) st
    | none =>
      exact lcD_inv' I ds (k + 1) acc e1 (by simpa using h2) (by omega) st
theorem lcD_inv (I : Nat → List D → Env → Prop) {ds : List D} {e : Env} (h0 : I 0 [] e) (hl : ds.length ≤ 16777216)
    (step : ∀ i d acc e, ds[i]? = some d → I i acc e → ∃ r e', lc1 vs tg ft fe d e = some (r, e') ∧ I (i + 1) (acc ++ r.toList) e') :
    ∃ out e', lcD vs tg ft fe ds [] e = some (out, e') ∧ I ds.length out e' := by
  have := lcD_inv' (vs := vs) (tg := tg) (ft := ft) (fe := fe) I ds 0 [] e h0 (by simpa using hl) (fun i d acc e hd h => by rw [Nat.zero_add] at h ⊢; exact step i d acc e hd h)
  rwa [Nat.zero_add] at this
/-- a comprehension that leaves the slots as they are -/
theorem lcD_pure {f : D → Option D} {ds : List D} {e : Env} (hl : ds.length ≤ 16777216) (step : ∀ d ∈ ds, lc1 vs tg ft fe d e = some (f d, e)) :
    lcD vs tg ft fe ds [] e = some (ds.filterMap f, e) := by
  obtain ⟨out, e', h1, h2, h3⟩ := lcD_inv (vs := vs) (tg := tg) (ft := ft) (fe := fe) (fun i acc e' => e' = e ∧ acc = (ds.take i).filterMap f) (ds := ds) (e := e) ⟨rfl, rfl⟩ hl (fun i d acc e' hd h => by
    obtain ⟨rfl, rfl⟩ := h
    refine ⟨_, _, step d (List.mem_of_getElem? hd), rfl, ?_⟩
    rw [List.take_succ, hd, List.filterMap_append]
    cases h : f d <;> simp [h])
  rw [h1, h2, h3, List.take_length]
/-- the same over encoded items -/
theorem lcD_map {α : Type} {enc : α → D} {f : α → Option D} {xs : List α} {e : Env} (hl : xs.length ≤ 16777216) (step : ∀ x ∈ xs, lc1 vs tg ft fe (enc x) e = some (f x, e)) :
    lcD vs tg ft fe (xs.map enc) [] e = some (xs.filterMap f, e) := by
  obtain ⟨out, e', h1, h2, h3⟩ := lcD_inv (vs := vs) (tg := tg) (ft := ft) (fe := fe) (fun i acc e' => e' = e ∧ acc = (xs.take i).filterMap f) (ds := xs.map enc) (e := e) ⟨rfl, rfl⟩ (by rw [List.length_map]; exact hl) (fun i d acc e' hd h => by
    obtain ⟨rfl, rfl⟩ := h
    rw [List.getElem?_map] at hd
    obtain ⟨x, hx, rfl⟩ := map_some hd
    refine ⟨_, _, step x (List.mem_of_getElem? hx), rfl, ?_⟩
    rw [List.take_succ, hx, List.filterMap_append]
    cases h : f x <;> simp [h])
  rw [h1, h2, h3, List.length_map, List.take_length]
end
/-! ### for -/
def forA (body : G) : Option Env → Option (Out × Env)
  | some e => body e
  | none => none
def for1 (tg : Tg) (body : G) (d : D) (e : Env) : Option (Out × Env) := forA body (tg d e)
section
variable {tg : Tg} {body : G} {d : D} {e : Env}
theorem for1_k : for1 tg body d e = forA body (tg d e) := rfl
theorem forA_s : forA body (some e) = body e := rfl
theorem forD_cons {ds : List D} : forD tg body (d :: ds) e = (for1 tg body d e).bind fun q => match q.1 with
    | .nx => forD tg body ds q.2
    | .ct => forD tg body ds q.2
    | .bk => some (.nx, q.2)
    | .rt o => some (.rt o, q.2) := by
  conv => lhs; unfold forD
  unfold for1 forA
  cases tg d e <;> rfl
theorem forD_nil : forD tg body [] e = some (.nx, e) := rfl
def FS (I : Nat → Env → Prop) (Q : Out → Env → Prop) (i : Nat) (e : Env) : Out → Prop
  | .nx => I i e
  | .ct => I i e
  | .bk => Q .nx e
  | .rt o => Q (.rt o) e
theorem forD_inv' (I : Nat → Env → Prop) (Q : Out → Env → Prop) : ∀ (ds : List D) (k : Nat) (e : Env), I k e →
    (∀ i d e, ds[i]? = some d → I (k + i) e → ∃ o e', for1 tg body d e = some (o, e') ∧ FS I Q (k + i + 1) e' o) → (∀ e, I (k + ds.length) e → Q .nx e) →
    ∃ o e', forD tg body ds e = some (o, e') ∧ Q o e'
  | [], k, e, h0, _, fin => ⟨_, _, rfl, fin e h0⟩
  | d :: ds, k, e, h0, step, fin => by
    obtain ⟨o, e1, h1, h2⟩ := step 0 d e rfl h0
    rw [forD_cons, h1]
    have st : ∀ i d e, ds[i]? = some d → I (k + 1 + i) e → ∃ o e', for1 tg body d e = some (o, e') ∧ FS I Q (k + 1 + i + 1) e' o := fun i d e hd h => by
      have := step (i + 1) d e (by simpa using hd) (by rw [show k + (i + 1) = k + 1 + i by omega]; exact h)
      rwa [show k + (i + 1) = k + 1 + i by omega] at this
    have fn : ∀ e, I (k + 1 + ds.length) e → Q .nx e := fun e h => fin e (by rw [List.length_cons, show k + (ds.length + 1) = k + 1 + ds.length by omega]; exact h)
    cases o with
    | nx => exact forD_inv' I Q ds (k + 1) e1 h2 st fn
    | ct => exact forD_inv' I Q ds (k + 1) e1 h2 st fn
    | bk => exact ⟨_, _, rfl, h2⟩
    | rt o => exact ⟨_, _, rfl, h2⟩
theorem forD_inv (I : Nat → Env → Prop) (Q : Out → Env → Prop) {ds : List D} {e : Env} (h0 : I 0 e)
    (step : ∀ i d e, ds[i]? = some d → I i e → ∃ o e', for1 tg body d e = some (o, e') ∧ FS I Q (i + 1) e' o) (fin : ∀ e, I ds.length e → Q .nx e) :
    ∃ o e', forD tg body ds e = some (o, e') ∧ Q o e' :=
  forD_inv' I Q ds 0 e h0 (fun i d e hd h => by rw [Nat.zero_add] at h ⊢; exact step i d e hd h) fun e h => fin e (by rwa [Nat.zero_add] at h)
/-- no turn leaves the loop -/
theorem forD_go (I : Nat → Env → Prop) {ds : List D} {e : Env} (h0 : I 0 e) (step : ∀ i d e, ds[i]? = some d → I i e → ∃ e', for1 tg body d e = some (.nx, e') ∧ I (i + 1) e') :
    ∃ e', forD tg body ds e = some (.nx, e') ∧ I ds.length e' := by
  obtain ⟨o, e', h1, h2⟩ := forD_inv I (fun o e => o = .nx ∧ I ds.length e) h0 (fun i d e hd h => by
    obtain ⟨e', h1, h2⟩ := step i d e hd h
    exact ⟨_, _, h1, h2⟩) fun e h => ⟨rfl, h⟩
  exact ⟨e', by rw [h1, h2.1], h2.2⟩
end
/-! ### while -/
def whB (body : G) : Option (Bool × Env) → Option (Out × Env)
  | some (b, e) => if b = true then body e else some (.bk, e)
  | none => none
def wh1 (c : M Bool) (body : G) (e : Env) : Option (Out × Env) := whB body (c e)
section
variable {c : M Bool} {body : G} {e : Env}
theorem wh1_k : wh1 c body e = whB body (c e) := rfl
theorem whB_s {b : Bool} : whB body (some (b, e)) = if b = true then body e else some (.bk, e) := rfl
theorem whB_ite {p : Prop} [Decidable p] {x y : Option (Bool × Env)} : whB body (if p then x else y) = if p then whB body x else whB body y := by split <;> rfl
theorem whD_s {n : Nat} : whD c body (n + 1) e = (wh1 c body e).bind fun q => match q.1 with
    | .nx => whD c body n q.2
    | .ct => whD c body n q.2
    | .bk => some (.nx, q.2)
    | .rt o => some (.rt o, q.2) := by
  conv => lhs; unfold whD
  unfold wh1
  cases c e with
  | none => rfl
  | some q =>
    obtain ⟨b, e1⟩ := q
    cases b with
    | false => rfl
    | true =>
      show (body e1).bind _ = (body e1).bind _
      rfl
/-- a while by a measure: I k holds, k falls -/
theorem whD_inv (I : Nat → Env → Prop) (Q : Out → Env → Prop) (step : ∀ k e, I k e → ∃ o e', wh1 c body e = some (o, e') ∧ FS (fun _ e => ∃ k', k' < k ∧ I k' e) Q 0 e' o) : ∀ (n k : Nat) (e : Env), k < n → I k e →
    ∃ o e', whD c body n e = some (o, e') ∧ Q o e'
  | 0, k, e, hk, _ => absurd hk (Nat.not_lt_zero _)
  | n + 1, k, e, hk, h => by
    obtain ⟨o, e1, h1, h2⟩ := step k e h
    rw [whD_s, h1]
    cases o with
    | nx =>
      obtain ⟨k', h3, h4⟩ := h2
      exact whD_inv I Q step n k' e1 (by omega) h4
    | ct =>
      obtain ⟨k', h3, h4⟩ := h2
      exact whD_inv I Q step n k' e1 (by omega) h4
    | bk => exact ⟨_, _, rfl, h2⟩
    | rt o => exact ⟨_, _, rfl, h2⟩
end
theorem seqIx_s {n : Nat} {i : Int} (h : 0 ≤ i) (h1 : i < n) : seqIndex? i n = some i.toNat := by
  unfold seqIndex?
  have h2 : ¬ i < 0 := by omega
  simp only [h2, if_false]
  have : (decide (0 ≤ i) && decide (i < (n : Int))) = true := by simp [h, h1]
  rw [if_pos this]
theorem popL_s {xs : List D} {i : Int} (h : 0 ≤ i) (h1 : i < xs.length) (h2 : xs.length ≤ 16777216) : popL xs [.int i] = (xs[i.toNat]?).map fun d => (d, xs.eraseIdx i.toNat) := by
  unfold popL
  dsimp only
  rw [if_pos (by omega), seqIx_s h h1]
  rfl
theorem rgC_s {a b : Int} (h1 : 0 ≤ a) (h2 : a ≤ 16777216) (h3 : 0 ≤ b) (h4 : b ≤ 16777216) : rgC (a, b) = true := by
  unfold rgC
  exact decide_eq_true ⟨by dsimp only; omega, by dsimp only; omega, by dsimp only; omega, by dsimp only; omega, by dsimp only; omega⟩
theorem rgL_0 {n : Nat} : rgL 0 (n : Int) = (List.range n).map fun i => ((i : Nat) : Int) := by
  unfold rgL
  rw [show (((n : Int) - 0).toNat) = n by omega]
  simp
theorem rgL_len {a b : Int} : (rgL a b).length = (b - a).toNat := by
  unfold rgL; rw [List.length_map, List.length_range]
theorem rgN_len {a : Int} {n : Nat} : (rgN a n).length = n := by
  unfold rgN; rw [List.length_map, List.length_range]
theorem rgN_at {a : Int} {n i : Nat} {d : D} (h : (rgN a n)[i]? = some d) : i < n ∧ d = .int (a + (i : Nat)) := by
  unfold rgN at h
  rw [List.getElem?_map] at h
  obtain ⟨j, h1, rfl⟩ := map_some h
  have hi : i < n := by
    have := (List.getElem?_eq_some_iff.mp h1).1
    rwa [List.length_range] at this
  rw [List.getElem?_range hi] at h1
  cases h1
  exact ⟨hi, rfl⟩
theorem rgN_eq {a : Int} {n : Nat} : rgN a n = (rgL a (a + n)).map .int := by
  unfold rgN rgL
  rw [show ((a + (n : Int) - a).toNat) = n by omega, List.map_map]
  rfl
theorem rg_in {n j : Int} (h : 0 ≤ n) (h2 : n ≤ 16777216) : -(2 ^ 62) ≤ n ∧ n < 2 ^ 62 := by omega
theorem perm_erase {α : Type} {xs : List α} {i : Nat} (h : i < xs.length) : ([xs[i]] ++ xs.eraseIdx i).Perm xs := by
  rw [List.eraseIdx_eq_take_drop_succ]
  conv => rhs; rw [← List.take_append_drop i xs, List.drop_eq_getElem_cons h]
  rw [← List.append_assoc]
  refine List.Perm.trans (List.perm_append_comm.append_right _) ?_
  rw [List.append_assoc]
  exact List.Perm.refl _
theorem map_eraseIdx {α β : Type} (f : α → β) : ∀ (xs : List α) (i : Nat), (xs.map f).eraseIdx i = (xs.eraseIdx i).map f
  | [], _ => rfl
  | _ :: _, 0 => rfl
  | x :: xs, i + 1 => by
    show f x :: (xs.map f).eraseIdx i = f x :: (xs.eraseIdx i).map f
    rw [map_eraseIdx f xs i]
/-! ### sorted ints, rows -/
theorem sortB_s {ns : List Int} : sortB [.lst (ns.map .int)] = some (.fd (.lst ((isort ns).map .int))) := by
  show (toInts (ns.map .int)).map _ = _
  have : toInts (ns.map D.int) = some ns := by
    induction ns with
    | nil => rfl
    | cons n ns ih => show (toInts (ns.map D.int)).map (n :: ·) = _; rw [ih]; rfl
  rw [this]; rfl
theorem isort_perm (ns : List Int) : (isort ns).Perm ns := List.mergeSort_perm ns _
theorem isort_le (ns : List Int) : (isort ns).Pairwise (· ≤ ·) := by
  have q := List.pairwise_mergeSort (le := fun a b : Int => decide (a ≤ b)) (fun x y z h1 h2 => by
    have h1 := of_decide_eq_true h1
    have h2 := of_decide_eq_true h2
    exact decide_eq_true (by omega)) (fun x y => by
    by_cases c : x ≤ y
    · simp [c]
    · have : y ≤ x := by omega
      simp [this]) ns
  exact q.imp fun h => of_decide_eq_true h
/-- ascending ints from 0 below n -/
structure Row (n : Nat) (r : List Int) : Prop where
  lt : r.Pairwise (· < ·)
  bd : ∀ x ∈ r, 0 ≤ x ∧ x < n
structure Rows (rs : List (List Int)) : Prop where
  row : ∀ r ∈ rs, Row rs.length r
abbrev rowsD (rs : List (List Int)) : D := .tup (rs.map tupI)
theorem row_sort {n : Nat} {ns : List Int} (h : ns.Nodup) (hb : ∀ x ∈ ns, 0 ≤ x ∧ x < n) : Row n (isort ns) := by
  refine ⟨?_, fun x hx => hb x ((isort_perm ns).mem_iff.mp hx)⟩
  have h1 := isort_le ns
  have h2 : (isort ns).Nodup := (isort_perm ns).nodup_iff.mpr h
  exact (List.pairwise_and_iff.mpr ⟨h1, h2⟩).imp fun ⟨a, b⟩ => by omega
theorem Row.nodup {n : Nat} {r : List Int} (h : Row n r) : r.Nodup := h.lt.imp fun h => by omega
theorem asc_len {n : Int} : ∀ {r : List Int} {a : Int}, r.Pairwise (· < ·) → (∀ x ∈ r, a ≤ x ∧ x < n) → (r.length : Int) ≤ max 0 (n - a)
  | [], _, _, _ => by simp only [List.length_nil]; omega
  | x :: r, a, h, hb => by
    obtain ⟨h1, h2⟩ := List.pairwise_cons.mp h
    have := asc_len (a := x + 1) h2 fun y hy => ⟨by have := h1 y hy; omega, (hb y (List.mem_cons_of_mem _ hy)).2⟩
    have := hb x List.mem_cons_self
    rw [List.length_cons]; omega
theorem Row.len {n : Nat} {r : List Int} (h : Row n r) : r.length ≤ n := by
  have := asc_len h.lt h.bd
  omega
theorem inV_int {x : Int} {ns : List Int} : inV (.int x) (ns.map V.int) = decide (x ∈ ns) := by
  unfold inV
  rw [List.any_map]
  rw [Bool.eq_iff_iff, List.any_eq_true, decide_eq_true_iff]
  constructor
  · rintro ⟨y, hy, e⟩
    have e : (y == x) = true := e
    rw [beq_iff_eq] at e
    exact e ▸ hy
  · intro h
    exact ⟨x, h, show (x == x) = true from beq_self_eq_true x⟩
theorem toVs_int {ns : List Int} : toVs (ns.map .int) = some (ns.map V.int) := by
  induction ns with
  | nil => rfl
  | cons n ns ih => show (toV (.int n)).bind _ = _; rw [ih]; rfl
theorem inD_vl {x : Int} {ns : List Int} {neg : Bool} : inD neg (.int x) (.val (.lst (ns.map .int))) = some (.bl (if neg = true then !decide (x ∈ ns) else decide (x ∈ ns))) := by
  show (toVs (ns.map .int)).map _ = _
  rw [toVs_int, ← inV_int]; rfl
theorem inD_l {x : Int} {ns : List Int} {neg : Bool} : inD neg (.int x) (.lst (ns.map .int)) = some (.bl (if neg = true then !decide (x ∈ ns) else decide (x ∈ ns))) := by
  show (toVs (ns.map .int)).map _ = _
  rw [toVs_int, ← inV_int]; rfl
theorem inD_vt {x : Int} {ns : List Int} {neg : Bool} : inD neg (.int x) (.val (.tup (ns.map .int))) = some (.bl (if neg = true then !decide (x ∈ ns) else decide (x ∈ ns))) := by
  show (toVs (ns.map .int)).map _ = _
  rw [toVs_int, ← inV_int]; rfl
theorem inD_ti {x : Int} {ns : List Int} {neg : Bool} : inD neg (.int x) (.val (tupI ns)) = some (.bl (if neg = true then !decide (x ∈ ns) else decide (x ∈ ns))) := inD_vt
theorem eqD_int {i j : Int} : eqD (.int i) (.int j) = some (.bl (decide (i = j))) := by
  show (if (SeqAt.shaped (.int i) && SeqAt.shaped (.int j)) = true then some (D.bl (i == j)) else none) = _
  rw [if_pos (by rfl)]
  congr 2
theorem neD_int {i j : Int} : neD (.int i) (.int j) = some (.bl (!decide (i = j))) := by
  show (if (SeqAt.shaped (.int i) && SeqAt.shaped (.int j)) = true then some (D.bl (!(i == j))) else none) = _
  rw [if_pos (by rfl)]
  congr 2
theorem rgN_at0 {n i : Nat} {d : D} (h : (rgN 0 n)[i]? = some d) : i < n ∧ d = .int (i : Nat) := by
  obtain ⟨h1, rfl⟩ := rgN_at h
  exact ⟨h1, by rw [Int.zero_add]⟩
theorem mapI_at {p : List Int} {i : Nat} (h : i < p.length) : ∃ q, q ∈ p ∧ p[i]? = some q ∧ (p.map D.int)[i]? = some (.int q) :=
  ⟨p[i], List.getElem_mem h, List.getElem?_eq_getElem h, by rw [List.getElem?_map, List.getElem?_eq_getElem h]; rfl⟩
theorem perm_rg {p : List Int} {n : Nat} (h : p.Perm (rgL 0 n)) : p.length = n ∧ p.Nodup ∧ ∀ x, x ∈ p ↔ 0 ≤ x ∧ x < n := by
  refine ⟨by rw [h.length_eq, rgL_len]; omega, h.nodup_iff.mpr ?_, fun x => h.mem_iff.trans ?_⟩
  · rw [rgL_0]
    exact List.pairwise_map.mpr (List.nodup_range.imp fun h => by omega)
  · rw [rgL_0, List.mem_map]
    constructor
    · rintro ⟨i, h1, rfl⟩
      have := List.mem_range.mp h1
      omega
    · intro h
      exact ⟨x.toNat, List.mem_range.mpr (by omega), by omega⟩
theorem mapI_snoc {ys : List Int} {q : Int} : ys.map D.int ++ [.int q] = (ys ++ [q]).map .int := by rw [List.map_append]; rfl
theorem mapI_app {xs ys : List Int} : xs.map D.int ++ ys.map .int = (xs ++ ys).map .int := by rw [List.map_append]
theorem mapT_snoc {rs : List (List Int)} {r : List Int} : rs.map tupI ++ [.tup (r.map .int)] = (rs ++ [r]).map tupI := by rw [List.map_append]; rfl
theorem mapT_app {rs qs : List (List Int)} : rs.map tupI ++ qs.map tupI = (rs ++ qs).map tupI := by rw [List.map_append]
/-! parts of a block -/
theorem gseq_a2 {A B R : G} {e : Env} : gseq A (gseq B R) e = gk (gseq A B e) R := by
  rw [gseq_k, gseq_k]
  cases A e with
  | none => rfl
  | some q =>
    obtain ⟨o, e1⟩ := q
    cases o <;> rfl
theorem gseq_a3 {A B C R : G} {e : Env} : gseq A (gseq B (gseq C R)) e = gk (gseq A (gseq B C) e) R := by
  rw [gseq_k, gseq_k]
  cases A e with
  | none => rfl
  | some q =>
    obtain ⟨o, e1⟩ := q
    cases o with
    | nx => rw [gk_nx, gk_nx]; exact gseq_a2
    | _ => rfl
theorem gseq_a4 {A B C C' R : G} {e : Env} : gseq A (gseq B (gseq C (gseq C' R))) e = gk (gseq A (gseq B (gseq C C')) e) R := by
  rw [gseq_k, gseq_k]
  cases A e with
  | none => rfl
  | some q =>
    obtain ⟨o, e1⟩ := q
    cases o with
    | nx => rw [gk_nx, gk_nx]; exact gseq_a3
    | _ => rfl
theorem gk_go {X : Option (Out × Env)} {R : G} {Q : Env → Prop} (P : Env → Prop) (h1 : ∃ e, X = some (.nx, e) ∧ P e) (h2 : ∀ e, P e → ∃ e', R e = some (.nx, e') ∧ Q e') : ∃ e', gk X R = some (.nx, e') ∧ Q e' := by
  obtain ⟨e, h, hp⟩ := h1
  rw [h]
  exact h2 e hp
theorem rgL_mem {a b x : Int} : x ∈ rgL a b ↔ a ≤ x ∧ x < b := by
  unfold rgL
  rw [List.mem_map]
  constructor
  · rintro ⟨i, h1, rfl⟩
    have := List.mem_range.mp h1
    omega
  · intro h
    exact ⟨(x - a).toNat, List.mem_range.mpr (by omega), by omega⟩
theorem rgL_lt (a b : Int) : (rgL a b).Pairwise (· < ·) := by
  unfold rgL
  exact List.pairwise_map.mpr (List.pairwise_lt_range.imp fun h => by omega)
theorem rgL_nodup (a b : Int) : (rgL a b).Nodup := (rgL_lt a b).imp fun h => by omega
section
variable {α : Type} {enc : α → D} {vs : List Nat} {tg : Tg} {ft : M Bool} {fe : M D} {e : Env}
theorem lcD_mapS {f : α → D} {xs : List α} (hl : xs.length ≤ 16777216) (step : ∀ x ∈ xs, lc1 vs tg ft fe (enc x) e = some (some (f x), e)) :
    lcD vs tg ft fe (xs.map enc) [] e = some (xs.map f, e) := by
  rw [lcD_map (f := fun x => some (f x)) hl step]
  rw [List.filterMap_eq_map']
theorem lcD_filt {p : α → Bool} {f : α → D} {xs : List α} (hl : xs.length ≤ 16777216) (step : ∀ x ∈ xs, lc1 vs tg ft fe (enc x) e = some (if p x = true then some (f x) else none, e)) :
    lcD vs tg ft fe (xs.map enc) [] e = some ((xs.filter p).map f, e) := by
  rw [lcD_map (f := fun x => if p x = true then some (f x) else none) hl step]
  congr 2
  clear step hl
  induction xs with
  | nil => rfl
  | cons x xs ih =>
    rw [List.filterMap_cons, List.filter_cons]
    by_cases c : p x = true
    · rw [if_pos c, if_pos c, ih]; rfl
    · rw [if_neg c, if_neg c]; exact ih
end
theorem rowsD_at {rs : List (List Int)} {i : Nat} (h : i < rs.length) : (rs.map tupI)[i]? = some (tupI (rs.getD i [])) := by
  rw [List.getElem?_map, List.getElem?_eq_getElem h, List.getD_eq_getElem?_getD, List.getElem?_eq_getElem h]; rfl
theorem Rows.get {rs : List (List Int)} (h : Rows rs) {i : Nat} (hi : i < rs.length) : Row rs.length (rs.getD i []) :=
  h.row _ (by rw [List.getD_eq_getElem?_getD, List.getElem?_eq_getElem hi]; exact List.getElem_mem _)
theorem mapI_getD {p : List Int} {i : Nat} (h : i < p.length) : (p.map D.int)[i]? = some (.int (p.getD i 0)) := by
  rw [List.getElem?_map, List.getElem?_eq_getElem h, List.getD_eq_getElem?_getD, List.getElem?_eq_getElem h]; rfl
theorem gD_mem {α : Type} {p : List α} {i : Nat} {d : α} (h : i < p.length) : p.getD i d ∈ p := by
  rw [List.getD_eq_getElem?_getD, List.getElem?_eq_getElem h]; exact List.getElem_mem _
theorem getD_inj {p : List Int} {i j : Nat} (hn : p.Nodup) (hi : i < p.length) (hj : j < p.length) (h : p.getD i 0 = p.getD j 0) : i = j := by
  rw [List.getD_eq_getElem?_getD, List.getElem?_eq_getElem hi, List.getD_eq_getElem?_getD, List.getElem?_eq_getElem hj] at h
  exact (List.getElem_inj hn).mp h
theorem isiB_ii {tab : Nat → Option Bool} {i : Int} : isiB "int" tab (.int i) = some (.bl true) := by
  show (kitB "int" "int").map D.bl = _
  rw [show kitB "int" "int" = some true by decide +kernel]; rfl
theorem isiB_ib {tab : Nat → Option Bool} {i : Int} : isiB "bool" tab (.int i) = some (.bl false) := by
  show (kitB "int" "bool").map D.bl = _
  rw [show kitB "int" "bool" = some false by decide +kernel]; rfl
theorem isiB_tt {tab : Nat → Option Bool} {i : List D} : isiB "tuple" tab (.tup i) = some (.bl true) := by
  show (kitB "tuple" "tuple").map D.bl = _
  rw [show kitB "tuple" "tuple" = some true by decide +kernel]; rfl
theorem isiB_ll {tab : Nat → Option Bool} {i : List D} : isiB "list" tab (.lst i) = some (.bl true) := by
  show (kitB "list" "list").map D.bl = _
  rw [show kitB "list" "list" = some true by decide +kernel]; rfl
theorem isiB_bb {tab : Nat → Option Bool} {b : Bool} : isiB "bool" tab (.bl b) = some (.bl true) := by
  show (kitB "bool" "bool").map D.bl = _
  rw [show kitB "bool" "bool" = some true by decide +kernel]; rfl
theorem isiC_o {tab : Nat → Option Bool} {c : Nat} {gs : List (Str × D)} : isiC tab (.obj c gs) = (tab c).map .bl := rfl
def zipI (xs ys : List Int) : List (Int × Int) := xs.zip ys
def prI (p : Int × Int) : D := .tup [.int p.1, .int p.2]
theorem zpD_int : ∀ {xs ys : List Int}, zpD (xs.map .int) (ys.map .int) = (xs.zip ys).map prI
  | [], _ => by simp [zpD]
  | _ :: _, [] => by simp [zpD]
  | x :: xs, y :: ys => by
    show D.tup [.int x, .int y] :: zpD (xs.map .int) (ys.map .int) = _
    rw [zpD_int]; rfl
theorem toBls_b {bs : List Bool} : toBls (bs.map .bl) = some bs := by
  induction bs with
  | nil => rfl
  | cons n ns ih => show (toBls (ns.map D.bl)).map (n :: ·) = _; rw [ih]; rfl
theorem allB_b {bs : List Bool} : allB [.lst (bs.map .bl)] = some (.bl (bs.all id)) := by
  show (toBls (bs.map .bl)).map _ = _
  rw [toBls_b]; rfl
theorem anyB_b {bs : List Bool} : anyB [.lst (bs.map .bl)] = some (.bl (bs.any id)) := by
  show (toBls (bs.map .bl)).map _ = _
  rw [toBls_b]; rfl
/-- all of some flags -/
theorem allB_m {α : Type} {xs : List α} {f : α → Bool} : allB [.lst (xs.map fun x => .bl (f x))] = some (.bl (xs.all f)) := by
  have := @allB_b (xs.map f)
  rw [List.map_map] at this
  rw [show (xs.map fun x => D.bl (f x)) = xs.map (D.bl ∘ f) from rfl, this, List.all_map]; rfl
theorem anyB_m {α : Type} {xs : List α} {f : α → Bool} : anyB [.lst (xs.map fun x => .bl (f x))] = some (.bl (xs.any f)) := by
  have := @anyB_b (xs.map f)
  rw [List.map_map] at this
  rw [show (xs.map fun x => D.bl (f x)) = xs.map (D.bl ∘ f) from rfl, this, List.any_map]; rfl
theorem cutD_1 {xs : List D} : cutD xs (some 1) none = xs.drop 1 := by
  unfold cutD
  rw [show HT.sIx xs.length 0 (some 1) = min 1 xs.length from HT.sIx_nat _ _ 1, HT.sIx_none]
  cases xs with
  | nil => rfl
  | cons x xs =>
    rw [show min 1 (x :: xs).length = 1 by rw [List.length_cons]; omega, List.take_of_length_le (by rw [List.length_drop]; exact Nat.le_refl _)]
theorem cutD_to {xs : List D} {k : Nat} : cutD xs none (some (k : Int)) = xs.take k := by
  unfold cutD
  rw [HT.sIx_nat, HT.sIx_none, List.drop_zero, Nat.sub_zero]
  by_cases h : k ≤ xs.length
  · rw [show min k xs.length = k by omega]
  · rw [show min k xs.length = xs.length by omega, List.take_length, List.take_of_length_le (by omega)]
theorem cutD_from {xs : List D} {k : Nat} : cutD xs (some (k : Int)) none = xs.drop k := by
  unfold cutD
  rw [HT.sIx_nat, HT.sIx_none]
  by_cases h : k ≤ xs.length
  · rw [show min k xs.length = k by omega, List.take_of_length_le (by rw [List.length_drop]; exact Nat.le_refl _)]
  · rw [show min k xs.length = xs.length by omega, List.drop_eq_nil_of_le (Nat.le_refl _), List.drop_eq_nil_of_le (by omega), List.take_nil]
theorem cutD_from1 {xs : List D} {k : Nat} : cutD xs (some ((k : Int) + 1)) none = xs.drop (k + 1) := @cutD_from xs (k + 1)
theorem enD_eq {α : Type} {enc : α → D} : ∀ {xs : List α} {k : Nat}, enD k (xs.map enc) = (xs.zipIdx k).map fun p => .tup [.int (p.2 : Nat), enc p.1]
  | [], _ => rfl
  | x :: xs, k => by
    show D.tup [.int (k : Nat), enc x] :: enD (k + 1) (xs.map enc) = _
    rw [enD_eq]; rfl
abbrev tabD (c : Nat) (rs : List (List Int)) : D := .obj c [("rows", rowsD rs), ("size", .int rs.length)]
abbrev tabO (c : Nat) (rs : List (List Int)) : Od := .obj c [("rows", .val (rowsD rs)), ("size", .val (.int rs.length))]
theorem asc_zip : ∀ {xs : List Int}, (xs.zip (xs.drop 1)).all (fun p => decide (p.1 < p.2)) = true ↔ xs.Pairwise (· < ·)
  | [] => by simp
  | [x] => by simp
  | x :: y :: xs => by
    have ih := @asc_zip (y :: xs)
    have e : ((x :: y :: xs).zip ((x :: y :: xs).drop 1)).all (fun p => decide (p.1 < p.2)) = (decide (x < y) && ((y :: xs).zip ((y :: xs).drop 1)).all (fun p => decide (p.1 < p.2))) := rfl
    rw [e, Bool.and_eq_true, ih, decide_eq_true_iff, List.pairwise_cons (a := x)]
    constructor
    · rintro ⟨h1, h2⟩
      refine ⟨fun z hz => ?_, h2⟩
      rcases List.mem_cons.mp hz with rfl | hz
      · exact h1
      · have := (List.pairwise_cons.mp h2).1 z hz; omega
    · rintro ⟨h1, h2⟩
      exact ⟨h1 y List.mem_cons_self, h2⟩
/-- the ties of rows, ascending -/
def tiesL (rs : List (List Int)) : List (List Int) := (rs.zipIdx 0).flatMap fun p => p.1.map fun x => [(p.2 : Int), x]
theorem flat_take {α β : Type} {f : α → List β} {xs : List α} {i : Nat} {x : α} (h : xs[i]? = some x) : (xs.take (i + 1)).flatMap f = (xs.take i).flatMap f ++ f x := by
  rw [List.take_succ, h, List.flatMap_append]
  simp
theorem flat_len {α β : Type} {f : α → List β} {m : Nat} : ∀ {xs : List α}, (∀ x ∈ xs, (f x).length ≤ m) → (xs.flatMap f).length ≤ xs.length * m
  | [], _ => by simp
  | x :: xs, h => by
    rw [List.flatMap_cons, List.length_append, List.length_cons, Nat.add_mul, Nat.one_mul]
    have := flat_len (xs := xs) fun y hy => h y (List.mem_cons_of_mem _ hy)
    have := h x List.mem_cons_self
    omega
theorem set_cut {α : Type} {xs : List α} {i : Nat} {x : α} (h : i < xs.length) : xs.take i ++ x :: xs.drop (i + 1) = xs.set i x := by
  rw [List.set_eq_take_append_cons_drop, if_pos h]
/-! ### equality of plain data -/
def plainD : Nat → D → Bool
  | _, .int _ => true
  | _, .non => true
  | k + 1, .tup xs => xs.all (plainD k)
  | k + 1, .lst xs => xs.all (plainD k)
  | _, _ => false
theorem toPs_all {k : Nat} (ih : ∀ a, plainD k a = true → ∃ p, toP a = some p ∧ p.canLay0 = true ∧ p.depth ≤ k) : ∀ {xs : List D}, xs.all (plainD k) = true → ∃ ps, toPs xs = some ps ∧ PyData.canLayAll0 ps = true ∧ PyData.depthAll ps ≤ k
  | [], _ => ⟨[], rfl, rfl, Nat.zero_le _⟩
  | x :: xs, h => by
    rw [List.all_cons, Bool.and_eq_true] at h
    obtain ⟨p, h1, h2, h3⟩ := ih x h.1
    obtain ⟨ps, h4, h5, h6⟩ := toPs_all ih h.2
    refine ⟨p :: ps, ?_, ?_, ?_⟩
    · unfold toPs; rw [h1, h4]
    · unfold PyData.canLayAll0; rw [h2, h5]; rfl
    · unfold PyData.depthAll; omega
theorem toP_all : ∀ (k : Nat) (a : D), plainD k a = true → ∃ p, toP a = some p ∧ p.canLay0 = true ∧ p.depth ≤ k
  | k, .int i, _ => ⟨.int i, by unfold toP; rfl, by unfold PyData.canLay0; rfl, by unfold PyData.depth; omega⟩
  | k, .non, _ => ⟨.none, by unfold toP; rfl, by unfold PyData.canLay0; rfl, by unfold PyData.depth; omega⟩
  | k + 1, .tup xs, h => by
    obtain ⟨ps, h4, h5, h6⟩ := toPs_all (toP_all k) (xs := xs) (by unfold plainD at h; exact h)
    exact ⟨.tuple ps, by unfold toP; rw [h4]; rfl, by unfold PyData.canLay0; exact h5, by unfold PyData.depth; omega⟩
  | k + 1, .lst xs, h => by
    obtain ⟨ps, h4, h5, h6⟩ := toPs_all (toP_all k) (xs := xs) (by unfold plainD at h; exact h)
    exact ⟨.list ps, by unfold toP; rw [h4]; rfl, by unfold PyData.canLay0; exact h5, by unfold PyData.depth; omega⟩
  | 0, .tup xs, h => by unfold plainD at h; cases h
  | 0, .lst xs, h => by unfold plainD at h; cases h
  | k, .bl _, h => by unfold plainD at h; cases h
  | k, .str _, h => by unfold plainD at h; cases h
  | k, .cn _, h => by unfold plainD at h; cases h
  | k, .obj _ _, h => by unfold plainD at h; cases h
  | k, .scr _, h => by unfold plainD at h; cases h
  | k, .dik _, h => by unfold plainD at h; cases h
  | k, .dit _, h => by unfold plainD at h; cases h
  | k, .memo _ _, h => by unfold plainD at h; cases h
  | k, .lik _, h => by unfold plainD at h; cases h
  | k, .lit _, h => by unfold plainD at h; cases h
theorem eqvs_all {k : Nat} (ih : ∀ a b p q, plainD k a = true → plainD k b = true → toP a = some p → toP b = some q → (PyData.eqv p q = true ↔ a = b)) : ∀ {xs ys : List D} {ps qs : List PyData}, xs.all (plainD k) = true → ys.all (plainD k) = true → toPs xs = some ps → toPs ys = some qs → (PyData.eqvAll ps qs = true ↔ xs = ys)
  | [], [], _, _, _, _, e1, e2 => by unfold toPs at e1 e2; cases e1; cases e2; simp [PyData.eqvAll]
  | [], y :: ys, _, _, _, h2, e1, e2 => by
    unfold toPs at e1 e2; cases e1
    split at e2
    · cases e2; simp [PyData.eqvAll]
    · cases e2
  | x :: xs, [], _, _, _, h2, e1, e2 => by
    unfold toPs at e1 e2; cases e2
    split at e1
    · cases e1; simp [PyData.eqvAll]
    · cases e1
  | x :: xs, y :: ys, _, _, h1, h2, e1, e2 => by
    rw [List.all_cons, Bool.and_eq_true] at h1 h2
    unfold toPs at e1 e2
    split at e1
    · rename_i p ps h3 h4
      split at e2
      · rename_i q qs h5 h6
        cases e1; cases e2
        unfold PyData.eqvAll
        rw [Bool.and_eq_true, ih x y p q h1.1 h2.1 h3 h5, eqvs_all ih h1.2 h2.2 h4 h6, List.cons.injEq]
      · cases e2
    · cases e1
theorem eqv_all : ∀ (k : Nat) (a b : D) (p q : PyData), plainD k a = true → plainD k b = true → toP a = some p → toP b = some q → (PyData.eqv p q = true ↔ a = b) := by
  intro k
  induction k with
  | zero =>
    intro a b p q h1 h2 e1 e2
    cases a <;> (try (unfold plainD at h1; cases h1; done)) <;> cases b <;> (try (unfold plainD at h2; cases h2; done)) <;> unfold toP at e1 e2 <;> cases e1 <;> cases e2 <;> simp [PyData.eqv]
  | succ k ih =>
    intro a b p q h1 h2 e1 e2
    cases a <;> (try (unfold plainD at h1; cases h1; done)) <;> cases b <;> (try (unfold plainD at h2; cases h2; done)) <;> unfold toP at e1 e2
    all_goals first
      | (cases e1; cases e2; simp [PyData.eqv]; done)
      | (obtain ⟨ps, h3, rfl⟩ := map_some e1
         obtain ⟨qs, h4, rfl⟩ := map_some e2
         unfold plainD at h1 h2
         first
           | (have := eqvs_all ih h1 h2 h3 h4; simp only [PyData.eqv, this, D.tup.injEq, D.lst.injEq]; done)
           | (simp [PyData.eqv]; done))
      | (cases e1
         obtain ⟨qs, h4, rfl⟩ := map_some e2
         simp [PyData.eqv]; done)
      | (cases e2
         obtain ⟨qs, h4, rfl⟩ := map_some e1
         simp [PyData.eqv]; done)
theorem eqD_pl {k : Nat} (hk : k ≤ 64) {a b : D} (h1 : plainD k a = true) (h2 : plainD k b = true) : ∃ r, eqD a b = some (.bl r) ∧ neD a b = some (.bl (!r)) ∧ (r = true ↔ a = b) := by
  obtain ⟨p, e1, c1, d1⟩ := toP_all k a h1
  obtain ⟨q, e2, c2, d2⟩ := toP_all k b h2
  have hs : (SeqAt.shaped p && SeqAt.shaped q) = true := by
    unfold SeqAt.shaped
    rw [c1, c2, decide_eq_true (show p.depth ≤ 64 by omega), decide_eq_true (show q.depth ≤ 64 by omega)]; rfl
  refine ⟨PyData.eqv p q, ?_, ?_, eqv_all k a b p q h1 h2 e1 e2⟩
  · unfold eqD; rw [e1, e2]; dsimp only; rw [if_pos hs]
  · unfold neD; rw [e1, e2]; dsimp only; rw [if_pos hs]
theorem eqD_enc {α : Type} [DecidableEq α] {enc : α → D} (k : Nat) (hk : k ≤ 64) (hp : ∀ x, plainD k (enc x) = true) (inj : ∀ x y, enc x = enc y → x = y) (x y : α) : eqD (enc x) (enc y) = some (.bl (decide (x = y))) := by
  obtain ⟨r, h1, _, h3⟩ := eqD_pl hk (hp x) (hp y)
  rw [h1]
  congr 2
  rw [Bool.eq_iff_iff, h3, decide_eq_true_iff]
  exact ⟨inj x y, fun h => by rw [h]⟩
theorem neD_enc {α : Type} [DecidableEq α] {enc : α → D} (k : Nat) (hk : k ≤ 64) (hp : ∀ x, plainD k (enc x) = true) (inj : ∀ x y, enc x = enc y → x = y) (x y : α) : neD (enc x) (enc y) = some (.bl (!decide (x = y))) := by
  obtain ⟨r, _, h2, h3⟩ := eqD_pl hk (hp x) (hp y)
  rw [h2]
  congr 3
  rw [Bool.eq_iff_iff, h3, decide_eq_true_iff]
  exact ⟨inj x y, fun h => by rw [h]⟩
theorem int_inj : ∀ x y : Int, D.int x = D.int y → x = y := fun x y h => by cases h; rfl
theorem tupI_inj : ∀ x y : List Int, tupI x = tupI y → x = y := fun x y h => by
  injection h with h
  exact (List.map_inj_right int_inj).mp h
theorem tupI_pl {k : Nat} (x : List Int) : plainD (k + 1) (tupI x) = true := by
  unfold plainD
  rw [List.all_map, List.all_eq_true]
  intro y _
  show plainD k (.int y) = true
  unfold plainD; rfl
def lstI (x : List Int) : D := .lst (x.map .int)
theorem lstI_inj : ∀ x y : List Int, lstI x = lstI y → x = y := fun x y h => by
  injection h with h
  exact (List.map_inj_right int_inj).mp h
theorem lstI_pl {k : Nat} (x : List Int) : plainD (k + 1) (lstI x) = true := by
  unfold lstI plainD
  rw [List.all_map, List.all_eq_true]
  intro y _
  show plainD k (.int y) = true
  unfold plainD; rfl
theorem rowsD_inj : ∀ x y : List (List Int), rowsD x = rowsD y → x = y := fun x y h => by
  injection h with h
  exact (List.map_inj_right tupI_inj).mp h
theorem rowsD_pl {k : Nat} (x : List (List Int)) : plainD (k + 2) (rowsD x) = true := by
  unfold plainD
  rw [List.all_map, List.all_eq_true]
  intro y _
  exact tupI_pl y
def lstT (x : List (List Int)) : D := .lst (x.map tupI)
theorem lstT_inj : ∀ x y : List (List Int), lstT x = lstT y → x = y := fun x y h => by
  injection h with h
  exact (List.map_inj_right tupI_inj).mp h
theorem lstT_pl {k : Nat} (x : List (List Int)) : plainD (k + 2) (lstT x) = true := by
  unfold lstT plainD
  rw [List.all_map, List.all_eq_true]
  intro y _
  exact tupI_pl y
theorem eqD_ti {x y : List Int} : eqD (.tup (x.map .int)) (.tup (y.map .int)) = some (.bl (decide (x = y))) := eqD_enc (enc := tupI) 1 (by decide) tupI_pl tupI_inj x y
theorem neD_ti {x y : List Int} : neD (.tup (x.map .int)) (.tup (y.map .int)) = some (.bl (!decide (x = y))) := neD_enc (enc := tupI) 1 (by decide) tupI_pl tupI_inj x y
theorem eqD_li {x y : List Int} : eqD (.lst (x.map .int)) (.lst (y.map .int)) = some (.bl (decide (x = y))) := eqD_enc (enc := lstI) 1 (by decide) lstI_pl lstI_inj x y
theorem neD_li {x y : List Int} : neD (.lst (x.map .int)) (.lst (y.map .int)) = some (.bl (!decide (x = y))) := neD_enc (enc := lstI) 1 (by decide) lstI_pl lstI_inj x y
theorem eqD_tt {x y : List (List Int)} : eqD (.tup (x.map tupI)) (.tup (y.map tupI)) = some (.bl (decide (x = y))) := eqD_enc (enc := rowsD) 2 (by decide) rowsD_pl rowsD_inj x y
theorem neD_tt {x y : List (List Int)} : neD (.tup (x.map tupI)) (.tup (y.map tupI)) = some (.bl (!decide (x = y))) := neD_enc (enc := rowsD) 2 (by decide) rowsD_pl rowsD_inj x y
theorem eqD_lt {x y : List (List Int)} : eqD (.lst (x.map tupI)) (.lst (y.map tupI)) = some (.bl (decide (x = y))) := eqD_enc (enc := lstT) 2 (by decide) lstT_pl lstT_inj x y
theorem neD_lt {x y : List (List Int)} : neD (.lst (x.map tupI)) (.lst (y.map tupI)) = some (.bl (!decide (x = y))) := neD_enc (enc := lstT) 2 (by decide) lstT_pl lstT_inj x y
section
variable {cl : List Nat} {nf : Nat → Nat → Bool} {p : Fn} {y : D}
theorem eqA_i {i : Int} : eqA cl nf p (.int i) y = eqD (.int i) y := rfl
theorem eqA_t {i : List D} : eqA cl nf p (.tup i) y = eqD (.tup i) y := rfl
theorem eqA_l {i : List D} : eqA cl nf p (.lst i) y = eqD (.lst i) y := rfl
theorem eqA_n : eqA cl nf p .non y = eqD .non y := rfl
theorem eqA_s {i : Str} : eqA cl nf p (.str i) y = eqD (.str i) y := rfl
theorem eqA_b {i : Bool} : eqA cl nf p (.bl i) y = eqD (.bl i) y := rfl
theorem neA_i {i : Int} : neA cl nf p (.int i) y = neD (.int i) y := rfl
theorem neA_t {i : List D} : neA cl nf p (.tup i) y = neD (.tup i) y := rfl
theorem neA_l {i : List D} : neA cl nf p (.lst i) y = neD (.lst i) y := rfl
theorem neA_n : neA cl nf p .non y = neD .non y := rfl
theorem neA_s {i : Str} : neA cl nf p (.str i) y = neD (.str i) y := rfl
theorem neA_b {i : Bool} : neA cl nf p (.bl i) y = neD (.bl i) y := rfl
theorem eqA_o {c : Nat} {gs : List (Str × D)} {k : Bool} {r : Env} (h : (cl.contains c && nfY nf c y) = true) (h2 : p [vv (.obj c gs), vv y] = some (.fd (.val (.bl k)), r)) : eqA cl nf p (.obj c gs) y = some (.bl k) := by
  show oeqD cl nf p false (.obj c gs) y = _
  unfold oeqD
  dsimp only
  rw [Bool.and_eq_true] at h
  rw [if_pos h, h2]; rfl
theorem neA_o {c : Nat} {gs : List (Str × D)} {k : Bool} {r : Env} (h : (cl.contains c && nfY nf c y) = true) (h2 : p [vv (.obj c gs), vv y] = some (.fd (.val (.bl k)), r)) : neA cl nf p (.obj c gs) y = some (.bl (!k)) := by
  show oeqD cl nf p true (.obj c gs) y = _
  unfold oeqD
  dsimp only
  rw [Bool.and_eq_true] at h
  rw [if_pos h, h2]; rfl
end
theorem mapT_snoc2 {rs : List (List Int)} {a b : Int} : rs.map tupI ++ [.tup [.int a, .int b]] = (rs ++ [[a, b]]).map tupI := by rw [List.map_append]; rfl
theorem eqD_tp {x : List Int} {a b : Int} : eqD (.tup (x.map .int)) (.tup [.int a, .int b]) = some (.bl (decide (x = [a, b]))) := eqD_ti (y := [a, b])
theorem neD_tp {x : List Int} {a b : Int} : neD (.tup (x.map .int)) (.tup [.int a, .int b]) = some (.bl (!decide (x = [a, b]))) := neD_ti (y := [a, b])
/-! ### dicts -/
section
variable {env e : Env} {fa fb fv : M D} {fx : P Fd} {pb : P D} {d k : D} {o : Od}
theorem pdg_s : pdg fx pb env = (fx env).bind fun x => (pb env).bind fun k => (dgetF x k).join := rfl
theorem pdi_s {neg : Bool} : pdi neg fx pb env = (pb env).bind fun k => (fx env).bind fun x => (dgetF x k).map fun r => .bl (if neg = true then !r.isSome else r.isSome) := rfl
theorem mdi_k {neg : Bool} : mdi neg fx fb env = mbk (fb env) fun k => pu fun env => (fx env).bind fun x => (dgetF x k).map fun r => .bl (if neg = true then !r.isSome else r.isSome) := mb_k
def mdgx (i : Nat) (o : Option (D × Env)) (x : Option (Option Od)) : Option (D × Env) := x.join.bind fun _ => mbk o (fun k => pu fun env => (px i env).bind fun x => (dgetF x k).join)
theorem mdg_k {i : Nat} : mdg i fb env = mdgx i (fb env) env[i]? := by
  unfold mdg mdgx
  cases (env[i]?).join with
  | none => rfl
  | some _ =>
    simp only [Option.bind_some]
    exact mb_k
theorem mdgx_s {i : Nat} {x : Option (D × Env)} : mdgx i x (some (some o)) = mbk x (fun k => pu fun env => (px i env).bind fun x => (dgetF x k).join) := rfl
def gdpy (j : Nat) (d : D) (o : Option (D × Env)) : Option (Out × Env) := o.bind fun r => (dputO j r.1 d r.2).map fun e => (.nx, e)
def gdpx (j : Nat) (fk : M D) (d : D) (e : Env) (x : Option (Option Od)) : Option (Out × Env) := x.join.bind fun _ => gdpy j d (fk e)
def gdpk (j : Nat) (fk : M D) (o : Option (D × Env)) : Option (Out × Env) := o.bind fun q => gdpx j fk q.1 q.2 q.2[j]?
theorem gdp_k {j : Nat} : gdp j fb fv env = gdpk j fb (fv env) := rfl
theorem gdpk_s {j : Nat} : gdpk j fb (some (d, e)) = gdpx j fb d e e[j]? := rfl
theorem gdpx_s {j : Nat} : gdpx j fb d e (some (some o)) = gdpy j d (fb e) := rfl
theorem gdpy_s {j : Nat} : gdpy j d (some (k, e)) = (dputO j k d e).map fun e => (.nx, e) := rfl
def dpx (j : Nat) (k d : D) (env : Env) : Option (Option Od) → Option Env
  | some (some (.fd (.dik ks))) => (toK k).bind fun q => if ks.length < 16777216 then some (env.set j (some (.fd (.dik (dput ks q d))))) else none
  | some (some (.fd (.dit ks))) => (toTK k).bind fun q => if ks.length < 16777216 then some (env.set j (some (.fd (.dit (dput ks q d))))) else none
  | _ => none
theorem dputO_k {j : Nat} : dputO j k d e = dpx j k d e e[j]? := rfl
theorem dpx_k {j : Nat} {ks : List (L2.Key × D)} (h : ks.length < 16777216) : dpx j k d e (some (some (.fd (.dik ks)))) = (toK k).bind fun q => some (e.set j (some (.fd (.dik (dput ks q d))))) := by
  unfold dpx; simp only [h, if_true]
theorem dpx_t {j : Nat} {ks : List (List L2.Key × D)} (h : ks.length < 16777216) : dpx j k d e (some (some (.fd (.dit ks)))) = (toTK k).bind fun q => some (e.set j (some (.fd (.dit (dput ks q d))))) := by
  unfold dpx; simp only [h, if_true]
def gfpk (i : Nat) (n : Str) (fk : P D) (o : Option (D × Env)) : Option (Out × Env) := o.bind fun q => (fk q.2).bind fun r => (dputF i n r q.1 q.2).map fun e => (.nx, e)
theorem gdpF_k {i : Nat} {n : Str} : gdpF i n pb fv env = gfpk i n pb (fv env) := rfl
theorem gfpk_s {i : Nat} {n : Str} : gfpk i n pb (some (d, e)) = (pb e).bind fun r => (dputF i n r d e).map fun e => (.nx, e) := rfl
def dfx (i : Nat) (n : Str) (k d : D) (env : Env) : Option (Option Od) → Option Env
  | some (some (.obj c gs)) => (dputG n k d gs).map fun gs' => env.set i (some (.obj c gs'))
  | _ => none
theorem dputF_k {i : Nat} {n : Str} : dputF i n k d e = dfx i n k d e e[i]? := rfl
theorem dfx_s {i : Nat} {n : Str} {c : Nat} {gs : List (Str × Fd)} : dfx i n k d e (some (some (.obj c gs))) = (dputG n k d gs).map fun gs' => e.set i (some (.obj c gs')) := rfl
def dgx (n : Str) (k d : D) (gs : List (Str × Fd)) : Option Fd → Option (List (Str × Fd))
  | some (.dik ks) => (toK k).bind fun q => if ks.length < 16777216 then some (putG n (.dik (dput ks q d)) gs) else none
  | some (.dit ks) => (toTK k).bind fun q => if ks.length < 16777216 then some (putG n (.dit (dput ks q d)) gs) else none
  | _ => none
theorem dputG_k {n : Str} {gs : List (Str × Fd)} : dputG n k d gs = dgx n k d gs (gs.lookup n) := rfl
theorem dgx_k {n : Str} {gs : List (Str × Fd)} {ks : List (L2.Key × D)} (h : ks.length < 16777216) : dgx n k d gs (some (.dik ks)) = (toK k).bind fun q => some (putG n (.dik (dput ks q d)) gs) := by
  unfold dgx; simp only [h, if_true]
theorem dgx_t {n : Str} {gs : List (Str × Fd)} {ks : List (List L2.Key × D)} (h : ks.length < 16777216) : dgx n k d gs (some (.dit ks)) = (toTK k).bind fun q => some (putG n (.dit (dput ks q d)) gs) := by
  unfold dgx; simp only [h, if_true]
theorem toK_i {i : Int} : toK (.int i) = some (.inl i) := rfl
theorem toTK_2 {a b : Int} : toTK (.tup [.int a, .int b]) = some [.inl a, .inl b] := rfl
theorem dgF_k {ks : List (L2.Key × D)} {i : Int} : dgetF (.dik ks) (.int i) = some (dget ks (.inl i)) := rfl
theorem dgF_vk {ks : List (L2.Key × D)} {i : Int} : dgetF (.val (.dik ks)) (.int i) = some (dget ks (.inl i)) := rfl
theorem dgF_t {ks : List (List L2.Key × D)} {a b : Int} : dgetF (.dit ks) (.tup [.int a, .int b]) = some (dget ks [.inl a, .inl b]) := rfl
theorem dgF_vt {ks : List (List L2.Key × D)} {a b : Int} : dgetF (.val (.dit ks)) (.tup [.int a, .int b]) = some (dget ks [.inl a, .inl b]) := rfl
theorem mdd_k : mdd fa fb env = mbk (fa env) fun k => mb fb fun v => mo ((toTK k).map fun q => .fd (.dit [(q, v)])) := mb_k
theorem mrev_k : mrev fa env = mbk (fa env) fun x => mo (revL x) := mb_k
theorem revL_s {xs : List D} : revL (.lst xs) = some (.fd (.lst xs.reverse)) := rfl
theorem mrevA_k : mrevA fa env = mbk (fa env) fun x => mo (revA x) := mb_k
theorem revA_l {xs : List D} : revA (.lst xs) = some (.fd (.lst xs.reverse)) := rfl
theorem revA_t {xs : List D} : revA (.tup xs) = some (.fd (.val (.tup xs.reverse))) := rfl
theorem bitsD_s {i : Int} : bitsD (.int i) = some (.int (Builtin.Int.intBits i : Nat)) := rfl
theorem lenSetD_s {ns : List Int} (h : ns.length ≤ 4000) : lenSetD (.lst (ns.map .int)) = some (.int ((metI ns).length : Nat)) := by
  have : toInts (ns.map D.int) = some ns := by
    clear h
    induction ns with
    | nil => rfl
    | cons n ns ih => show (toInts (ns.map D.int)).map (n :: ·) = _; rw [ih]; rfl
  show (toInts (ns.map D.int)).bind _ = _
  rw [this]
  exact if_pos h
def gt2k (o : Option (D × Env)) (t1 t2 : Tg) : Option (Out × Env) := o.bind fun q => (t1 q.1 q.2).bind fun e1 => (t2 q.1 e1).map fun e => (.nx, e)
theorem gtg2_k {t1 t2 : Tg} : gtg2 fa t1 t2 env = gt2k (fa env) t1 t2 := rfl
theorem gt2k_s {t1 t2 : Tg} : gt2k (some (d, e)) t1 t2 = (t1 d e).bind fun e1 => (t2 d e1).map fun e => (.nx, e) := rfl
theorem mmtx_k {m : Str} {c n : Nat} {fo : M Od} {p : Fn} {l : M (List D)} : mmtx m c fo p n l env = mbk (fo env) fun o => if noM m c o = true then mb l fun ds => (if ds.length + 1 = n then mo ((p (some o :: vals ds)).map (·.1)) else mo none) else mo none := mb_k
theorem isiB_lt {tab : Nat → Option Bool} {i : List D} : isiB "tuple" tab (.lst i) = some (.bl false) := by
  show (kitB "list" "tuple").map D.bl = _
  rw [show kitB "list" "tuple" = some false by decide +kernel]; rfl
theorem isiB_tl {tab : Nat → Option Bool} {i : List D} : isiB "list" tab (.tup i) = some (.bl false) := by
  show (kitB "tuple" "list").map D.bl = _
  rw [show kitB "tuple" "list" = some false by decide +kernel]; rfl
theorem isB2_l {tab : Nat → Option Bool} {xs : List D} : isiB2 "list" "tuple" tab (.lst xs) = some (.bl true) := by
  unfold isiB2
  rw [isiB_ll, isiB_lt]; rfl
theorem isB2_t {tab : Nat → Option Bool} {xs : List D} : isiB2 "list" "tuple" tab (.tup xs) = some (.bl true) := by
  unfold isiB2
  rw [isiB_tt, isiB_tl]; rfl
end
theorem sumB_s {ns : List Int} : sumB [.lst (ns.map .int)] = some (.int ns.sum) := by
  have : toInts (ns.map D.int) = some ns := by
    induction ns with
    | nil => rfl
    | cons n ns ih => show (toInts (ns.map D.int)).map (n :: ·) = _; rw [ih]; rfl
  show (toInts (ns.map D.int)).map _ = _
  rw [this]; rfl
/-! ### sets of ints, two fors, calls that look at what lives on -/
section
variable {env : Env} {f : M D} {i : Nat} {p : Fn}
theorem mssI_k : mssI f env = mbk (f env) fun d => mo (ssetI d) := mb_k
theorem toInts_map (ms : List Int) : toInts (ms.map D.int) = some ms := by
  induction ms with
  | nil => rfl
  | cons n ns ih => show (toInts (ns.map D.int)).map (n :: ·) = _; rw [ih]; rfl
theorem ssetI_l {ns : List Int} (h1 : ns.length ≤ 4000) (h2 : (metI ns).length < 64) : ssetI (.lst (ns.map .int)) = some (.fd (.lst ((isort (metI ns)).map .int))) := by
  show (toInts (ns.map D.int)).bind _ = _
  rw [toInts_map]
  show (if ns.length ≤ 4000 ∧ (metI ns).length < 64 then _ else none) = _
  rw [if_pos ⟨h1, h2⟩]
theorem ssetI_t {ns : List Int} (h1 : ns.length ≤ 4000) (h2 : (metI ns).length < 64) : ssetI (.tup (ns.map .int)) = some (.fd (.lst ((isort (metI ns)).map .int))) := ssetI_l h1 h2
theorem lenSetI_l {ns : List Int} (h1 : ns.length ≤ 4000) (h2 : (metI ns).length < 64) : lenSetI (.lst (ns.map .int)) = some (.int ((metI ns).length : Nat)) := by
  show (toInts (ns.map D.int)).bind _ = _
  have e : toInts (ns.map D.int) = some ns := by
    clear h1 h2
    induction ns with
    | nil => rfl
    | cons n ns ih => show (toInts (ns.map D.int)).map (n :: ·) = _; rw [ih]; rfl
  rw [e]
  show (if ns.length ≤ 4000 ∧ (metI ns).length < 64 then some (D.int ((metI ns).length : Nat)) else none) = _
  rw [if_pos ⟨h1, h2⟩]
theorem lenSetI_t {ns : List Int} (h1 : ns.length ≤ 4000) (h2 : (metI ns).length < 64) : lenSetI (.tup (ns.map .int)) = some (.int ((metI ns).length : Nat)) := lenSetI_l h1 h2
def mclTy (env : Env) : Option (Od × List (Option Od)) → Option (D × Env)
  | some (o, _) => (scal o).map fun d => (d, env)
  | none => none
def mclTx (p : Fn) (env : Env) : Option (Option Od) → Option (D × Env)
  | some (some o) => mclTy env (p [vv o.frz])
  | _ => none
theorem mclT_k : mclT i p env = mclTx p env env[i]? := by
  unfold mclT mclTx
  cases env[i]? with
  | none => rfl
  | some o =>
    cases o with
    | none => rfl
    | some o =>
      show (p [vv o.frz]).bind _ = mclTy env (p [vv o.frz])
      cases p [vv o.frz] <;> rfl
theorem mclTx_s {o : Od} : mclTx p env (some (some o)) = mclTy env (p [vv o.frz]) := rfl
theorem mclTy_b {b : Bool} {a : List (Option Od)} : mclTy env (some (.fd (.val (.bl b)), a)) = some (.bl b, env) := rfl
end
section
variable {vs vs1 : List Nat} {tg tg1 : Tg} {ft ft1 : M Bool} {f1 : M (List D)} {fe : M D} {d : D} {e env : Env} {acc : List D}
def lc2C (vs vs1 : List Nat) (tg1 : Tg) (ft1 : M Bool) (fe : M D) (acc : List D) : Option (List D × Env) → Option (List D × Env)
  | some (ds, e) => (lcD vs1 tg1 ft1 fe ds acc (wipeE e vs1)).map fun a => (a.1, wipeE a.2 vs)
  | none => none
def lc2B (vs vs1 : List Nat) (f1 : M (List D)) (tg1 : Tg) (ft1 : M Bool) (fe : M D) (acc : List D) : Option (Bool × Env) → Option (List D × Env)
  | some (b, e) => if b = true then lc2C vs vs1 tg1 ft1 fe acc (f1 e) else some (acc, wipeE e vs)
  | none => none
def lc2A (vs vs1 : List Nat) (ft : M Bool) (f1 : M (List D)) (tg1 : Tg) (ft1 : M Bool) (fe : M D) (acc : List D) : Option Env → Option (List D × Env)
  | some e => lc2B vs vs1 f1 tg1 ft1 fe acc (ft e)
  | none => none
def lc2T (vs vs1 : List Nat) (tg : Tg) (ft : M Bool) (f1 : M (List D)) (tg1 : Tg) (ft1 : M Bool) (fe : M D) (d : D) (acc : List D) (e : Env) : Option (List D × Env) := lc2A vs vs1 ft f1 tg1 ft1 fe acc (tg d e)
theorem lc2T_k : lc2T vs vs1 tg ft f1 tg1 ft1 fe d acc e = lc2A vs vs1 ft f1 tg1 ft1 fe acc (tg d e) := rfl
theorem lc2A_s : lc2A vs vs1 ft f1 tg1 ft1 fe acc (some e) = lc2B vs vs1 f1 tg1 ft1 fe acc (ft e) := rfl
theorem lc2B_s {b : Bool} : lc2B vs vs1 f1 tg1 ft1 fe acc (some (b, e)) = if b = true then lc2C vs vs1 tg1 ft1 fe acc (f1 e) else some (acc, wipeE e vs) := rfl
theorem lc2C_s {ds : List D} : lc2C vs vs1 tg1 ft1 fe acc (some (ds, e)) = (lcD vs1 tg1 ft1 fe ds acc (wipeE e vs1)).map fun a => (a.1, wipeE a.2 vs) := rfl
theorem lcD2_cons {ds : List D} : lcD2 vs vs1 tg ft f1 tg1 ft1 fe (d :: ds) acc e = (lc2T vs vs1 tg ft f1 tg1 ft1 fe d acc e).bind fun a => lcD2 vs vs1 tg ft f1 tg1 ft1 fe ds a.1 a.2 := by
  conv => lhs; unfold lcD2
  unfold lc2T
  cases tg d e with
  | none => rfl
  | some e1 =>
    rw [lc2A_s]
    show (ft e1).bind _ = _
    cases ft e1 with
    | none => rfl
    | some q =>
      obtain ⟨b, e2⟩ := q
      cases b with
      | false => rfl
      | true =>
        show (f1 e2).bind _ = (lc2C vs vs1 tg1 ft1 fe acc (f1 e2)).bind _
        cases f1 e2 with
        | none => rfl
        | some r =>
          obtain ⟨ds1, e3⟩ := r
          rw [lc2C_s]
          show (lcD vs1 tg1 ft1 fe ds1 acc (wipeE e3 vs1)).bind _ = _
          cases lcD vs1 tg1 ft1 fe ds1 acc (wipeE e3 vs1) <;> rfl
theorem lcD2_flat {α : Type} {enc : α → D} {out : α → List D} {B : Nat} : ∀ {xs : List α} {acc : List D}, (∀ x ∈ xs, ∀ acc : List D, acc.length + (out x).length ≤ B → lc2T vs vs1 tg ft f1 tg1 ft1 fe (enc x) acc e = some (acc ++ out x, e)) → acc.length + (xs.flatMap out).length ≤ B →
    lcD2 vs vs1 tg ft f1 tg1 ft1 fe (xs.map enc) acc e = some (acc ++ xs.flatMap out, e)
  | [], acc, _, _ => by
    rw [List.map_nil, List.flatMap_nil, List.append_nil]
    unfold lcD2
    rfl
  | x :: xs, acc, h, hb => by
    rw [List.flatMap_cons, List.length_append] at hb
    rw [List.map_cons, lcD2_cons, h x List.mem_cons_self acc (by omega)]
    show lcD2 vs vs1 tg ft f1 tg1 ft1 fe (xs.map enc) (acc ++ out x) e = _
    rw [lcD2_flat (fun y hy => h y (List.mem_cons_of_mem _ hy)) (by rw [List.length_append]; omega), List.flatMap_cons, List.append_assoc]
theorem lcD_mapA {α : Type} {enc : α → D} {f : α → D} : ∀ {xs : List α} {acc : List D}, acc.length + xs.length ≤ 16777216 → (∀ x ∈ xs, lc1 vs tg ft fe (enc x) e = some (some (f x), e)) → lcD vs tg ft fe (xs.map enc) acc e = some (acc ++ xs.map f, e)
  | [], acc, _, _ => by
    rw [List.map_nil, List.map_nil, List.append_nil]
    unfold lcD
    rfl
  | x :: xs, acc, hl, h => by
    rw [List.length_cons] at hl
    rw [List.map_cons, lcD_cons, h x List.mem_cons_self]
    show (if acc.length < 16777216 then lcD vs tg ft fe (xs.map enc) (acc ++ [f x]) e else none) = _
    rw [if_pos (by omega), lcD_mapA (by rw [List.length_append, List.length_singleton]; omega) fun y hy => h y (List.mem_cons_of_mem _ hy), List.map_cons, List.append_assoc]
    rfl
def lck2 (n : Nat) (vs vs1 : List Nat) (o : Option (List D × Env)) (tg : Tg) (ft : M Bool) (f1 : M (List D)) (tg1 : Tg) (ft1 : M Bool) (fe : M D) : Option (Od × Env) := o.bind fun q => if q.2.length = n then (lcD2 vs vs1 tg ft f1 tg1 ft1 fe q.1 [] (wipeE q.2 vs)).map fun r => (.fd (.lst r.1), restE q.2 vs r.2) else none
theorem mlc2_k {n : Nat} {l : M (List D)} : mlc2 n vs vs1 l tg ft f1 tg1 ft1 fe env = lck2 n vs vs1 (l env) tg ft f1 tg1 ft1 fe := rfl
theorem lck2_s {n : Nat} {ds : List D} : lck2 n vs vs1 (some (ds, e)) tg ft f1 tg1 ft1 fe = if e.length = n then (lcD2 vs vs1 tg ft f1 tg1 ft1 fe ds [] (wipeE e vs)).map fun r => (.fd (.lst r.1), restE e vs r.2) else none := rfl
end
end DL

namespace DL
open PySem PySem.Spec PyProof.Rows L2
/-! ### ties as lists of pairs -/
theorem asc_ext {α : Type} {r : α → α → Prop} (irr : ∀ x, ¬ r x x) (asy : ∀ x y, r x y → r y x → False) : ∀ {a b : List α}, a.Pairwise r → b.Pairwise r → (∀ x, x ∈ a ↔ x ∈ b) → a = b
  | [], [], _, _, _ => rfl
  | [], y :: b, _, _, h => absurd ((h y).mpr List.mem_cons_self) (by simp)
  | x :: a, [], _, _, h => absurd ((h x).mp List.mem_cons_self) (by simp)
  | x :: a, y :: b, h1, h2, h => by
    obtain ⟨p1, p2⟩ := List.pairwise_cons.mp h1
    obtain ⟨q1, q2⟩ := List.pairwise_cons.mp h2
    have hxy : x = y := by
      rcases List.mem_cons.mp ((h x).mp List.mem_cons_self) with e | e
      · exact e
      · rcases List.mem_cons.mp ((h y).mpr List.mem_cons_self) with e2 | e2
        · exact e2.symm
        · exact (asy _ _ (q1 x e) (p1 y e2)).elim
    subst hxy
    congr 1
    refine asc_ext irr asy p2 q2 fun z => ⟨fun hz => ?_, fun hz => ?_⟩
    · rcases List.mem_cons.mp ((h z).mp (List.mem_cons_of_mem _ hz)) with e | e
      · subst e; exact (irr _ (p1 _ hz)).elim
      · exact e
    · rcases List.mem_cons.mp ((h z).mpr (List.mem_cons_of_mem _ hz)) with e | e
      · subst e; exact (irr _ (q1 _ hz)).elim
      · exact e
theorem asc_ext_int {a b : List Int} (h1 : a.Pairwise (· < ·)) (h2 : b.Pairwise (· < ·)) (h : ∀ x, x ∈ a ↔ x ∈ b) : a = b :=
  asc_ext (fun x => by omega) (fun x y => by omega) h1 h2 h
theorem Row.ext {n m : Nat} {a b : List Int} (h1 : Row n a) (h2 : Row m b) (h : ∀ x, x ∈ a ↔ x ∈ b) : a = b := asc_ext_int h1.lt h2.lt h
/-- pairs in their order -/
def tlt (t u : List Int) : Prop := ∃ a b c d, t = [a, b] ∧ u = [c, d] ∧ (a < c ∨ a = c ∧ b < d)
theorem tlt_irr : ∀ x, ¬ tlt x x := fun x ⟨a, b, c, d, h1, h2, h3⟩ => by
  rw [h1] at h2; cases h2; omega
theorem tlt_asy : ∀ x y, tlt x y → tlt y x → False := fun x y ⟨a, b, c, d, h1, h2, h3⟩ ⟨a', b', c', d', h4, h5, h6⟩ => by
  subst h1; subst h2; cases h4; cases h5; omega
theorem tiesL_mem {rs : List (List Int)} {t : List Int} : t ∈ tiesL rs ↔ ∃ (i : Nat) (x : Int), i < rs.length ∧ t = [(i : Int), x] ∧ x ∈ rs.getD i [] := by
  unfold tiesL
  rw [List.mem_flatMap]
  constructor
  · rintro ⟨p, hp, ht⟩
    obtain ⟨x, hx, rfl⟩ := List.mem_map.mp ht
    have := List.mem_zipIdx hp
    obtain ⟨h1, h2, h3⟩ := this
    have h2 : p.2 < rs.length := by omega
    refine ⟨p.2, x, h2, rfl, ?_⟩
    rw [List.getD_eq_getElem?_getD, List.getElem?_eq_getElem h2]
    have h3 : p.1 = rs[p.2] := by simpa using h3
    rw [Option.getD_some, ← h3]; exact hx
  · rintro ⟨i, x, hi, rfl, hx⟩
    refine ⟨(rs[i], i), ?_, List.mem_map.mpr ⟨x, ?_, rfl⟩⟩
    · rw [List.mem_zipIdx_iff_getElem?]
      simp [hi]
    · rw [List.getD_eq_getElem?_getD, List.getElem?_eq_getElem hi] at hx
      exact hx
theorem tiesL_lt {rs : List (List Int)} (h : ∀ r ∈ rs, r.Pairwise (· < ·)) : (tiesL rs).Pairwise tlt := by
  unfold tiesL
  rw [List.pairwise_flatMap]
  refine ⟨fun p hp => ?_, ?_⟩
  · refine List.pairwise_map.mpr ((h p.1 (List.fst_mem_of_mem_zipIdx hp)).imp fun h => ⟨_, _, _, _, rfl, rfl, .inr ⟨rfl, h⟩⟩)
  · have : (rs.zipIdx 0).Pairwise fun p q => p.2 < q.2 := by
      have h1 : ((rs.zipIdx 0).map (·.2)).Pairwise (· < ·) := by
        rw [List.zipIdx_map_snd]
        exact List.pairwise_lt_range'
      exact List.pairwise_map.mp h1
    refine this.imp fun {p q} hpq x hx y hy => ?_
    obtain ⟨a, _, rfl⟩ := List.mem_map.mp hx
    obtain ⟨b, _, rfl⟩ := List.mem_map.mp hy
    exact ⟨_, _, _, _, rfl, rfl, .inl (by omega)⟩
theorem Rows.lts {rs : List (List Int)} (h : Rows rs) : ∀ r ∈ rs, r.Pairwise (· < ·) := fun r hr => (h.row r hr).lt
theorem tlt_code {t u : List Int} (h : tlt t u) (h1 : TS.Bd 64 t) (h2 : TS.Bd 64 u) : TS.code 64 t < TS.code 64 u := by
  obtain ⟨a, b, c, d, rfl, rfl, h3⟩ := h
  have e1 : TS.code 64 [a, b] = a * 64 + b := by simp [TS.code]
  have e2 : TS.code 64 [c, d] = c * 64 + d := by simp [TS.code]
  have b1 := h1 b (by simp)
  have b2 := h2 d (by simp)
  rw [e1, e2]
  omega
theorem ties_bd {rs : List (List Int)} (h : Rows rs) (hl : rs.length ≤ 63) {t : List Int} (ht : t ∈ tiesL rs) : t.length = 2 ∧ TS.Bd 64 t := by
  obtain ⟨i, x, hi, rfl, hx⟩ := tiesL_mem.mp ht
  have := (h.get hi).bd x hx
  refine ⟨rfl, fun m hm => ?_⟩
  simp only [List.mem_cons, List.not_mem_nil, or_false] at hm
  omega
theorem toTups_s {ts : List (List Int)} : toTups (ts.map tupI) = some ts := by
  induction ts with
  | nil => rfl
  | cons t ts ih =>
    show (toInts (t.map .int)).bind _ = _
    have : toInts (t.map D.int) = some t := by
      induction t with
      | nil => rfl
      | cons n ns ih => show (toInts (ns.map D.int)).map (n :: ·) = _; rw [ih]; rfl
    rw [this]
    show (toTups (ts.map tupI)).map (t :: ·) = _
    rw [ih]; rfl
/-- sorted(set(..)) of ties is a known list of ties -/
theorem sset_ties {ts us : List (List Int)} (hb : ∀ t ∈ ts, t.length = 2 ∧ TS.Bd 64 t) (hl : ts.length < 64) (hu : us.Pairwise tlt) (h : ∀ t, t ∈ us ↔ t ∈ ts) : ssetB [.lst (ts.map tupI)] = some (.fd (.lst (us.map tupI))) := by
  have hok : okTs ts = true := by
    cases ts with
    | nil => rfl
    | cons t r =>
      unfold okTs
      rw [Bool.and_eq_true, Bool.and_eq_true]
      have h0 := hb t List.mem_cons_self
      refine ⟨⟨decide_eq_true (by omega), List.all_eq_true.mpr fun u hu => ?_⟩, decide_eq_true hl⟩
      have h1 := hb u hu
      unfold okT
      rw [Bool.and_eq_true, beq_iff_eq, List.all_eq_true]
      exact ⟨by omega, fun m hm => decide_eq_true (h1.2 m hm)⟩
  show (toTups (ts.map tupI)).bind _ = _
  rw [toTups_s]
  show (if okTs ts = true then _ else none) = _
  rw [if_pos hok]
  have e : us = tsort (dd ts) := by
    refine tsort_eq (d := 2) (fun t ht => hb t (dd_mem.mp ht)) ?_ ?_
    · refine (List.perm_ext_iff_of_nodup (hu.imp fun h e => ?_) (dd_nodup ts)).mpr fun t => (h t).trans dd_mem.symm
      subst e; exact tlt_irr _ h
    · exact hu.imp_of_mem fun {a b} ha hb' hab => Int.le_of_lt (tlt_code hab (hb a ((h a).mp ha)).2 (hb b ((h b).mp hb')).2)
  rw [e]
theorem getD_set {α : Type} {xs : List α} {i j : Nat} {x d : α} (h : i < xs.length) : (xs.set i x).getD j d = if i = j then x else xs.getD j d := by
  rw [List.getD_eq_getElem?_getD, List.getD_eq_getElem?_getD]
  by_cases c : i = j
  · subst c; rw [List.getElem?_set_self h, if_pos rfl]; rfl
  · rw [List.getElem?_set_ne c, if_neg c]
theorem Rows.set {rs : List (List Int)} {p : Nat} {r : List Int} (h : Rows rs) (hr : Row rs.length r) : Rows (rs.set p r) := ⟨fun q hq => by
  rw [List.length_set]
  rcases List.mem_or_eq_of_mem_set hq with h1 | rfl
  · exact h.row q h1
  · exact hr⟩
/-! a tie put in, a tie struck -/
def addR (r : List Int) (x : Int) : List Int := isort (r.filter (fun o => decide (o ≠ x)) ++ [x])
def delR (r : List Int) (x : Int) : List Int := r.filter fun o => decide (o ≠ x)
def withT (rs : List (List Int)) (p : Nat) (x : Int) : List (List Int) := rs.set p (addR (rs.getD p []) x)
def lessT (rs : List (List Int)) (p : Nat) (x : Int) : List (List Int) := rs.set p (delR (rs.getD p []) x)
theorem addR_mem {r : List Int} {x y : Int} : y ∈ addR r x ↔ y ∈ r ∨ y = x := by
  unfold addR
  rw [(isort_perm _).mem_iff, List.mem_append, List.mem_filter, List.mem_singleton, decide_eq_true_iff]
  by_cases c : y = x <;> simp [c]
theorem delR_mem {r : List Int} {x y : Int} : y ∈ delR r x ↔ y ∈ r ∧ y ≠ x := by
  unfold delR
  rw [List.mem_filter, decide_eq_true_iff]
theorem addR_row {n : Nat} {r : List Int} {x : Int} (h : Row n r) (hx : 0 ≤ x ∧ x < n) : Row n (addR r x) := by
  refine row_sort (List.nodup_append.mpr ⟨h.nodup.filter _, by simp, fun a ha b hb e => ?_⟩) fun y hy => ?_
  · rw [List.mem_singleton.mp hb] at e
    have := (List.mem_filter.mp ha).2
    simp [e] at this
  · rcases List.mem_append.mp hy with hy | hy
    · exact h.bd y (List.mem_filter.mp hy).1
    · rw [List.mem_singleton.mp hy]; exact hx
theorem delR_row {n : Nat} {r : List Int} {x : Int} (h : Row n r) : Row n (delR r x) := ⟨h.lt.filter _, fun y hy => h.bd y (delR_mem.mp hy).1⟩
theorem withT_rows {rs : List (List Int)} {p : Nat} {x : Int} (h : Rows rs) (hp : p < rs.length) (hx : 0 ≤ x ∧ x < rs.length) : Rows (withT rs p x) := h.set (addR_row (h.get hp) hx)
theorem lessT_rows {rs : List (List Int)} {p : Nat} {x : Int} (h : Rows rs) (hp : p < rs.length) : Rows (lessT rs p x) := h.set (delR_row (h.get hp))
theorem withT_len {rs : List (List Int)} {p : Nat} {x : Int} : (withT rs p x).length = rs.length := List.length_set
theorem lessT_len {rs : List (List Int)} {p : Nat} {x : Int} : (lessT rs p x).length = rs.length := List.length_set
theorem withT_ties {rs : List (List Int)} {p : Nat} {x : Int} (hp : p < rs.length) (t : List Int) : t ∈ tiesL (withT rs p x) ↔ t ∈ tiesL rs ∨ t = [(p : Int), x] := by
  rw [tiesL_mem, tiesL_mem]
  unfold withT
  constructor
  · rintro ⟨i, y, hi, rfl, hy⟩
    rw [List.length_set] at hi
    rw [getD_set hp] at hy
    by_cases c : p = i
    · subst c
      rw [if_pos rfl] at hy
      rcases addR_mem.mp hy with h | h
      · exact .inl ⟨p, y, hi, rfl, h⟩
      · exact .inr (by rw [h])
    · rw [if_neg c] at hy
      exact .inl ⟨i, y, hi, rfl, hy⟩
  · rintro (⟨i, y, hi, rfl, hy⟩ | rfl)
    · refine ⟨i, y, by rw [List.length_set]; exact hi, rfl, ?_⟩
      rw [getD_set hp]
      by_cases c : p = i
      · subst c; rw [if_pos rfl]; exact addR_mem.mpr (.inl hy)
      · rw [if_neg c]; exact hy
    · refine ⟨p, x, by rw [List.length_set]; exact hp, rfl, ?_⟩
      rw [getD_set hp, if_pos rfl]; exact addR_mem.mpr (.inr rfl)
theorem lessT_ties {rs : List (List Int)} {p : Nat} {x : Int} (hp : p < rs.length) (t : List Int) : t ∈ tiesL (lessT rs p x) ↔ t ∈ tiesL rs ∧ t ≠ [(p : Int), x] := by
  rw [tiesL_mem, tiesL_mem]
  unfold lessT
  constructor
  · rintro ⟨i, y, hi, rfl, hy⟩
    rw [List.length_set] at hi
    rw [getD_set hp] at hy
    by_cases c : p = i
    · subst c
      rw [if_pos rfl] at hy
      have := delR_mem.mp hy
      exact ⟨⟨p, y, hi, rfl, this.1⟩, fun e => by simp at e; exact this.2 e⟩
    · rw [if_neg c] at hy
      exact ⟨⟨i, y, hi, rfl, hy⟩, fun e => by simp at e; omega⟩
  · rintro ⟨⟨i, y, hi, rfl, hy⟩, hne⟩
    refine ⟨i, y, by rw [List.length_set]; exact hi, rfl, ?_⟩
    rw [getD_set hp]
    by_cases c : p = i
    · subst c; rw [if_pos rfl]; exact delR_mem.mpr ⟨hy, fun e => hne (by rw [e])⟩
    · rw [if_neg c]; exact hy
theorem rows_ext {a b : List (List Int)} (h1 : Rows a) (h2 : Rows b) (hl : a.length = b.length) (h : ∀ i, i < a.length → ∀ x, x ∈ a.getD i [] ↔ x ∈ b.getD i []) : a = b := by
  refine List.ext_getElem? fun i => ?_
  by_cases c : i < a.length
  · have := (h1.get c).ext (h2.get (i := i) (by omega)) (h i c)
    rw [List.getD_eq_getElem?_getD, List.getD_eq_getElem?_getD, List.getElem?_eq_getElem c, List.getElem?_eq_getElem (by omega)] at this
    rw [List.getElem?_eq_getElem c, List.getElem?_eq_getElem (by omega)]
    exact congrArg some this
  · rw [List.getElem?_eq_none (by omega), List.getElem?_eq_none (by omega)]
theorem withT_id {rs : List (List Int)} {p : Nat} {x : Int} (h : Rows rs) (hp : p < rs.length) (hx : x ∈ rs.getD p []) : withT rs p x = rs := by
  have hb := (h.get hp).bd x hx
  refine rows_ext (withT_rows h hp hb) h withT_len fun i hi y => ?_
  unfold withT
  rw [getD_set hp]
  by_cases c : p = i
  · subst c
    rw [if_pos rfl, addR_mem]
    exact ⟨fun h => h.elim id fun e => e ▸ hx, .inl⟩
  · rw [if_neg c]
theorem lessT_id {rs : List (List Int)} {p : Nat} {x : Int} (h : Rows rs) (hp : p < rs.length) (hx : ¬ x ∈ rs.getD p []) : lessT rs p x = rs := by
  refine rows_ext (lessT_rows h hp) h lessT_len fun i hi y => ?_
  unfold lessT
  rw [getD_set hp]
  by_cases c : p = i
  · subst c
    rw [if_pos rfl, delR_mem]
    exact ⟨fun h => h.1, fun h => ⟨h, fun e => hx (e ▸ h)⟩⟩
  · rw [if_neg c]
theorem withT_lessT {rs : List (List Int)} {p : Nat} {x : Int} (h : Rows rs) (hp : p < rs.length) (hx : x ∈ rs.getD p []) : withT (lessT rs p x) p x = rs := by
  have hb := (h.get hp).bd x hx
  have hp2 : p < (lessT rs p x).length := by rw [lessT_len]; exact hp
  refine rows_ext (withT_rows (lessT_rows h hp) hp2 (by rw [lessT_len]; exact hb)) h (by rw [withT_len, lessT_len]) fun i hi y => ?_
  unfold withT
  rw [getD_set hp2]
  unfold lessT
  by_cases c : p = i
  · subst c
    rw [if_pos rfl, addR_mem, getD_set hp, if_pos rfl, delR_mem]
    by_cases e : y = x
    · subst e; rw [List.getD_eq_getElem?_getD] at hx; simp [hx]
    · simp [e]
  · rw [if_neg c, getD_set hp, if_neg c]
theorem lessT_withT {rs : List (List Int)} {p : Nat} {x : Int} (h : Rows rs) (hp : p < rs.length) (hb : 0 ≤ x ∧ x < rs.length) (hx : ¬ x ∈ rs.getD p []) : lessT (withT rs p x) p x = rs := by
  have hp2 : p < (withT rs p x).length := by rw [withT_len]; exact hp
  refine rows_ext (lessT_rows (withT_rows h hp hb) hp2) h (by rw [lessT_len, withT_len]) fun i hi y => ?_
  unfold lessT
  rw [getD_set hp2]
  unfold withT
  by_cases c : p = i
  · subst c
    rw [if_pos rfl, delR_mem, getD_set hp, if_pos rfl, addR_mem]
    by_cases e : y = x
    · subst e; rw [List.getD_eq_getElem?_getD] at hx; simp [hx]
    · simp [e]
  · rw [if_neg c, getD_set hp, if_neg c]
end DL

namespace DL
open PySem PySem.Spec PyProof.Rows L2
/-! ### sets of small numbers as bits -/
def msk (s : List Nat) : Nat := (s.map (2 ^ ·)).sum
abbrev Asc (s : List Nat) : Prop := s.Pairwise (· < ·)
theorem msk_nil : msk [] = 0 := rfl
theorem msk_cons {p : Nat} {s : List Nat} : msk (p :: s) = 2 ^ p + msk s := by unfold msk; simp
theorem msk_perm {s t : List Nat} (h : s.Perm t) : msk s = msk t := by
  unfold msk; exact (h.map _).sum_nat
theorem msk_erase {s : List Nat} {i : Nat} (h : i ∈ s) : msk s = 2 ^ i + msk (s.erase i) := by
  rw [← msk_cons]; exact msk_perm (List.perm_cons_erase h)
theorem msk_dvd {b : Nat} : ∀ {s : List Nat}, (∀ i ∈ s, b ≤ i) → ∃ q, msk s = 2 ^ b * q
  | [], _ => ⟨0, rfl⟩
  | p :: s, h => by
    obtain ⟨q, hq⟩ := msk_dvd (s := s) fun i hi => h i (List.mem_cons_of_mem _ hi)
    have hp := h p List.mem_cons_self
    refine ⟨2 ^ (p - b) + q, ?_⟩
    rw [msk_cons, hq, Nat.mul_add, ← Nat.pow_add, show b + (p - b) = p by omega]
theorem msk_odd {p : Nat} {s : List Nat} (h : Asc (p :: s)) : ∃ q, msk s = 2 ^ (p + 1) * q ∧ msk (p :: s) = 2 ^ p * (2 * q + 1) := by
  obtain ⟨q, hq⟩ := msk_dvd (b := p + 1) (s := s) fun i hi => (List.pairwise_cons.mp h).1 i hi
  refine ⟨q, hq, ?_⟩
  rw [msk_cons, hq, Nat.pow_succ, Nat.mul_add, Nat.mul_one, Nat.mul_assoc, Nat.add_comm]
theorem msk_has {n : Nat} : ∀ {s : List Nat}, Asc s → (msk s / 2 ^ n) % 2 = if n ∈ s then 1 else 0
  | [], _ => by simp [msk_nil]
  | p :: s, h => by
    obtain ⟨q, h1, h2⟩ := msk_odd h
    obtain ⟨a1, a2⟩ := List.pairwise_cons.mp h
    rcases Nat.lt_trichotomy n p with c | c | c
    · have hn : ¬ n ∈ p :: s := by
        intro hm
        rcases List.mem_cons.mp hm with e | e
        · omega
        · have := a1 n e; omega
      rw [if_neg hn, h2, show p = n + (p - n - 1 + 1) by omega, Nat.pow_add, Nat.mul_assoc, Nat.mul_div_cancel_left _ (Nat.two_pow_pos n), Nat.pow_succ, Nat.mul_comm (2 ^ (p - n - 1)) 2, Nat.mul_assoc]
      exact Nat.mul_mod_right 2 _
    · subst c
      rw [if_pos List.mem_cons_self, h2, Nat.mul_div_cancel_left _ (Nat.two_pow_pos n)]
      omega
    · have ih := msk_has (n := n) a2
      have e : msk (p :: s) / 2 ^ n = msk s / 2 ^ n := by
        have hn : n = p + 1 + (n - p - 1) := by omega
        have hp : (2 : Nat) ^ n = 2 ^ (p + 1) * 2 ^ (n - p - 1) := by
          conv => lhs; rw [hn, Nat.pow_add]
        rw [hp, ← Nat.div_div_eq_div_mul, ← Nat.div_div_eq_div_mul]
        congr 1
        rw [msk_cons, h1, Nat.add_comm, Nat.mul_add_div (Nat.two_pow_pos _), Nat.mul_div_cancel_left _ (Nat.two_pow_pos _), Nat.div_eq_of_lt (Nat.pow_lt_pow_right (by decide) (Nat.lt_succ_self p))]
        rfl
      rw [e, ih]
      have : n ∈ p :: s ↔ n ∈ s := ⟨fun h => (List.mem_cons.mp h).resolve_left (by omega), List.mem_cons_of_mem _⟩
      by_cases c2 : n ∈ s
      · rw [if_pos c2, if_pos (this.mpr c2)]
      · rw [if_neg c2, if_neg fun z => c2 (this.mp z)]
theorem asc_ext_nat {a b : List Nat} (h1 : Asc a) (h2 : Asc b) (h : ∀ x, x ∈ a ↔ x ∈ b) : a = b :=
  asc_ext (fun x => by omega) (fun x y => by omega) h1 h2 h
theorem msk_inj {s t : List Nat} (h1 : Asc s) (h2 : Asc t) (h : msk s = msk t) : s = t := by
  refine asc_ext_nat h1 h2 fun n => ?_
  have e1 := msk_has (n := n) h1
  have e2 := msk_has (n := n) h2
  rw [h, e2] at e1
  by_cases c : n ∈ s <;> by_cases c2 : n ∈ t <;> simp [c, c2] at e1 ⊢
theorem msk_lt {n : Nat} : ∀ {s : List Nat}, Asc s → (∀ i ∈ s, i < n) → msk s < 2 ^ n := by
  intro s h hb
  -- all of them below n: the sum of the powers of an ascending list
  have key : ∀ (s : List Nat) (n : Nat), Asc s → (∀ i ∈ s, i < n) → msk s < 2 ^ n := by
    intro s
    have rev : ∀ (r : List Nat) (n : Nat), r.Pairwise (fun a b => b < a) → (∀ i ∈ r, i < n) → msk r < 2 ^ n := by
      intro r
      induction r with
      | nil => intro n _ _; rw [msk_nil]; exact Nat.two_pow_pos n
      | cons p r ih =>
        intro n hp hb
        obtain ⟨q1, q2⟩ := List.pairwise_cons.mp hp
        have h1 := ih p q2 fun i hi => q1 i hi
        have h2 := hb p List.mem_cons_self
        have h3 : 2 ^ (p + 1) ≤ 2 ^ n := Nat.pow_le_pow_right (by decide) h2
        rw [msk_cons]
        rw [Nat.pow_succ] at h3
        omega
    intro n h hb
    have := rev s.reverse n (List.pairwise_reverse.mpr h) fun i hi => hb i (List.mem_reverse.mp hi)
    rwa [msk_perm (List.reverse_perm s)] at this
  exact key s n h hb
theorem asc_erase {s : List Nat} {i : Nat} (h : Asc s) : Asc (s.erase i) := h.sublist List.erase_sublist
theorem asc_nodup {s : List Nat} (h : Asc s) : s.Nodup := h.imp fun h => by omega
theorem msk_range : ∀ n : Nat, msk (List.range n) + 1 = 2 ^ n
  | 0 => rfl
  | n + 1 => by
    have ih := msk_range n
    rw [List.range_succ, msk_perm (List.perm_append_comm (l₁ := List.range n) (l₂ := [n])), List.singleton_append, msk_cons, Nat.pow_succ]
    omega
theorem and_low {x p q : Nat} (h : x = 2 ^ p * (2 * q + 1)) : x &&& (x - 1) = 2 ^ p * (2 * q) := by
  have hp := Nat.two_pow_pos p
  have h1 : x - 1 = 2 ^ p * (2 * q) + (2 ^ p - 1) := by
    rw [h, Nat.mul_add, Nat.mul_one]; omega
  rw [h1, h]
  refine Nat.eq_of_testBit_eq fun i => ?_
  rw [Nat.testBit_and, Nat.testBit_two_pow_mul_add _ (by omega)]
  have e1 := @Nat.testBit_two_pow_mul_add (2 * q + 1) 0 p (by omega) i
  have e2 := @Nat.testBit_two_pow_mul_add (2 * q) 0 p (by omega) i
  rw [Nat.add_zero] at e1 e2
  rw [e1, e2]
  by_cases c : i < p
  · rw [if_pos c, if_pos c, if_pos c]; simp
  · rw [if_neg c, if_neg c, if_neg c]
    cases hi : i - p with
    | zero =>
      have e3 : (2 * q + 1).testBit 0 = true := by simp
      have e4 : (2 * q).testBit 0 = false := by simp
      rw [e3, e4]; rfl
    | succ j =>
      rw [Nat.testBit_succ, Nat.testBit_succ, show (2 * q + 1) / 2 = q by omega, show 2 * q / 2 = q by omega, Bool.and_self]
theorem bitAnd_neg {x : Nat} (h : 0 < x) : Builtin.bitAnd (x : Int) (-(x : Int)) = (x : Int) - ((x &&& (x - 1) : Nat) : Int) := by
  unfold Builtin.bitAnd
  have h1 : decide (0 ≤ (x : Int)) = true := decide_eq_true (by omega)
  have h2 : decide (0 ≤ -(x : Int)) = false := decide_eq_false (by omega)
  rw [h1, h2]
  show (x : Int) - ((((x : Int).toNat) &&& (Builtin.bitNot (-(x : Int))).toNat : Nat) : Int) = _
  have h3 : (Builtin.bitNot (-(x : Int))).toNat = x - 1 := by unfold Builtin.bitNot; omega
  rw [h3, Int.toNat_natCast]
theorem low_bit {p : Nat} {s : List Nat} (h : Asc (p :: s)) : Builtin.bitAnd ((msk (p :: s) : Nat) : Int) (-((msk (p :: s) : Nat) : Int)) = ((2 ^ p : Nat) : Int) := by
  obtain ⟨q, h1, h2⟩ := msk_odd h
  have hp := Nat.two_pow_pos p
  have e := and_low h2
  rw [bitAnd_neg (by rw [msk_cons]; omega), e, h2, Nat.mul_add, Nat.mul_one]
  omega
theorem bits_pow {p : Nat} : Builtin.Int.intBits ((2 ^ p : Nat) : Int) = p + 1 := by
  unfold Builtin.Int.intBits
  have hp := Nat.two_pow_pos p
  have h1 : ¬ (((2 ^ p : Nat) : Int) == 0) = true := by
    rw [beq_iff_eq]; omega
  rw [if_neg h1, Int.natAbs_natCast, Nat.log2_two_pow]
theorem has_int {n : Nat} {s : List Nat} (h : Asc s) : Builtin.bitAnd (((msk s : Nat) : Int) / 2 ^ n) 1 = if n ∈ s then 1 else 0 := by
  have e : Builtin.bitAnd (((msk s : Nat) : Int) / 2 ^ n) 1 = (((msk s / 2 ^ n) % 2 : Nat) : Int) := by
    have e1 : (((msk s : Nat) : Int) / 2 ^ n) = ((msk s / 2 ^ n : Nat) : Int) := by
      rw [show ((2 : Int) ^ n) = ((2 ^ n : Nat) : Int) by simp, Int.natCast_ediv]
    rw [e1]
    unfold Builtin.bitAnd
    have h1 : decide (0 ≤ ((msk s / 2 ^ n : Nat) : Int)) = true := decide_eq_true (Int.natCast_nonneg _)
    have h2 : decide (0 ≤ (1 : Int)) = true := by decide
    rw [h1, h2]
    show (((((msk s / 2 ^ n : Nat) : Int).toNat) &&& ((1 : Int).toNat) : Nat) : Int) = _
    rw [Int.toNat_natCast, show (1 : Int).toNat = 1 from rfl, Nat.and_one_is_mod]
  rw [e, msk_has h]
  split <;> rfl
/-! ### the number of ways -/
def ways (rs : List (List Int)) : List Nat → List Nat → Nat
  | [], _ => 1
  | p :: ps, ts => (((rs.getD p []).filter fun x => decide (x.toNat ∈ ts)).map fun x => ways rs ps (ts.erase x.toNat)).sum
/-- what a counter has kept -/
structure Memo (rs : List (List Int)) (ks : List (List L2.Key × D)) : Prop where
  nd : (ks.map (·.1)).Nodup
  bd : ∀ k ∈ ks.map (·.1), ∃ a b : Nat, k = [.inl (a : Int), .inl (b : Int)] ∧ a < 2 ^ 12 ∧ b < 2 ^ 12 ∧ (a = 0 → b = 0)
  z : dget ks [.inl 0, .inl 0] = some (.int 1)
  ok : ∀ ps ts d, Asc ps → Asc ts → dget ks [.inl (msk ps : Nat), .inl (msk ts : Nat)] = some d → d = .int (ways rs ps ts : Nat)
theorem dget_mem {κ : Type} [DecidableEq κ] {ks : List (κ × D)} {k : κ} {d : D} (h : dget ks k = some d) : k ∈ ks.map (·.1) := by
  unfold dget at h
  obtain ⟨q, h1, h2⟩ := map_some h
  have h3 := List.find?_some h1
  exact List.mem_map.mpr ⟨q, List.mem_of_find?_eq_some h1, of_decide_eq_true h3⟩
theorem dget_none {κ : Type} [DecidableEq κ] {ks : List (κ × D)} {k : κ} (h : dget ks k = none) : ¬ k ∈ ks.map (·.1) := by
  unfold dget at h
  rw [Option.map_eq_none_iff] at h
  intro hm
  obtain ⟨q, h1, h2⟩ := List.mem_map.mp hm
  have := List.find?_eq_none.mp h q h1
  simp [h2] at this
theorem dput_new {κ : Type} [DecidableEq κ] {ks : List (κ × D)} {k : κ} {d : D} (h : dget ks k = none) : dput ks k d = ks ++ [(k, d)] := by
  unfold dput
  rw [if_neg]
  intro hc
  obtain ⟨q, h1, h2⟩ := List.any_eq_true.mp hc
  exact dget_none h (List.mem_map.mpr ⟨q, h1, of_decide_eq_true h2⟩)
theorem dget_app {κ : Type} [DecidableEq κ] {ks : List (κ × D)} {k k' : κ} {d : D} : dget (ks ++ [(k, d)]) k' = (dget ks k').or (if k = k' then some d else none) := by
  unfold dget
  rw [List.find?_append]
  cases h : ks.find? (fun kv => decide (kv.1 = k')) with
  | some q => rfl
  | none =>
    by_cases c : k = k'
    · simp [c]
    · simp [c]
/-- unlike numbers below N are N at most -/
theorem nd_len {ns : List Nat} {N : Nat} (h : ns.Nodup) (hb : ∀ n ∈ ns, n < N) : ns.length ≤ N := by
  have h1 := asc_len (n := (N : Int)) (a := 0) (r := isort (ns.map Int.ofNat)) ((List.pairwise_and_iff.mpr ⟨isort_le _, (isort_perm _).nodup_iff.mpr (List.pairwise_map.mpr (h.imp fun h e => h (Int.ofNat.inj e)))⟩).imp fun ⟨a, b⟩ => by omega) fun x hx => by
    obtain ⟨n, hn, rfl⟩ := List.mem_map.mp ((isort_perm _).mem_iff.mp hx)
    have := hb n hn
    show 0 ≤ (n : Int) ∧ (n : Int) < N
    omega
  rw [(isort_perm _).length_eq, List.length_map] at h1
  omega
theorem dget_put {κ : Type} [DecidableEq κ] {k k' : κ} {d : D} : ∀ {ks : List (κ × D)}, dget (dput ks k d) k' = if k = k' then some d else dget ks k' := by
  intro ks
  cases h : dget ks k with
  | none =>
    rw [dput_new h, dget_app]
    by_cases c : k = k'
    · subst c; rw [h, if_pos rfl]; rfl
    · rw [if_neg c, if_neg c]; cases dget ks k' <;> rfl
  | some d0 =>
    have hany : (ks.any fun kv => decide (kv.1 = k)) = true := by
      obtain ⟨q, h1, h2⟩ := List.mem_map.mp (dget_mem h)
      exact List.any_eq_true.mpr ⟨q, h1, decide_eq_true h2⟩
    have hm := dget_mem h
    unfold dput
    rw [if_pos hany]
    clear h hany
    induction ks with
    | nil => simp at hm
    | cons q ks ih =>
      unfold dget at ih ⊢
      rw [List.map_cons, List.find?_cons]
      by_cases c : q.1 = k
      · rw [if_pos c]
        by_cases c2 : k = k'
        · simp [c, c2]
        · have c3 : ¬ q.1 = k' := fun e => c2 (c.symm.trans e)
          simp only [c3, decide_false, if_neg c2]
          rw [List.find?_cons]
          simp only [c3, decide_false]
          by_cases hm2 : k ∈ ks.map (·.1)
          · have := ih hm2
            rw [if_neg c2] at this
            exact this
          · have : (ks.map fun kv => if kv.1 = k then (kv.1, d) else kv) = ks := by
              conv => rhs; rw [← List.map_id ks]
              refine List.map_congr_left fun x hx => ?_
              rw [if_neg fun e => hm2 (List.mem_map.mpr ⟨x, hx, e⟩)]; rfl
            rw [this]
      · rw [if_neg c]
        have hm2 : k ∈ ks.map (·.1) := by
          rw [List.map_cons] at hm
          exact (List.mem_cons.mp hm).resolve_left fun e => c e.symm
        have := ih hm2
        by_cases c3 : q.1 = k'
        · have c2 : ¬ k = k' := fun e => c (c3.trans e.symm)
          simp [c3, c2]
        · rw [List.find?_cons]
          simp only [c3, decide_false]
          exact this
theorem dput_keys {κ : Type} [DecidableEq κ] {ks : List (κ × D)} {k : κ} {d d0 : D} (h : dget ks k = some d0) : (dput ks k d).map (·.1) = ks.map (·.1) := by
  have hany : (ks.any fun kv => decide (kv.1 = k)) = true := by
    obtain ⟨q, h1, h2⟩ := List.mem_map.mp (dget_mem h)
    exact List.any_eq_true.mpr ⟨q, h1, decide_eq_true h2⟩
  unfold dput
  rw [if_pos hany, List.map_map]
  refine List.map_congr_left fun x hx => ?_
  show (if x.1 = k then (x.1, d) else x).1 = x.1
  split <;> rfl
theorem Memo.lt {rs : List (List Int)} {ks : List (List L2.Key × D)} (m : Memo rs ks) : ks.length < 16777216 := by
  let f : List L2.Key → Nat := fun k => match k with
    | [.inl x, .inl y] => x.toNat * 4096 + y.toNat
    | _ => 0
  have h1 : ((ks.map (·.1)).map f).Nodup := by
    refine List.pairwise_map.mpr (m.nd.imp_of_mem fun {x y} hx hy hne e => hne ?_)
    obtain ⟨a, b, rfl, h1, h2, _⟩ := m.bd x hx
    obtain ⟨c, d, rfl, h3, h4, _⟩ := m.bd y hy
    have e : (a : Int).toNat * 4096 + (b : Int).toNat = (c : Int).toNat * 4096 + (d : Int).toNat := e
    simp only [Int.toNat_natCast] at e
    have e1 : a = c := by omega
    have e2 : b = d := by omega
    rw [e1, e2]
  have h2 : (1 :: (ks.map (·.1)).map f).Nodup := by
    refine List.nodup_cons.mpr ⟨fun h => ?_, h1⟩
    obtain ⟨k, hk, e⟩ := List.mem_map.mp h
    obtain ⟨a, b, rfl, h1, h2, h3⟩ := m.bd k hk
    have e : (a : Int).toNat * 4096 + (b : Int).toNat = 1 := e
    simp only [Int.toNat_natCast] at e
    have : a = 0 := by omega
    have := h3 this
    omega
  have := nd_len (N := 16777216) h2 fun n hn => by
    rcases List.mem_cons.mp hn with rfl | hn
    · decide
    · obtain ⟨k, hk, rfl⟩ := List.mem_map.mp hn
      obtain ⟨a, b, rfl, h1, h2, _⟩ := m.bd k hk
      show (a : Int).toNat * 4096 + (b : Int).toNat < 16777216
      simp only [Int.toNat_natCast]
      omega
  rw [List.length_cons, List.length_map, List.length_map] at this
  omega
theorem Memo.put {rs : List (List Int)} {ks : List (List L2.Key × D)} (m : Memo rs ks) {ps ts : List Nat} (hp : Asc ps) (ht : Asc ts) (hpb : ∀ i ∈ ps, i < 12) (htb : ∀ i ∈ ts, i < 12) (hl : ps.length = ts.length) :
    Memo rs (dput ks [.inl (msk ps : Nat), .inl (msk ts : Nat)] (.int (ways rs ps ts : Nat))) := by
  have hz : msk ps = 0 → msk ts = 0 := fun h => by
    have : ps = [] := msk_inj hp List.Pairwise.nil (by rw [h]; rfl)
    subst this
    rw [List.length_eq_zero_iff.mp hl.symm]; rfl
  have key : ∀ k, k ∈ (dput ks [.inl (msk ps : Nat), .inl (msk ts : Nat)] (.int (ways rs ps ts : Nat))).map (·.1) → k ∈ ks.map (·.1) ∨ k = [.inl (msk ps : Nat), .inl (msk ts : Nat)] := fun k hk => by
    cases h : dget ks [.inl (msk ps : Nat), .inl (msk ts : Nat)] with
    | some d => rw [dput_keys h] at hk; exact .inl hk
    | none =>
      rw [dput_new h, List.map_append] at hk
      exact (List.mem_append.mp hk).imp id fun h => List.mem_singleton.mp h
  refine ⟨?_, ?_, ?_, ?_⟩
  · cases h : dget ks [.inl (msk ps : Nat), .inl (msk ts : Nat)] with
    | some d => rw [dput_keys h]; exact m.nd
    | none =>
      rw [dput_new h, List.map_append]
      exact List.nodup_append.mpr ⟨m.nd, by simp, fun x hx y hy e => by
        rw [List.map_singleton, List.mem_singleton] at hy
        subst e
        rw [hy] at hx
        exact dget_none h hx⟩
  · intro k hk
    rcases key k hk with hk | rfl
    · exact m.bd k hk
    · exact ⟨msk ps, msk ts, rfl, msk_lt hp hpb, msk_lt ht htb, hz⟩
  · rw [dget_put]
    by_cases c : ([.inl ((msk ps : Nat) : Int), .inl ((msk ts : Nat) : Int)] : List L2.Key) = [.inl 0, .inl 0]
    · rw [if_pos c]
      simp only [List.cons.injEq, Sum.inl.injEq, and_true] at c
      have : ps = [] := msk_inj hp List.Pairwise.nil (by rw [msk_nil]; omega)
      subst this
      rfl
    · rw [if_neg c]; exact m.z
  · intro ps' ts' d h1 h2 h3
    rw [dget_put] at h3
    by_cases c : ([.inl ((msk ps : Nat) : Int), .inl ((msk ts : Nat) : Int)] : List L2.Key) = [.inl ((msk ps' : Nat) : Int), .inl ((msk ts' : Nat) : Int)]
    · rw [if_pos c] at h3
      cases h3
      simp only [List.cons.injEq, Sum.inl.injEq, and_true] at c
      rw [msk_inj hp h1 (by omega), msk_inj ht h2 (by omega)]
    · rw [if_neg c] at h3; exact m.ok ps' ts' d h1 h2 h3
abbrev cntO (rs : List (List Int)) (ks : List (List L2.Key × D)) : Od := .obj 2 [("rows", .val (rowsD rs)), ("whole", .val (.int ((msk (List.range rs.length) : Nat) : Int))), ("known", .dit ks)]
theorem memo0 {rs : List (List Int)} : Memo rs [([.inl 0, .inl 0], .int 1)] := by
  refine ⟨by simp, fun k hk => ⟨0, 0, ?_, by decide, by decide, fun _ => rfl⟩, by rfl, fun ps ts d h1 h2 h3 => ?_⟩
  · simpa using hk
  · have h4 := dget_mem h3
    simp only [List.map_cons, List.map_nil, List.mem_singleton, List.cons.injEq, Sum.inl.injEq, and_true] at h4
    have e1 : ps = [] := msk_inj h1 List.Pairwise.nil (by rw [msk_nil]; omega)
    have e2 : ts = [] := msk_inj h2 List.Pairwise.nil (by rw [msk_nil]; omega)
    subst e1; subst e2
    cases h3; rfl
end DL

namespace DL
open PySem PySem.Spec PyProof.Rows L2
/-! ### all dealings, listed -/
def asgL : List (List Int) → List Int → List (List Int)
  | [], told => [told]
  | row :: rows, told => (row.filter fun x => decide (x ∉ told)).flatMap fun x => asgL rows (told ++ [x])
def dstep (found : List (List Int)) (row : List Int) : List (List Int) := found.flatMap fun told => (row.filter fun x => decide (x ∉ told)).map fun x => told ++ [x]
def dls (rs : List (List Int)) : List (List Int) := rs.foldl dstep [[]]
theorem dls_fold : ∀ (rows : List (List Int)) (found : List (List Int)), rows.foldl dstep found = found.flatMap (asgL rows)
  | [], found => by
    show found = found.flatMap fun told => [told]
    induction found with
    | nil => rfl
    | cons a r ih => rw [List.flatMap_cons, ← ih]; rfl
  | row :: rows, found => by
    rw [List.foldl_cons, dls_fold rows]
    unfold dstep
    rw [List.flatMap_assoc]
    congr 1
    funext told
    rw [List.flatMap_map]
    rfl
theorem dls_eq (rs : List (List Int)) : dls rs = asgL rs [] := by
  unfold dls
  rw [dls_fold, List.flatMap_cons, List.flatMap_nil, List.append_nil]
/-- what a listed one is -/
theorem asgL_mem : ∀ {rows : List (List Int)} {told d : List Int}, d ∈ asgL rows told ↔ ∃ e, d = told ++ e ∧ e.length = rows.length ∧ e.Nodup ∧ (∀ x ∈ e, x ∉ told) ∧ ∀ (i : Nat) (x : Int) (r : List Int), e[i]? = some x → rows[i]? = some r → x ∈ r
  | [], told, d => by
    unfold asgL
    rw [List.mem_singleton]
    constructor
    · rintro rfl
      exact ⟨[], by simp, rfl, List.nodup_nil, fun x h => absurd h (by simp), fun i x r h => absurd h (by simp)⟩
    · rintro ⟨e, rfl, h, _⟩
      rw [List.length_eq_zero_iff.mp h, List.append_nil]
  | row :: rows, told, d => by
    unfold asgL
    rw [List.mem_flatMap]
    constructor
    · rintro ⟨x, hx, hd⟩
      obtain ⟨h1, h2⟩ := List.mem_filter.mp hx
      have h2 := of_decide_eq_true h2
      obtain ⟨e, rfl, g1, g2, g3, g4⟩ := asgL_mem.mp hd
      refine ⟨x :: e, by simp, by simp [g1], List.nodup_cons.mpr ⟨fun h => ?_, g2⟩, fun y hy => ?_, fun i y r hi hr => ?_⟩
      · exact g3 x h (by simp)
      · rcases List.mem_cons.mp hy with rfl | hy
        · exact h2
        · exact fun h => g3 y hy (List.mem_append_left _ h)
      · cases i with
        | zero => simp at hi hr; subst hi; subst hr; exact h1
        | succ i => exact g4 i y r (by simpa using hi) (by simpa using hr)
    · rintro ⟨e, rfl, g1, g2, g3, g4⟩
      cases e with
      | nil => simp at g1
      | cons x e =>
        obtain ⟨n1, n2⟩ := List.nodup_cons.mp g2
        refine ⟨x, List.mem_filter.mpr ⟨g4 0 x row rfl rfl, decide_eq_true (g3 x List.mem_cons_self)⟩, asgL_mem.mpr ⟨e, by simp, by simpa using g1, n2, fun y hy h => ?_, fun i y r hi hr => g4 (i + 1) y r (by simpa using hi) (by simpa using hr)⟩⟩
        rcases List.mem_append.mp h with h | h
        · exact g3 y (List.mem_cons_of_mem _ hy) h
        · rw [List.mem_singleton] at h; subst h; exact n1 hy
theorem dls_mem {rs : List (List Int)} {d : List Int} : d ∈ dls rs ↔ d.length = rs.length ∧ d.Nodup ∧ ∀ (i : Nat) (x : Int) (r : List Int), d[i]? = some x → rs[i]? = some r → x ∈ r := by
  rw [dls_eq, asgL_mem]
  constructor
  · rintro ⟨e, rfl, h1, h2, _, h3⟩
    exact ⟨h1, h2, h3⟩
  · rintro ⟨h1, h2, h3⟩
    exact ⟨d, rfl, h1, h2, fun x _ h => absurd h (by simp), h3⟩
theorem dls_len {rs : List (List Int)} (h : Rows rs) (hl : rs.length ≤ 6) : (dls rs).length ≤ 46656 := by
  have key : ∀ (rows : List (List Int)) (told : List Int), (∀ r ∈ rows, r.length ≤ 6) → (asgL rows told).length ≤ 6 ^ rows.length := by
    intro rows
    induction rows with
    | nil => intro told _; exact Nat.le_refl _
    | cons row rows ih =>
      intro told hr
      unfold asgL
      have h1 := flat_len (f := fun x => asgL rows (told ++ [x])) (m := 6 ^ rows.length) (xs := row.filter fun x => decide (x ∉ told)) fun x _ => ih _ fun r h => hr r (List.mem_cons_of_mem _ h)
      have h2 := List.length_filter_le (fun x => decide (x ∉ told)) row
      have h3 := hr row List.mem_cons_self
      have h4 : (row.filter fun x => decide (x ∉ told)).length * 6 ^ rows.length ≤ 6 * 6 ^ rows.length := Nat.mul_le_mul_right _ (by omega)
      rw [List.length_cons, Nat.pow_succ]
      omega
  have h1 := key rs [] fun r hr => by have := (h.row r hr).len; omega
  have h2 : 6 ^ rs.length ≤ 6 ^ 6 := Nat.pow_le_pow_right (by decide) hl
  rw [dls_eq]
  have : 6 ^ 6 = 46656 := by decide
  omega
/-! ### dealings with some things told -/
/-- the number of ways to go on, with what G allows -/
def cntG (G : Nat → Int → Bool) : List (List Int) → Nat → List Int → Nat
  | [], _, _ => 1
  | row :: rows, i, told => ((row.filter fun x => decide (x ∉ told) && G i x).map fun x => cntG G rows (i + 1) (told ++ [x])).sum
def fitG (G : Nat → Int → Bool) (lo k : Nat) (d : List Int) : Bool := (List.range' lo k).all fun p => G p (d.getD p 0)
theorem sum_flat {α : Type} {f : α → List (List Int)} {P : List Int → Bool} : ∀ {xs : List α}, ((xs.flatMap f).filter P).length = (xs.map fun x => ((f x).filter P).length).sum
  | [] => rfl
  | x :: xs => by
    rw [List.flatMap_cons, List.filter_append, List.length_append, sum_flat, List.map_cons, List.sum_cons]
theorem sum_filt {α : Type} {f : α → Nat} {P Q : α → Bool} (h : ∀ x, P x = true → Q x = false → f x = 0) : ∀ {xs : List α}, ((xs.filter P).map f).sum = ((xs.filter fun x => P x && Q x).map f).sum
  | [] => rfl
  | x :: xs => by
    have ih := sum_filt h (xs := xs)
    rw [List.filter_cons, List.filter_cons]
    by_cases c : P x = true
    · by_cases c2 : Q x = true
      · rw [if_pos c, if_pos (by rw [c, c2]; rfl), List.map_cons, List.map_cons, List.sum_cons, List.sum_cons, ih]
      · have c2 : Q x = false := by simpa using c2
        rw [if_pos c, if_neg (by rw [c, c2]; decide), List.map_cons, List.sum_cons, h x c c2, ih, Nat.zero_add]
    · rw [if_neg c, if_neg (fun z => c (Bool.and_eq_true_iff.mp z).1), ih]
theorem sum_zero {α : Type} {f : α → Nat} : ∀ {xs : List α}, (∀ x ∈ xs, f x = 0) → (xs.map f).sum = 0
  | [], _ => rfl
  | x :: xs, h => by
    rw [List.map_cons, List.sum_cons, h x List.mem_cons_self, sum_zero fun y hy => h y (List.mem_cons_of_mem _ hy)]
theorem asgL_fit {G : Nat → Int → Bool} : ∀ (rows : List (List Int)) (told : List Int), ((asgL rows told).filter (fitG G told.length rows.length)).length = cntG G rows told.length told
  | [], told => by
    unfold asgL cntG
    have : fitG G told.length 0 told = true := rfl
    show (List.filter (fitG G told.length 0) [told]).length = 1
    rw [List.filter_cons, if_pos this]; rfl
  | row :: rows, told => by
    unfold asgL cntG
    rw [sum_flat]
    have step : ∀ x, ((asgL rows (told ++ [x])).filter (fitG G told.length (row :: rows).length)).length = if G told.length x = true then cntG G rows (told.length + 1) (told ++ [x]) else 0 := fun x => by
      have ih := asgL_fit (G := G) rows (told ++ [x])
      rw [List.length_append, List.length_singleton] at ih
      have conv : ∀ d ∈ asgL rows (told ++ [x]), fitG G told.length (row :: rows).length d = (G told.length x && fitG G (told.length + 1) rows.length d) := fun d hd => by
        obtain ⟨z, rfl, _⟩ := asgL_mem.mp hd
        unfold fitG
        rw [List.length_cons, List.range'_succ, List.all_cons]
        have : (told ++ [x] ++ z).getD told.length 0 = x := by
          rw [List.getD_eq_getElem?_getD, List.append_assoc, List.getElem?_append_right (Nat.le_refl _), Nat.sub_self]; rfl
        rw [this]
      rw [List.filter_congr conv]
      by_cases c : G told.length x = true
      · rw [if_pos c, ← ih]
        congr 2
        funext d
        rw [c, Bool.true_and]
      · rw [if_neg c]
        have c : G told.length x = false := Bool.eq_false_iff.mpr c
        have : (fun d => G told.length x && fitG G (told.length + 1) rows.length d) = fun _ => false := by
          funext d; rw [c, Bool.false_and]
        rw [this]
        simp
    rw [sum_filt (Q := fun x => G told.length x) (fun x _ h => by rw [step, if_neg (by rw [h]; decide)])]
    congr 1
    refine List.map_congr_left fun x hx => ?_
    have := (Bool.and_eq_true_iff.mp (List.mem_filter.mp hx).2).2
    rw [step, if_pos this]
/-! ### lots -/
abbrev pr (q : Nat × Nat) : List Int := [(q.1 : Int), (q.2 : Int)]
abbrev lotD (lot : List (Nat × Nat)) : List D := lot.map fun q => tupI (pr q)
def grid (n : Nat) : List (Nat × Nat) := (List.range n).flatMap fun p => (List.range n).map fun t => (p, t)
def lset (n : Nat) (lot : List (Nat × Nat)) : List (Nat × Nat) := (grid n).filter fun q => decide (q ∈ lot)
def lexn (a b : Nat × Nat) : Prop := a.1 < b.1 ∨ a.1 = b.1 ∧ a.2 < b.2
theorem grid_lex (n : Nat) : (grid n).Pairwise lexn := by
  unfold grid
  rw [List.pairwise_flatMap]
  refine ⟨fun p _ => List.pairwise_map.mpr (List.pairwise_lt_range.imp fun h => .inr ⟨rfl, h⟩), List.pairwise_lt_range.imp fun h x hx y hy => ?_⟩
  obtain ⟨t, _, rfl⟩ := List.mem_map.mp hx
  obtain ⟨u, _, rfl⟩ := List.mem_map.mp hy
  exact .inl h
theorem grid_mem {n : Nat} {q : Nat × Nat} : q ∈ grid n ↔ q.1 < n ∧ q.2 < n := by
  unfold grid
  rw [List.mem_flatMap]
  constructor
  · rintro ⟨p, hp, h⟩
    obtain ⟨t, ht, rfl⟩ := List.mem_map.mp h
    exact ⟨List.mem_range.mp hp, List.mem_range.mp ht⟩
  · rintro ⟨h1, h2⟩
    exact ⟨q.1, List.mem_range.mpr h1, List.mem_map.mpr ⟨q.2, List.mem_range.mpr h2, rfl⟩⟩
abbrev Lot (n : Nat) (lot : List (Nat × Nat)) : Prop := ∀ q ∈ lot, q.1 < n ∧ q.2 < n
theorem lset_mem {n : Nat} {lot : List (Nat × Nat)} (hb : Lot n lot) {q : Nat × Nat} : q ∈ lset n lot ↔ q ∈ lot := by
  unfold lset
  rw [List.mem_filter, grid_mem, decide_eq_true_iff]
  exact ⟨fun h => h.2, fun h => ⟨hb q h, h⟩⟩
theorem lset_lex {n : Nat} {lot : List (Nat × Nat)} : (lset n lot).Pairwise lexn := (grid_lex n).filter _
theorem lset_congr {n : Nat} {a b : List (Nat × Nat)} (h : ∀ q, q ∈ a ↔ q ∈ b) : lset n a = lset n b := by
  unfold lset
  refine List.filter_congr fun q _ => ?_
  rw [decide_eq_decide]; exact h q
theorem sset_lot {n : Nat} {lot : List (Nat × Nat)} (hb : Lot n lot) (hn : n ≤ 63) (hl : lot.length < 64) : ssetB [.lst (lotD lot)] = some (.fd (.lst (lotD (lset n lot)))) := by
  have e : ∀ l : List (Nat × Nat), lotD l = (l.map pr).map tupI := fun l => by rw [List.map_map]; rfl
  rw [e, e]
  refine sset_ties (fun t ht => ?_) (by rw [List.length_map]; exact hl) (List.pairwise_map.mpr (lset_lex.imp fun {a b} h => ⟨_, _, _, _, rfl, rfl, by unfold lexn at h; omega⟩)) fun t => ?_
  · obtain ⟨q, hq, rfl⟩ := List.mem_map.mp ht
    have := hb q hq
    refine ⟨rfl, fun m hm => ?_⟩
    simp only [List.mem_cons, List.not_mem_nil, or_false] at hm
    omega
  · rw [List.mem_map, List.mem_map]
    exact ⟨fun ⟨q, h, e⟩ => ⟨q, (lset_mem hb).mp h, e⟩, fun ⟨q, h, e⟩ => ⟨q, (lset_mem hb).mpr h, e⟩⟩
theorem map_inj {α β : Type} {f : α → β} : ∀ {l : List α}, (l.map f).Nodup → ∀ {a b : α}, a ∈ l → b ∈ l → f a = f b → a = b
  | [], _, _, _, h, _, _ => absurd h (by simp)
  | x :: l, h, a, b, ha, hb, e => by
    rw [List.map_cons, List.nodup_cons] at h
    rcases List.mem_cons.mp ha with ha | ha <;> rcases List.mem_cons.mp hb with hb | hb
    · rw [ha, hb]
    · exact absurd (List.mem_map.mpr ⟨b, hb, by rw [← e, ha]⟩) h.1
    · exact absurd (List.mem_map.mpr ⟨a, ha, by rw [e, hb]⟩) h.1
    · exact map_inj h.2 ha hb e
theorem met_take (ns : List Int) : ∀ n, n ≤ ns.length → (PyProof.Rows.firstMet (fun i => ns.getD i 0) n).length ≤ n ∧ (n ≤ (PyProof.Rows.firstMet (fun i => ns.getD i 0) n).length → PyProof.Rows.firstMet (fun i => ns.getD i 0) n = ns.take n)
  | 0, _ => ⟨Nat.le_refl _, fun _ => by rw [List.take_zero]; rfl⟩
  | n + 1, h => by
    obtain ⟨h1, h2⟩ := met_take ns n (by omega)
    rw [fm_s]
    by_cases cc : ((PyProof.Rows.firstMet (fun i => ns.getD i 0) n).any (· == ns.getD n 0)) = true
    · rw [if_pos cc]; exact ⟨by omega, fun c => by omega⟩
    · rw [if_neg cc, List.length_append, List.length_singleton]
      refine ⟨by omega, fun c => ?_⟩
      rw [h2 (by omega), List.take_succ_eq_append_getElem (by omega)]
      congr 2
      rw [List.getD_eq_getElem?_getD, List.getElem?_eq_getElem (by omega)]; rfl
theorem met_nodup {ns : List Int} : ¬ (metI ns).length < ns.length ↔ ns.Nodup := by
  constructor
  · intro h
    have := (met_take ns ns.length (Nat.le_refl _)).2 (by unfold metI at h; omega)
    have h2 := metI_nodup ns
    unfold metI at h2
    rw [this, List.take_length] at h2
    exact h2
  · intro h
    rw [metI_len h fun _ => Iff.rfl]
    omega
/-- what a lot allows -/
def lotG (us : List (Nat × Nat)) (p : Nat) (x : Int) : Bool := us.all fun q => decide (q.1 ≠ p) || decide ((q.2 : Int) = x)
theorem lotG_t {us : List (Nat × Nat)} {p : Nat} {x : Int} : lotG us p x = true ↔ ∀ q ∈ us, q.1 = p → (q.2 : Int) = x := by
  unfold lotG
  rw [List.all_eq_true]
  refine forall_congr' fun q => forall_congr' fun _ => ?_
  rw [Bool.or_eq_true, decide_eq_true_iff, decide_eq_true_iff]
  constructor
  · intro h e; exact h.resolve_left (fun z => z e)
  · intro h
    by_cases c : q.1 = p
    · exact .inr (h c)
    · exact .inl c
theorem cntG_zero {us : List (Nat × Nat)} : ∀ {rows : List (List Int)} {i : Nat} {told : List Int}, (∃ q ∈ us, i ≤ q.1 ∧ q.1 < i + rows.length ∧ (q.2 : Int) ∈ told) → cntG (lotG us) rows i told = 0
  | [], i, told, ⟨q, _, h1, h2, _⟩ => by rw [List.length_nil] at h2; omega
  | row :: rows, i, told, ⟨q, hq, h1, h2, h3⟩ => by
    unfold cntG
    refine sum_zero fun x hx => ?_
    obtain ⟨hx1, hx2⟩ := List.mem_filter.mp hx
    obtain ⟨hx2, hx3⟩ := Bool.and_eq_true_iff.mp hx2
    by_cases c : q.1 = i
    · have := lotG_t.mp hx3 q hq c
      subst this
      exact absurd h3 (of_decide_eq_true hx2)
    · refine cntG_zero ⟨q, hq, by omega, by rw [List.length_cons] at h2; omega, List.mem_append_left _ h3⟩
theorem filter_one {α : Type} {P : α → Bool} {a : α} : ∀ {l : List α}, l.Nodup → a ∈ l → P a = true → (∀ x ∈ l, P x = true → x = a) → l.filter P = [a]
  | [], _, h, _, _ => absurd h (by simp)
  | x :: l, hn, h, hp, hu => by
    obtain ⟨n1, n2⟩ := List.nodup_cons.mp hn
    rw [List.filter_cons]
    rcases List.mem_cons.mp h with rfl | h
    · rw [if_pos hp]
      have : l.filter P = [] := List.filter_eq_nil_iff.mpr fun y hy hpy => n1 (hu y (List.mem_cons_of_mem _ hy) hpy ▸ hy)
      rw [this]
    · rw [if_neg fun z => n1 (hu x List.mem_cons_self z ▸ h)]
      exact filter_one n2 h hp fun y hy => hu y (List.mem_cons_of_mem _ hy)
theorem cntG_ways {rs : List (List Int)} {us : List (Nat × Nat)} (hr : Rows rs) (h1 : (us.map (·.1)).Nodup) (h2 : (us.map (·.2)).Nodup) (h3 : ∀ q ∈ us, (q.2 : Int) ∈ rs.getD q.1 [] ∧ q.1 < rs.length) :
    ∀ (k i : Nat) (told : List Int) (ts : List Nat), i + k = rs.length → Asc ts → (∀ t : Nat, t ∈ ts ↔ t < rs.length ∧ (t : Int) ∉ told ∧ ∀ q ∈ us, i ≤ q.1 → q.2 ≠ t) → (∀ q ∈ us, i ≤ q.1 → (q.2 : Int) ∉ told) →
    cntG (lotG us) (rs.drop i) i told = ways rs ((List.range' i k).filter fun p => decide (∀ q ∈ us, q.1 ≠ p)) ts
  | 0, i, told, ts, hk, _, _, _ => by
    rw [List.drop_eq_nil_of_le (by omega)]; rfl
  | k + 1, i, told, ts, hk, ha, hm, ht => by
    have hi : i < rs.length := by omega
    have hrow := hr.get hi
    have hd : rs.drop i = rs.getD i [] :: rs.drop (i + 1) := by
      rw [List.drop_eq_getElem_cons hi, List.getD_eq_getElem?_getD, List.getElem?_eq_getElem hi]; rfl
    rw [hd, List.range'_succ, List.filter_cons]
    unfold cntG
    by_cases c : ∀ q ∈ us, q.1 ≠ i
    · rw [if_pos (decide_eq_true c)]
      unfold ways
      have hfree : ∀ x, lotG us i x = true := fun x => lotG_t.mpr fun q hq e => absurd e (c q hq)
      rw [sum_filt (Q := fun x => decide (x.toNat ∈ ts) || decide (x ∉ rs.getD i [])) (fun x hx hq => by
        obtain ⟨hx, _⟩ := Bool.and_eq_true_iff.mp hx
        have hx := of_decide_eq_true hx
        rw [Bool.or_eq_false_iff] at hq
        have q1 := of_decide_eq_false hq.1
        have q2 : x ∈ rs.getD i [] := Decidable.of_not_not (of_decide_eq_false hq.2)
        have hb := hrow.bd x q2
        refine cntG_zero ?_
        rw [hm] at q1
        have hxx : ((x.toNat : Nat) : Int) = x := by omega
        rw [hxx] at q1
        apply Classical.byContradiction
        intro hc
        refine q1 ⟨by omega, hx, fun q hq hi2 e => hc ⟨q, hq, ?_, ?_, ?_⟩⟩
        · have := c q hq; omega
        · have := (h3 q hq).2; rw [List.length_drop]; omega
        · rw [e, hxx]; exact List.mem_append_right _ (List.mem_singleton.mpr rfl))]
      have ef : ((rs.getD i []).filter fun x => (decide (x ∉ told) && lotG us i x) && (decide (x.toNat ∈ ts) || decide (x ∉ rs.getD i []))) = (rs.getD i []).filter fun x => decide (x.toNat ∈ ts) := by
        refine List.filter_congr fun x hx => ?_
        have hb := hrow.bd x hx
        have hxx : ((x.toNat : Nat) : Int) = x := by omega
        rw [hfree, Bool.and_true, decide_eq_false (p := x ∉ rs.getD i []) (fun z => z hx), Bool.or_false]
        by_cases c2 : x.toNat ∈ ts
        · have := ((hm _).mp c2).2.1
          rw [hxx] at this
          rw [decide_eq_true this, Bool.true_and]
        · rw [decide_eq_false c2, Bool.and_false]
      rw [ef]
      congr 1
      refine List.map_congr_left fun x hx => ?_
      obtain ⟨hx1, hx2⟩ := List.mem_filter.mp hx
      have hx2 := of_decide_eq_true hx2
      have hb := hrow.bd x hx1
      have hxx : ((x.toNat : Nat) : Int) = x := by omega
      refine cntG_ways hr h1 h2 h3 k (i + 1) (told ++ [x]) (ts.erase x.toNat) (by omega) (asc_erase ha) (fun t => ?_) fun q hq hi2 hmem => ?_
      · rw [(asc_nodup ha).mem_erase_iff, hm, List.mem_append, List.mem_singleton]
        constructor
        · rintro ⟨a, b, d, e⟩
          exact ⟨b, fun z => z.elim d (fun z => a (by omega)), fun q hq hi2 => e q hq (by omega)⟩
        · rintro ⟨b, d, e⟩
          refine ⟨fun z => d (.inr (by omega)), b, fun z => d (.inl z), fun q hq hi2 => e q hq ?_⟩
          have := c q hq; omega
      · rcases List.mem_append.mp hmem with z | z
        · exact ht q hq (by omega) z
        · have z := List.mem_singleton.mp z
          have := ((hm _).mp hx2).2.2 q hq (by omega)
          omega
    · rw [if_neg fun z => c (of_decide_eq_true z)]
      have c : ∃ q ∈ us, q.1 = i := by
        apply Classical.byContradiction
        intro hc
        exact c fun q hq e => hc ⟨q, hq, e⟩
      obtain ⟨q, hq, hqi⟩ := c
      have uq : ∀ q' ∈ us, q'.1 = i → q' = q := fun q' hq' e => map_inj h1 hq' hq (by rw [e, hqi])
      have ef : ((rs.getD i []).filter fun x => decide (x ∉ told) && lotG us i x) = [(q.2 : Int)] := by
        refine filter_one hrow.nodup (hqi ▸ (h3 q hq).1) ?_ fun x hx hp => ?_
        · rw [Bool.and_eq_true, decide_eq_true_iff]
          exact ⟨ht q hq (by omega), lotG_t.mpr fun q' hq' e => by rw [uq q' hq' e]⟩
        · exact (lotG_t.mp (Bool.and_eq_true_iff.mp hp).2 q hq hqi).symm
      rw [ef]
      show cntG (lotG us) (rs.drop (i + 1)) (i + 1) (told ++ [(q.2 : Int)]) + 0 = _
      rw [Nat.add_zero]
      refine cntG_ways hr h1 h2 h3 k (i + 1) (told ++ [(q.2 : Int)]) ts (by omega) ha (fun t => ?_) fun q' hq' hi2 hmem => ?_
      · rw [hm, List.mem_append, List.mem_singleton]
        constructor
        · rintro ⟨b, d, e⟩
          exact ⟨b, fun z => z.elim d (fun z => e q hq (by omega) (by omega)), fun q' hq' hi2 => e q' hq' (by omega)⟩
        · rintro ⟨b, d, e⟩
          refine ⟨b, fun z => d (.inl z), fun q' hq' hi2 e2 => ?_⟩
          by_cases c3 : q'.1 = i
          · rw [uq q' hq' c3] at e2; exact d (.inr (by omega))
          · exact e q' hq' (by omega) e2
      · rcases List.mem_append.mp hmem with z | z
        · exact ht q' hq' (by omega) z
        · have z := List.mem_singleton.mp z
          have := map_inj h2 hq' hq (by omega : q'.2 = q.2)
          rw [this] at hi2; omega
def Good (rs : List (List Int)) (us : List (Nat × Nat)) : Prop := (us.map (·.1)).Nodup ∧ (us.map (·.2)).Nodup ∧ ∀ q ∈ us, (q.2 : Int) ∈ rs.getD q.1 []
/-- the dealings that have all of a lot -/
def lotN (rs : List (List Int)) (lot : List (Nat × Nat)) : Nat := ((dls rs).filter fun d => lot.all fun q => d.getD q.1 0 == (q.2 : Int)).length
theorem comp_perm {n : Nat} {s : List Nat} (h : s.Nodup) (hb : ∀ i ∈ s, i < n) : (List.range n).Perm (s ++ (List.range n).filter fun i => decide (i ∉ s)) := by
  refine (List.perm_ext_iff_of_nodup List.nodup_range (List.nodup_append.mpr ⟨h, List.nodup_range.sublist List.filter_sublist, fun a ha b hb e => ?_⟩)).mpr fun i => ?_
  · subst e
    exact of_decide_eq_true (List.mem_filter.mp hb).2 ha
  · rw [List.mem_append, List.mem_filter, List.mem_range, decide_eq_true_iff]
    by_cases c : i ∈ s
    · exact ⟨fun _ => .inl c, fun _ => hb i c⟩
    · exact ⟨fun z => .inr ⟨z, c⟩, fun z => z.elim (fun z => absurd z c) (·.1)⟩
theorem range_comp {n : Nat} {s : List Nat} (h : s.Nodup) (hb : ∀ i ∈ s, i < n) : msk s + msk ((List.range n).filter fun i => decide (i ∉ s)) = msk (List.range n) := by
  rw [msk_perm (comp_perm h hb)]
  unfold msk
  rw [List.map_append, List.sum_append]
theorem comp_len {n : Nat} {s : List Nat} (h : s.Nodup) (hb : ∀ i ∈ s, i < n) : s.length + ((List.range n).filter fun i => decide (i ∉ s)).length = n := by
  have := (comp_perm h hb).length_eq
  rw [List.length_range, List.length_append] at this
  exact this.symm
theorem lot_good {rs : List (List Int)} {lot : List (Nat × Nat)} (hr : Rows rs) (hb : Lot rs.length lot) (h : Good rs (lset rs.length lot)) :
    lotN rs lot = ways rs ((List.range rs.length).filter fun i => decide (i ∉ (lset rs.length lot).map (·.1))) ((List.range rs.length).filter fun i => decide (i ∉ (lset rs.length lot).map (·.2))) := by
  obtain ⟨h1, h2, h3⟩ := h
  have e := asgL_fit (G := lotG (lset rs.length lot)) rs []
  rw [← dls_eq] at e
  have e1 : lotN rs lot = ((dls rs).filter (fitG (lotG (lset rs.length lot)) 0 rs.length)).length := by
    unfold lotN
    congr 1
    refine List.filter_congr fun d hd => ?_
    rw [Bool.eq_iff_iff, List.all_eq_true]
    unfold fitG
    rw [List.all_eq_true]
    constructor
    · intro hh p hp
      exact lotG_t.mpr fun q hq e => by
        have := beq_iff_eq.mp (hh q ((lset_mem hb).mp hq))
        rw [← e, this]
    · intro hh q hq
      have := hh q.1 (List.mem_range'_1.mpr (by have := hb q hq; omega))
      exact beq_iff_eq.mpr (lotG_t.mp this q ((lset_mem hb).mpr hq) rfl).symm
  have hlt : ∀ q ∈ lset rs.length lot, q.1 < rs.length := fun q hq => (hb q ((lset_mem hb).mp hq)).1
  rw [e1]
  rw [List.length_nil] at e
  rw [e]
  have := cntG_ways hr h1 h2 (fun q hq => ⟨h3 q hq, hlt q hq⟩) rs.length 0 [] ((List.range rs.length).filter fun i => decide (i ∉ (lset rs.length lot).map (·.2))) (by omega) (List.pairwise_lt_range.filter _) (fun t => by
    rw [List.mem_filter, List.mem_range, decide_eq_true_iff, List.mem_map]
    constructor
    · rintro ⟨a, b⟩; exact ⟨a, by simp, fun q hq _ e => b ⟨q, hq, e⟩⟩
    · rintro ⟨a, _, b⟩; exact ⟨a, fun ⟨q, hq, e⟩ => b q hq (Nat.zero_le _) e⟩) (fun q hq _ => by simp)
  rw [List.drop_zero] at this
  rw [this, ← List.range_eq_range']
  congr 1
  refine List.filter_congr fun p _ => ?_
  rw [decide_eq_decide, List.mem_map]
  exact ⟨fun h ⟨q, hq, e⟩ => h q hq e, fun h q hq e => h ⟨q, hq, e⟩⟩
theorem lot_bad {rs : List (List Int)} {lot : List (Nat × Nat)} (hb : Lot rs.length lot) (h : ¬ Good rs (lset rs.length lot)) : lotN rs lot = 0 := by
  unfold lotN
  rw [List.length_eq_zero_iff, List.filter_eq_nil_iff]
  intro d hd hall
  obtain ⟨d1, d2, d3⟩ := dls_mem.mp hd
  have hq : ∀ q ∈ lset rs.length lot, q.1 < rs.length ∧ d[q.1]? = some (q.2 : Int) := fun q hq => by
    have hq := (lset_mem hb).mp hq
    have h1 := beq_iff_eq.mp (List.all_eq_true.mp hall q hq)
    have h2 := (hb q hq).1
    rw [List.getD_eq_getElem?_getD, List.getElem?_eq_getElem (by omega)] at h1
    exact ⟨h2, by rw [List.getElem?_eq_getElem (by omega)]; exact congrArg some h1⟩
  refine h ⟨?_, ?_, fun q hm => ?_⟩
  · refine List.pairwise_map.mpr (lset_lex.imp_of_mem fun {a b} ha hb' hab e => ?_)
    have e1 := (hq a ha).2
    have e2 := (hq b hb').2
    rw [e, e2] at e1
    have := Option.some.inj e1
    unfold lexn at hab
    omega
  · refine List.pairwise_map.mpr (lset_lex.imp_of_mem fun {a b} ha hb' hab e => ?_)
    have e1 := (hq a ha).2
    have e2 := (hq b hb').2
    rw [e, ← e2] at e1
    have hl := (hq a ha).1
    have := (List.getElem?_inj (by omega) d2).mp e1
    unfold lexn at hab
    omega
  · have h1 := (hq q hm)
    have := d3 q.1 q.2 (rs.getD q.1 []) h1.2 (by rw [List.getD_eq_getElem?_getD, List.getElem?_eq_getElem h1.1]; rfl)
    exact this
theorem dls_ways {rs : List (List Int)} (hr : Rows rs) : ways rs (List.range rs.length) (List.range rs.length) = (dls rs).length := by
  have hb : Lot rs.length [] := fun q h => absurd h (by simp)
  have e : lset rs.length [] = [] := List.filter_eq_nil_iff.mpr fun q _ => by simp
  have := lot_good hr hb (by rw [e]; exact ⟨List.nodup_nil, List.nodup_nil, fun q h => absurd h (by simp)⟩)
  rw [e] at this
  have e2 : lotN rs [] = (dls rs).length := by unfold lotN; simp
  rw [← e2, this]
  congr 1 <;> exact (List.filter_eq_self.mpr fun i _ => by simp).symm
end DL

namespace DL
open PySem PySem.Spec PyProof.Rows L2
section
variable {env e : Env} {fk fv fa fb : M D} {fo : M Od} {fx : P Fd} {pb : P D}
theorem mddk_k : mddk fk fv env = mbk (fk env) fun k => mb fv fun v => mo ((toK k).map fun q => .fd (.dik [(q, v)])) := mb_k
theorem mclx_k {p : Fn} {n : Nat} {fa : M (List D)} : mclx fo p n fa env = mbk (fo env) fun o => mb fa fun ds => (if ds.length + 1 = n then mo ((p (some o :: vals ds)).map (·.1)) else mo none) := mb_k
theorem isBD_s {neg a b : Bool} : isBD neg (.bl a) (.bl b) = some (.bl (if neg = true then !(a == b) else a == b)) := rfl
theorem thaw_l {ds : List D} : thaw (.lst ds) = some (.lst ds) := rfl
theorem thaw_v {d : D} : thaw (.val d) = some d := rfl
theorem onlyB_s {b : Bool} : onlyB (.bl b) = some (.bl b) := rfl
theorem pcL_s {g : D → D → Option D} : pcL g fx pb env = (fx env).bind fun x => (pb env).bind fun b => (thaw x).bind fun a => (g a b).bind onlyB := rfl
theorem pisL_s {T : String} {tab : Nat → Option Bool} : pisL T tab fx env = (fx env).bind fun x => (thaw x).bind fun a => isiB T tab a := rfl
def mixSx (i : Nat) (o : Option (D × Env)) (x : Option (Option Od)) : Option (D × Env) := x.join.bind fun _ => mbk o (fun b => pu fun env => (px i env).bind fun x => ixF x b)
theorem mixS_k {i : Nat} : mixS i fb env = mixSx i (fb env) env[i]? := by
  unfold mixS mixSx
  cases (env[i]?).join with
  | none => rfl
  | some _ =>
    rw [Option.bind_some, Option.bind_some]
    exact mb_k
theorem mixSx_s {i : Nat} {o : Option (D × Env)} {y : Od} : mixSx i o (some (some y)) = mbk o (fun b => pu fun env => (px i env).bind fun x => ixF x b) := rfl
end
/-! ### dicts from numbers to numbers -/
abbrev fup (f : Nat → Option Nat) (k v : Nat) : Nat → Option Nat := fun j => if j = k then some v else f j
structure Dm (n : Nat) (ks : List (L2.Key × D)) (f : Nat → Option Nat) : Prop where
  get : ∀ k : Nat, dget ks (.inl (k : Int)) = (f k).map fun v => D.int (v : Nat)
  nd : (ks.map (·.1)).Nodup
  bd : ∀ k ∈ ks.map (·.1), ∃ a : Nat, k = .inl (a : Int) ∧ a < n
theorem Dm.nil {n : Nat} : Dm n [] fun _ => none := ⟨fun _ => rfl, List.nodup_nil, fun k h => absurd h (by simp)⟩
theorem nodup_bound {n : Nat} {l : List Nat} (h : l.Nodup) (hb : ∀ x ∈ l, x < n) : l.length ≤ n := by
  have e : l.Perm ((List.range n).filter fun i => decide (i ∈ l)) := (List.perm_ext_iff_of_nodup h (List.nodup_range.sublist List.filter_sublist)).mpr fun i => by
    rw [List.mem_filter, List.mem_range, decide_eq_true_iff]
    exact ⟨fun z => ⟨hb i z, z⟩, fun z => z.2⟩
  rw [e.length_eq]
  have := List.length_filter_le (fun i => decide (i ∈ l)) (List.range n)
  rwa [List.length_range] at this
def keyN : L2.Key → Nat
  | .inl i => i.toNat
  | .inr _ => 0
theorem Dm.len {n : Nat} {ks : List (L2.Key × D)} {f : Nat → Option Nat} (h : Dm n ks f) : ks.length ≤ n := by
  have h1 : ((ks.map (·.1)).map keyN).Nodup := List.pairwise_map.mpr (List.Pairwise.imp_of_mem (fun {a b} ha hb hab e => hab (by
    obtain ⟨i, rfl, _⟩ := h.bd a ha
    obtain ⟨j, rfl, _⟩ := h.bd b hb
    have e : ((i : Int)).toNat = ((j : Int)).toNat := e
    rw [Int.toNat_natCast, Int.toNat_natCast] at e
    rw [e])) h.nd)
  have h2 := nodup_bound (n := n) h1 (fun x hx => by
    obtain ⟨k, hk, rfl⟩ := List.mem_map.mp hx
    obtain ⟨i, rfl, hi⟩ := h.bd k hk
    show ((i : Int)).toNat < n
    rw [Int.toNat_natCast]; exact hi)
  rwa [List.length_map, List.length_map] at h2
theorem Dm.put {n k v : Nat} {ks : List (L2.Key × D)} {f : Nat → Option Nat} (h : Dm n ks f) (hk : k < n) : Dm n (dput ks (.inl (k : Int)) (.int (v : Nat))) (fup f k v) := by
  refine ⟨fun j => ?_, ?_, ?_⟩
  · rw [dget_put]
    show _ = (if j = k then some v else f j).map _
    by_cases c : j = k
    · subst c; rw [if_pos rfl, if_pos rfl]; rfl
    · rw [if_neg c, if_neg (fun e => c (by have := Sum.inl.inj e; omega)), h.get]
  · cases q : dget ks (.inl (k : Int)) with
    | some d => rw [dput_keys q]; exact h.nd
    | none =>
      rw [dput_new q, List.map_append]
      exact List.nodup_append.mpr ⟨h.nd, by simp, fun a ha b hb e => by
        rw [List.map_cons, List.map_nil, List.mem_singleton] at hb
        subst hb; subst e
        exact dget_none q ha⟩
  · intro a ha
    cases q : dget ks (.inl (k : Int)) with
    | some d => rw [dput_keys q] at ha; exact h.bd a ha
    | none =>
      rw [dput_new q, List.map_append] at ha
      rcases List.mem_append.mp ha with ha | ha
      · exact h.bd a ha
      · rw [List.map_cons, List.map_nil, List.mem_singleton] at ha
        exact ⟨k, ha, hk⟩
theorem Dm.put_len {n k : Nat} {d : D} {ks : List (L2.Key × D)} {f : Nat → Option Nat} (h : Dm n ks f) (hk : f k = none) : (dput ks (.inl (k : Int)) d).length = ks.length + 1 := by
  have : dget ks (.inl (k : Int)) = none := by rw [h.get, hk]; rfl
  rw [dput_new this, List.length_append]; rfl
/-! ### a matching under way -/
/-- of and owner are the inverse of each other, and made of ties -/
structure Mat (rs : List (List Int)) (f g : Nat → Option Nat) : Prop where
  inv : ∀ p t, f p = some t ↔ g t = some p
  tie : ∀ p t, f p = some t → p < rs.length ∧ t < rs.length ∧ (t : Int) ∈ rs.getD p []
/-- where the things came from: c maps them to people, r ranks them -/
structure Came (rs : List (List Int)) (q0 m : Nat) (c : Nat → Option Nat) (r : Nat → Nat) (g : Nat → Option Nat) : Prop where
  tie : ∀ t p, c t = some p → t < rs.length ∧ p < rs.length ∧ (t : Int) ∈ rs.getD p [] ∧ r t < m
  fro : ∀ t p, c t = some p → p = q0 ∨ ∃ t', r t' < r t ∧ (c t').isSome ∧ g t' = some p
/-- people who are closed together: all that they may get is theirs -/
def Shut (rs : List (List Int)) (S T : Nat → Prop) (g : Nat → Option Nat) : Prop :=
  (∀ s (t : Nat), S s → (t : Int) ∈ rs.getD s [] → T t) ∧ ∀ t, T t → ∃ q, g t = some q ∧ S q
/-- handing on, under way -/
structure Hand (rs : List (List Int)) (q0 : Nat) (c : Nat → Option Nat) (r : Nat → Nat) (f0 g0 f g : Nat → Option Nat) (t h : Nat) : Prop where
  came : c t = some h
  inv : ∀ p u, u ≠ t → (f p = some u ↔ g u = some p)
  off : ∀ p, f p ≠ some t
  tie : ∀ p u, f p = some u → p < rs.length ∧ u < rs.length ∧ (u : Int) ∈ rs.getD p []
  q : f q0 = none
  dom : ∀ p, (f p).isSome = (f0 p).isSome
  low : ∀ u, r u < r t → g u = g0 u
  mono : ∀ u, (g0 u).isSome = true → (g u).isSome = true
  shut : ∀ S T, Shut rs S T g0 → ¬ T t ∧ ∀ u, T u → g u = g0 u
theorem Hand.begin {rs : List (List Int)} {q0 m t h : Nat} {c : Nat → Option Nat} {r : Nat → Nat} {f g : Nat → Option Nat} (M : Mat rs f g) (ct : c t = some h) (ht : g t = none) (hq : f q0 = none) : Hand rs q0 c r f g f g t h := by
  refine ⟨ct, fun p u _ => M.inv p u, fun p e => ?_, M.tie, hq, fun _ => rfl, fun _ _ => rfl, fun _ h => h, fun S T s => ⟨fun z => ?_, fun _ _ => rfl⟩⟩
  · rw [(M.inv p t).mp e] at ht; cases ht
  · obtain ⟨q, e, _⟩ := s.2 t z
    rw [e] at ht; cases ht
theorem Hand.next {rs : List (List Int)} {q0 m t h : Nat} {c : Nat → Option Nat} {r : Nat → Nat} {f0 g0 f g : Nat → Option Nat} (C : Came rs q0 m c r g0) (H : Hand rs q0 c r f0 g0 f g t h) (hh : h ≠ q0) :
    ∃ t' h', f h = some t' ∧ c t' = some h' ∧ r t' < r t ∧ Hand rs q0 c r f0 g0 (fup f h t) (fup g t h) t' h' := by
  rcases C.fro t h H.came with e | ⟨t', hr, hc, hg⟩
  · exact absurd e hh
  have hne : t' ≠ t := fun e => by rw [e] at hr; omega
  have hg' : g t' = some h := by rw [H.low t' hr]; exact hg
  have hf : f h = some t' := (H.inv h t' hne).mpr hg'
  obtain ⟨h', hc'⟩ := Option.isSome_iff_exists.mp hc
  refine ⟨t', h', hf, hc', hr, ⟨hc', fun p u hu => ?_, fun p e => ?_, fun p u e => ?_, ?_, fun p => ?_, fun u hu => ?_, fun u hu => ?_, fun S T s => ?_⟩⟩
  · show (if p = h then some t else f p) = some u ↔ (if u = t then some h else g u) = some p
    by_cases c1 : u = t
    · subst c1
      rw [if_pos rfl]
      by_cases c2 : p = h
      · subst c2; rw [if_pos rfl]; exact ⟨fun _ => rfl, fun _ => rfl⟩
      · rw [if_neg c2]
        exact ⟨fun e => absurd e (H.off p), fun e => absurd (Option.some.inj e).symm c2⟩
    · rw [if_neg c1]
      by_cases c2 : p = h
      · subst c2
        rw [if_pos rfl]
        refine ⟨fun e => absurd (Option.some.inj e).symm c1, fun e => ?_⟩
        have := (H.inv p u c1).mpr e
        rw [hf] at this
        exact absurd (Option.some.inj this).symm hu
      · rw [if_neg c2]; exact H.inv p u c1
  · have e : (if p = h then some t else f p) = some t' := e
    by_cases c2 : p = h
    · rw [if_pos c2] at e
      exact hne (Option.some.inj e).symm
    · rw [if_neg c2] at e
      have := (H.inv p t' hne).mp e
      rw [hg'] at this
      exact c2 (Option.some.inj this).symm
  · have e : (if p = h then some t else f p) = some u := e
    by_cases c2 : p = h
    · subst c2
      rw [if_pos rfl] at e
      cases e
      have := C.tie t p H.came
      exact ⟨this.2.1, this.1, this.2.2.1⟩
    · rw [if_neg c2] at e; exact H.tie p u e
  · show (if q0 = h then some t else f q0) = none
    rw [if_neg fun e => hh e.symm]; exact H.q
  · show (if p = h then some t else f p).isSome = _
    by_cases c2 : p = h
    · subst c2; rw [if_pos rfl, ← H.dom p, hf]; rfl
    · rw [if_neg c2]; exact H.dom p
  · show (if u = t then some h else g u) = g0 u
    rw [if_neg fun e => by rw [e] at hu; omega]; exact H.low u (by omega)
  · show (if u = t then some h else g u).isSome = true
    by_cases c1 : u = t
    · rw [if_pos c1]; rfl
    · rw [if_neg c1]; exact H.mono u hu
  · obtain ⟨s1, s2⟩ := H.shut S T s
    refine ⟨fun z => ?_, fun u hu => ?_⟩
    · obtain ⟨q, e, hS⟩ := s.2 t' z
      rw [hg] at e
      cases e
      exact s1 (s.1 _ t hS (C.tie t _ H.came).2.2.1)
    · show (if u = t then some h else g u) = g0 u
      rw [if_neg fun (e : u = t) => s1 (e ▸ hu)]; exact s2 u hu
theorem Hand.done {rs : List (List Int)} {q0 m t : Nat} {c : Nat → Option Nat} {r : Nat → Nat} {f0 g0 f g : Nat → Option Nat} (C : Came rs q0 m c r g0) (H : Hand rs q0 c r f0 g0 f g t q0) :
    Mat rs (fup f q0 t) (fup g t q0) ∧ (∀ p, (fup f q0 t p).isSome = ((f0 p).isSome || decide (p = q0))) ∧ (∀ u, (g0 u).isSome = true → (fup g t q0 u).isSome = true) ∧ ∀ S T, Shut rs S T g0 → ∀ u, T u → fup g t q0 u = g0 u := by
  refine ⟨⟨fun p u => ?_, fun p u e => ?_⟩, fun p => ?_, fun u hu => ?_, fun S T s u hu => ?_⟩
  · show (if p = q0 then some t else f p) = some u ↔ (if u = t then some q0 else g u) = some p
    by_cases c1 : u = t
    · subst c1
      rw [if_pos rfl]
      by_cases c2 : p = q0
      · subst c2; rw [if_pos rfl]; exact ⟨fun _ => rfl, fun _ => rfl⟩
      · rw [if_neg c2]
        exact ⟨fun e => absurd e (H.off p), fun e => absurd (Option.some.inj e).symm c2⟩
    · rw [if_neg c1]
      by_cases c2 : p = q0
      · subst c2
        rw [if_pos rfl]
        refine ⟨fun e => absurd (Option.some.inj e).symm c1, fun e => ?_⟩
        have := (H.inv p u c1).mpr e
        rw [H.q] at this; cases this
      · rw [if_neg c2]; exact H.inv p u c1
  · have e : (if p = q0 then some t else f p) = some u := e
    by_cases c2 : p = q0
    · subst c2
      rw [if_pos rfl] at e
      cases e
      have := C.tie t p H.came
      exact ⟨this.2.1, this.1, this.2.2.1⟩
    · rw [if_neg c2] at e; exact H.tie p u e
  · show (if p = q0 then some t else f p).isSome = _
    by_cases c2 : p = q0
    · rw [if_pos c2, decide_eq_true c2, Bool.or_true]; rfl
    · rw [if_neg c2, decide_eq_false c2, Bool.or_false]; exact H.dom p
  · show (if u = t then some q0 else g u).isSome = true
    by_cases c1 : u = t
    · rw [if_pos c1]; rfl
    · rw [if_neg c1]; exact H.mono u hu
  · obtain ⟨s1, s2⟩ := H.shut S T s
    show (if u = t then some q0 else g u) = g0 u
    rw [if_neg fun (e : u = t) => s1 (e ▸ hu)]; exact s2 u hu
theorem Came.add {rs : List (List Int)} {q0 m t h : Nat} {c : Nat → Option Nat} {r : Nat → Nat} {g : Nat → Option Nat} (C : Came rs q0 m c r g) (hn : c t = none) (h1 : t < rs.length) (h2 : h < rs.length) (h3 : (t : Int) ∈ rs.getD h []) (hh : h = q0 ∨ ∃ t', (c t').isSome ∧ g t' = some h) :
    Came rs q0 (m + 1) (fup c t h) (fun j => if j = t then m else r j) g := by
  have ne : ∀ {t'}, (c t').isSome = true → t' ≠ t := fun z e => by rw [e, hn] at z; cases z
  refine ⟨fun j p e => ?_, fun j p e => ?_⟩
  · have e : (if j = t then some h else c j) = some p := e
    by_cases c1 : j = t
    · subst c1
      rw [if_pos rfl] at e
      cases e
      refine ⟨h1, h2, h3, ?_⟩
      show (if j = j then m else r j) < m + 1
      rw [if_pos rfl]; omega
    · rw [if_neg c1] at e
      have := C.tie j p e
      refine ⟨this.1, this.2.1, this.2.2.1, ?_⟩
      show (if j = t then m else r j) < m + 1
      rw [if_neg c1]; omega
  · have e : (if j = t then some h else c j) = some p := e
    by_cases c1 : j = t
    · subst c1
      rw [if_pos rfl] at e
      cases e
      rcases hh with hh | ⟨t', hc, hg⟩
      · exact .inl hh
      · obtain ⟨p', hp'⟩ := Option.isSome_iff_exists.mp hc
        have := (C.tie t' p' hp').2.2.2
        refine .inr ⟨t', ?_, ?_, hg⟩
        · show (if t' = j then m else r t') < (if j = j then m else r j)
          rw [if_neg (ne hc), if_pos rfl]; exact this
        · show (if t' = j then some h else c t').isSome = true
          rw [if_neg (ne hc)]; exact hc
    · rw [if_neg c1] at e
      rcases C.fro j p e with hh | ⟨t', hr, hc, hg⟩
      · exact .inl hh
      · refine .inr ⟨t', ?_, ?_, hg⟩
        · show (if t' = t then m else r t') < (if j = t then m else r j)
          rw [if_neg (ne hc), if_neg c1]; exact hr
        · show (if t' = t then some h else c t').isSome = true
          rw [if_neg (ne hc)]; exact hc
/-- who can be reached -/
abbrev Got (q0 : Nat) (c g : Nat → Option Nat) (x : Nat) : Prop := x = q0 ∨ ∃ t, (c t).isSome ∧ g t = some x
/-- the search, under way; E are those whose things are being looked at -/
structure Bfs (rs : List (List Int)) (q0 m : Nat) (c : Nat → Option Nat) (r : Nat → Nat) (g : Nat → Option Nat) (W : List Nat) (E : Nat → Prop) : Prop where
  came : Came rs q0 m c r g
  own : ∀ t p, c t = some p → (g t).isSome
  wb : ∀ x ∈ W, x < rs.length ∧ Got q0 c g x
  cl : ∀ x, Got q0 c g x → x ∈ W ∨ E x ∨ ∀ t : Nat, (t : Int) ∈ rs.getD x [] → (c t).isSome
theorem Bfs.begin {rs : List (List Int)} {q0 : Nat} {g : Nat → Option Nat} (h : q0 < rs.length) : Bfs rs q0 0 (fun _ => none) (fun _ => 0) g [q0] fun _ => False :=
  ⟨⟨fun _ _ e => (nomatch e), fun _ _ e => (nomatch e)⟩, fun _ _ e => (nomatch e), fun x hx => by rw [List.mem_singleton.mp hx]; exact ⟨h, .inl rfl⟩, fun x hx => by
    rcases hx with rfl | ⟨t, e, _⟩
    · exact .inl (List.mem_singleton.mpr rfl)
    · cases e⟩
theorem Got.up {q0 t h x : Nat} {c g : Nat → Option Nat} (hn : c t = none) (z : Got q0 c g x) : Got q0 (fup c t h) g x := by
  rcases z with z | ⟨t', z, e⟩
  · exact .inl z
  · refine .inr ⟨t', ?_, e⟩
    show (if t' = t then some h else c t').isSome = true
    rw [if_neg fun e => by rw [e, hn] at z; cases z]; exact z
theorem Bfs.add {rs : List (List Int)} {q0 m t h w : Nat} {c : Nat → Option Nat} {r : Nat → Nat} {g : Nat → Option Nat} {W : List Nat} {E : Nat → Prop} (B : Bfs rs q0 m c r g W E) (hn : c t = none) (h1 : t < rs.length) (h2 : h < rs.length) (h3 : (t : Int) ∈ rs.getD h []) (hh : Got q0 c g h) (hg : g t = some w) (hw : w < rs.length) :
    Bfs rs q0 (m + 1) (fup c t h) (fun j => if j = t then m else r j) g (W ++ [w]) E := by
  have ct : (fup c t h t).isSome = true := by
    show (if t = t then some h else c t).isSome = true
    rw [if_pos rfl]; rfl
  have up : ∀ j, (c j).isSome = true → (fup c t h j).isSome = true := fun j z => by
    show (if j = t then some h else c j).isSome = true
    by_cases c1 : j = t
    · rw [if_pos c1]; rfl
    · rw [if_neg c1]; exact z
  refine ⟨B.came.add hn h1 h2 h3 hh, fun j p e => ?_, fun x hx => ?_, fun x hx => ?_⟩
  · have e : (if j = t then some h else c j) = some p := e
    by_cases c1 : j = t
    · rw [c1, hg]; rfl
    · rw [if_neg c1] at e; exact B.own j p e
  · rcases List.mem_append.mp hx with hx | hx
    · exact ⟨(B.wb x hx).1, Got.up hn (B.wb x hx).2⟩
    · rw [List.mem_singleton.mp hx]
      exact ⟨hw, .inr ⟨t, ct, hg⟩⟩
  · have old : Got q0 c g x → x ∈ W ++ [w] ∨ E x ∨ ∀ t' : Nat, (t' : Int) ∈ rs.getD x [] → (fup c t h t').isSome = true := fun z => by
      rcases B.cl x z with z | z | z
      · exact .inl (List.mem_append_left _ z)
      · exact .inr (.inl z)
      · exact .inr (.inr fun t' ht' => up t' (z t' ht'))
    rcases hx with hx | ⟨t', hc, hg'⟩
    · exact old (.inl hx)
    · have hc' : (if t' = t then some h else c t').isSome = true := hc
      by_cases c1 : t' = t
      · rw [c1, hg] at hg'
        cases hg'
        exact .inl (List.mem_append_right _ (List.mem_singleton.mpr rfl))
      · rw [if_neg c1] at hc'
        exact old (.inr ⟨t', hc', hg'⟩)
/-- a person who cannot be seated -/
def Stuck (rs : List (List Int)) (g : Nat → Option Nat) (q0 : Nat) : Prop := ∃ S T : Nat → Prop, Shut rs S T g ∧ S q0 ∧ (∀ s, S s → s < rs.length ∧ (s = q0 ∨ ∃ t, T t ∧ g t = some s))
theorem Bfs.stuck {rs : List (List Int)} {q0 m : Nat} {c : Nat → Option Nat} {r : Nat → Nat} {f g : Nat → Option Nat} (M : Mat rs f g) (hq : q0 < rs.length) (B : Bfs rs q0 m c r g [] fun _ => False) : Stuck rs g q0 := by
  refine ⟨Got q0 c g, fun t => (c t).isSome = true, ⟨fun s t hs ht => ?_, fun t ht => ?_⟩, .inl rfl, fun s hs => ⟨?_, hs⟩⟩
  · rcases B.cl s hs with z | z | z
    · cases z
    · exact z.elim
    · exact z t ht
  · obtain ⟨p, hp⟩ := Option.isSome_iff_exists.mp ht
    obtain ⟨q, hq⟩ := Option.isSome_iff_exists.mp (B.own t p hp)
    exact ⟨q, hq, .inr ⟨t, ht, hq⟩⟩
  · rcases hs with rfl | ⟨t, _, e⟩
    · exact hq
    · exact (M.tie s t ((M.inv s t).mpr e)).1
theorem Stuck.keep {rs : List (List Int)} {g g' : Nat → Option Nat} {q0 : Nat} (h : Stuck rs g q0) (hk : ∀ S T, Shut rs S T g → ∀ u, T u → g' u = g u) : Stuck rs g' q0 := by
  obtain ⟨S, T, h1, h2, h3⟩ := h
  have e := hk S T h1
  refine ⟨S, T, ⟨h1.1, fun t ht => ?_⟩, h2, fun s hs => ⟨(h3 s hs).1, ?_⟩⟩
  · rw [e t ht]; exact h1.2 t ht
  · rcases (h3 s hs).2 with z | ⟨t, ht, z⟩
    · exact .inl z
    · exact .inr ⟨t, ht, by rw [e t ht]; exact z⟩
theorem nodup_sub {l m : List Nat} (h : l.Nodup) (hm : m.Nodup) (hs : ∀ x ∈ l, x ∈ m) : l.length ≤ m.length := by
  have e : l.Perm (m.filter fun i => decide (i ∈ l)) := (List.perm_ext_iff_of_nodup h (hm.sublist List.filter_sublist)).mpr fun i => by
    rw [List.mem_filter, decide_eq_true_iff]
    exact ⟨fun z => ⟨hs i z, z⟩, fun z => z.2⟩
  rw [e.length_eq]
  exact List.length_filter_le _ _
open Classical in
theorem Stuck.none {rs : List (List Int)} {f g : Nat → Option Nat} {q0 : Nat} (M : Mat rs f g) (hr : Rows rs) (hf : f q0 = none) (h : Stuck rs g q0) : dls rs = [] := by
  obtain ⟨S, T, h1, h2, h3⟩ := h
  refine List.eq_nil_iff_forall_not_mem.mpr fun d hd => ?_
  obtain ⟨d1, d2, d3⟩ := dls_mem.mp hd
  have tb : ∀ t, T t → t < rs.length := fun t ht => by
    obtain ⟨q, e, _⟩ := h1.2 t ht
    exact (M.tie q t ((M.inv q t).mpr e)).2.1
  have n1 : ((List.range rs.length).filter fun i => decide (S i)).Nodup := List.nodup_range.sublist List.filter_sublist
  have n2 : ((List.range rs.length).filter fun i => decide (T i)).Nodup := List.nodup_range.sublist List.filter_sublist
  have m1 : ∀ i, i ∈ ((List.range rs.length).filter fun i => decide (S i)) ↔ S i := fun i => by
    rw [List.mem_filter, List.mem_range, decide_eq_true_iff]
    exact ⟨fun z => z.2, fun z => ⟨(h3 i z).1, z⟩⟩
  have m2 : ∀ i, i ∈ ((List.range rs.length).filter fun i => decide (T i)) ↔ T i := fun i => by
    rw [List.mem_filter, List.mem_range, decide_eq_true_iff]
    exact ⟨fun z => z.2, fun z => ⟨tb i z, z⟩⟩
  -- more people than things
  have k1 : ((List.range rs.length).filter fun i => decide (T i)).length + 1 ≤ ((List.range rs.length).filter fun i => decide (S i)).length := by
    have nd : (q0 :: ((List.range rs.length).filter fun i => decide (T i)).map fun t => (g t).getD 0).Nodup := by
      refine List.nodup_cons.mpr ⟨fun hm => ?_, List.pairwise_map.mpr (n2.imp_of_mem fun {a b} ha hb hab e => ?_)⟩
      · obtain ⟨t, ht, e⟩ := List.mem_map.mp hm
        obtain ⟨q, eq, _⟩ := h1.2 t ((m2 t).mp ht)
        rw [eq] at e
        have e : q = q0 := e
        subst e
        rw [(M.inv q t).mpr eq] at hf; cases hf
      · obtain ⟨q, eq, _⟩ := h1.2 a ((m2 a).mp ha)
        obtain ⟨q', eq', _⟩ := h1.2 b ((m2 b).mp hb)
        rw [eq, eq'] at e
        have e : q = q' := e
        subst e
        have x1 := (M.inv q a).mpr eq
        have x2 := (M.inv q b).mpr eq'
        rw [x1] at x2
        exact hab (Option.some.inj x2)
    have := nodup_sub nd n1 (fun x hx => (m1 x).mpr (by
      rcases List.mem_cons.mp hx with rfl | hx
      · exact h2
      · obtain ⟨t, ht, rfl⟩ := List.mem_map.mp hx
        obtain ⟨q, eq, hs⟩ := h1.2 t ((m2 t).mp ht)
        rw [eq]; exact hs))
    rwa [List.length_cons, List.length_map] at this
  have get : ∀ i, S i → d[i]? = some (d.getD i 0) ∧ d.getD i 0 ∈ rs.getD i [] ∧ 0 ≤ d.getD i 0 := fun i hi => by
    have hl := (h3 i hi).1
    have e : d[i]? = some (d.getD i 0) := by rw [List.getD_eq_getElem?_getD, List.getElem?_eq_getElem (by omega)]; rfl
    have hm := d3 i _ (rs.getD i []) e (by rw [List.getD_eq_getElem?_getD, List.getElem?_eq_getElem hl]; rfl)
    exact ⟨e, hm, ((hr.get hl).bd _ hm).1⟩
  have k2 : ((List.range rs.length).filter fun i => decide (S i)).length ≤ ((List.range rs.length).filter fun i => decide (T i)).length := by
    have nd : (((List.range rs.length).filter fun i => decide (S i)).map fun i => (d.getD i 0).toNat).Nodup := by
      refine List.pairwise_map.mpr (n1.imp_of_mem fun {a b} ha hb hab e => ?_)
      obtain ⟨a1, _, a3⟩ := get a ((m1 a).mp ha)
      obtain ⟨b1, _, b3⟩ := get b ((m1 b).mp hb)
      have e2 : d.getD a 0 = d.getD b 0 := by omega
      have hl := (h3 a ((m1 a).mp ha)).1
      refine hab ((List.getElem?_inj (by omega) d2).mp ?_)
      rw [a1, b1, e2]
    have := nodup_sub nd n2 (fun x hx => (m2 x).mpr (by
      obtain ⟨i, hi, rfl⟩ := List.mem_map.mp hx
      obtain ⟨_, i2, i3⟩ := get i ((m1 i).mp hi)
      refine h1.1 i _ ((m1 i).mp hi) ?_
      rw [Int.toNat_of_nonneg i3]; exact i2))
    rwa [List.length_map] at this
  omega
theorem Mat.full {rs : List (List Int)} {f g : Nat → Option Nat} (M : Mat rs f g) (h : ∀ p, p < rs.length → (f p).isSome = true) : dls rs ≠ [] := by
  have get : ∀ p, p < rs.length → f p = some ((f p).getD 0) := fun p hp => by
    obtain ⟨t, e⟩ := Option.isSome_iff_exists.mp (h p hp)
    rw [e]; rfl
  have hm : ((List.range rs.length).map fun p => (((f p).getD 0 : Nat) : Int)) ∈ dls rs := by
    refine dls_mem.mpr ⟨by rw [List.length_map, List.length_range], List.pairwise_map.mpr (List.nodup_range.imp_of_mem fun {a b} ha hb hab e => ?_), fun i x r hx hri => ?_⟩
    · have e1 := get a (List.mem_range.mp ha)
      have e2 := get b (List.mem_range.mp hb)
      have e3 : (f a).getD 0 = (f b).getD 0 := by omega
      rw [← e3] at e2
      have x1 := (M.inv a _).mp e1
      have x2 := (M.inv b _).mp e2
      rw [x1] at x2
      exact hab (Option.some.inj x2)
    · rw [List.getElem?_map] at hx
      obtain ⟨p, hp, rfl⟩ := map_some hx
      have hpl := (List.getElem?_eq_some_iff.mp hp).1
      rw [List.length_range] at hpl
      rw [List.getElem?_eq_getElem (by rw [List.length_range]; exact hpl), List.getElem_range] at hp
      have hp := Option.some.inj hp
      subst hp
      have := (M.tie i _ (get i hpl)).2.2
      rw [List.getD_eq_getElem?_getD, hri] at this
      exact this
  exact fun e => by rw [e] at hm; cases hm
end DL


namespace DL
open PySem PySem.Spec PyProof.Rows L2
theorem dfold_len {rows : List (List Int)} {t : List Int} (h : t ∈ rows.foldl dstep [[]]) : t.length = rows.length := by
  rw [dls_fold] at h
  obtain ⟨a, ha, h⟩ := List.mem_flatMap.mp h
  rw [List.mem_singleton.mp ha] at h
  obtain ⟨e, rfl, h, _⟩ := asgL_mem.mp h
  exact h
/-! ### the list of all dealings, cut down to what can be gone on with -/
/-- the things that are left when some are told -/
abbrev rest (n : Nat) (told : List Int) : List Nat := (List.range n).filter fun t => decide ((t : Int) ∉ told)
/-- the number of ways to go on from some told -/
def goOn (rs : List (List Int)) (told : List Int) : Nat := ways rs (List.range' told.length (rs.length - told.length)) (rest rs.length told)
theorem rest_snoc {n : Nat} {told : List Int} {x : Nat} : rest n (told ++ [(x : Int)]) = (rest n told).erase x := by
  refine asc_ext_nat (List.pairwise_lt_range.filter _) (asc_erase (List.pairwise_lt_range.filter _)) fun t => ?_
  rw [(asc_nodup (List.pairwise_lt_range.filter _)).mem_erase_iff, List.mem_filter, List.mem_filter, decide_eq_true_iff, decide_eq_true_iff, List.mem_append, List.mem_singleton]
  constructor
  · rintro ⟨a, b⟩; exact ⟨fun e => b (.inr (by omega)), a, fun z => b (.inl z)⟩
  · rintro ⟨a, b, c⟩; exact ⟨b, fun z => z.elim c fun z => a (by omega)⟩
theorem sum_pos {α : Type} {f : α → Nat} : ∀ {xs : List α} {x : α}, x ∈ xs → 0 < f x → 0 < (xs.map f).sum
  | y :: xs, x, h, hp => by
    rw [List.map_cons, List.sum_cons]
    rcases List.mem_cons.mp h with rfl | h
    · omega
    · have := sum_pos h hp; omega
theorem goOn_up {rs : List (List Int)} (hr : Rows rs) {told : List Int} {x : Int} (hl : told.length < rs.length) (hx : x ∈ rs.getD told.length []) (hn : x ∉ told) (h : 0 < goOn rs (told ++ [x])) : 0 < goOn rs told := by
  have hb := (hr.get hl).bd x hx
  obtain ⟨y, rfl⟩ : ∃ y : Nat, x = (y : Int) := ⟨x.toNat, by omega⟩
  unfold goOn at h ⊢
  rw [List.length_append, List.length_singleton, rest_snoc] at h
  have e : rs.length - told.length = (rs.length - (told.length + 1)) + 1 := by omega
  rw [e, List.range'_succ]
  unfold ways
  refine sum_pos (x := (y : Int)) (List.mem_filter.mpr ⟨hx, decide_eq_true ?_⟩) (by rw [Int.toNat_natCast]; exact h)
  rw [Int.toNat_natCast]
  exact List.mem_filter.mpr ⟨List.mem_range.mpr (by omega), decide_eq_true hn⟩
/-- one step of the list that is cut down -/
def cstep (rs : List (List Int)) (found : List (List Int)) (row : List Int) : List (List Int) := found.flatMap fun told => ((row.filter fun x => decide (x ∉ told)).map fun x => told ++ [x]).filter fun t => decide (0 < goOn rs t)
theorem cstep_eq {rs : List (List Int)} {found : List (List Int)} {row : List Int} : cstep rs found row = (dstep found row).filter fun t => decide (0 < goOn rs t) := by
  unfold cstep dstep
  rw [List.filter_flatMap]
theorem cstep_cut {rs : List (List Int)} (hr : Rows rs) {found : List (List Int)} {i : Nat} (hi : i < rs.length) (hf : ∀ t ∈ found, t.length = i) : cstep rs (found.filter fun t => decide (0 < goOn rs t)) (rs.getD i []) = cstep rs found (rs.getD i []) := by
  unfold cstep
  induction found with
  | nil => rfl
  | cons told found ih =>
    have ih := ih fun t ht => hf t (List.mem_cons_of_mem _ ht)
    have hl := hf told List.mem_cons_self
    rw [List.filter_cons, List.flatMap_cons]
    by_cases c : 0 < goOn rs told
    · rw [if_pos (decide_eq_true c), List.flatMap_cons, ih]
    · rw [if_neg (by rw [decide_eq_true_iff]; exact c), ih]
      have : (((rs.getD i []).filter fun x => decide (x ∉ told)).map fun x => told ++ [x]).filter (fun t => decide (0 < goOn rs t)) = [] := by
        refine List.filter_eq_nil_iff.mpr fun t ht hg => ?_
        obtain ⟨x, hx, rfl⟩ := List.mem_map.mp ht
        obtain ⟨h1, h2⟩ := List.mem_filter.mp hx
        exact c (goOn_up hr (by omega) (by rw [hl]; exact h1) (of_decide_eq_true h2) (of_decide_eq_true hg))
      rw [this]; rfl
def cut (rs : List (List Int)) (i : Nat) : List (List Int) := (rs.take i).foldl (cstep rs) [[]]
theorem cut_eq {rs : List (List Int)} (hr : Rows rs) : ∀ i, i < rs.length → cut rs (i + 1) = ((rs.take (i + 1)).foldl dstep [[]]).filter fun t => decide (0 < goOn rs t)
  | 0, h => by
    unfold cut
    rw [List.take_succ_eq_append_getElem h, List.take_zero]
    exact cstep_eq
  | i + 1, h => by
    have ih := cut_eq hr i (by omega)
    unfold cut at ih ⊢
    rw [List.take_succ_eq_append_getElem h, List.foldl_append, List.foldl_append, ih]
    show cstep rs _ rs[i + 1] = (dstep _ rs[i + 1]).filter _
    have e : rs[i + 1] = rs.getD (i + 1) [] := by rw [List.getD_eq_getElem?_getD, List.getElem?_eq_getElem h]; rfl
    rw [e, cstep_cut hr h, cstep_eq]
    intro t ht
    have := dfold_len ht
    rw [List.length_take] at this
    omega
theorem cut_all {rs : List (List Int)} (hr : Rows rs) (h1 : 1 ≤ rs.length) : cut rs rs.length = dls rs := by
  have := cut_eq hr (rs.length - 1) (by omega)
  rw [show rs.length - 1 + 1 = rs.length by omega, List.take_length] at this
  rw [this]
  refine List.filter_eq_self.mpr fun t ht => decide_eq_true ?_
  have hl := (dls_mem.mp ht).1
  unfold goOn
  rw [hl, Nat.sub_self]
  show 0 < ways rs [] _
  unfold ways
  omega
theorem cut_mem {rs : List (List Int)} (hr : Rows rs) : ∀ {i : Nat} {t : List Int}, i ≤ rs.length → t ∈ cut rs i → t.length = i ∧ t.Nodup ∧ ∀ x ∈ t, 0 ≤ x ∧ x < rs.length
  | 0, t, _, h => by
    have h : t ∈ ([[]] : List (List Int)) := h
    rw [List.mem_singleton.mp h]
    exact ⟨rfl, List.nodup_nil, fun x h => absurd h (by simp)⟩
  | i + 1, t, hi, h => by
    unfold cut at h
    rw [List.take_succ_eq_append_getElem (by omega), List.foldl_append] at h
    have h : t ∈ cstep rs (cut rs i) rs[i] := h
    unfold cstep at h
    obtain ⟨told, h1, h2⟩ := List.mem_flatMap.mp h
    obtain ⟨h2, _⟩ := List.mem_filter.mp h2
    obtain ⟨x, hx, rfl⟩ := List.mem_map.mp h2
    obtain ⟨hx1, hx2⟩ := List.mem_filter.mp hx
    obtain ⟨a, b, c⟩ := cut_mem hr (by omega) h1
    have hb := (hr.row _ (List.getElem_mem _)).bd x hx1
    refine ⟨by rw [List.length_append, a]; rfl, List.nodup_append.mpr ⟨b, by simp, fun u hu v hv e => ?_⟩, fun y hy => ?_⟩
    · rw [List.mem_singleton] at hv
      subst hv; subst e
      exact of_decide_eq_true hx2 hu
    · rcases List.mem_append.mp hy with hy | hy
      · exact c y hy
      · rw [List.mem_singleton.mp hy]; exact hb
theorem toNat_nodup {l : List Int} (h : l.Nodup) (hb : ∀ x ∈ l, 0 ≤ x) : (l.map Int.toNat).Nodup :=
  List.pairwise_map.mpr (h.imp_of_mem fun {a b} ha hb' hab e => hab (by have := hb a ha; have := hb b hb'; omega))
theorem rest_len {n : Nat} {told : List Int} (h : told.Nodup) (hb : ∀ x ∈ told, 0 ≤ x ∧ x < (n : Int)) : told.length + (rest n told).length = n := by
  have h1 := comp_len (n := n) (toNat_nodup h fun x hx => (hb x hx).1) (fun i hi => by
    obtain ⟨x, hx, rfl⟩ := List.mem_map.mp hi
    have := hb x hx; omega)
  rw [List.length_map] at h1
  have : rest n told = (List.range n).filter fun i => decide (i ∉ told.map Int.toNat) := by
    refine List.filter_congr fun t _ => ?_
    rw [decide_eq_decide, List.mem_map]
    constructor
    · rintro a ⟨x, hx, e⟩
      have := hb x hx
      exact a (by rw [show ((t : Nat) : Int) = x by omega]; exact hx)
    · intro a hx
      exact a ⟨_, hx, by omega⟩
  rw [this]; exact h1
def fct : Nat → Nat
  | 0 => 1
  | n + 1 => (n + 1) * fct n
theorem asgL_fct {n : Nat} : ∀ {rows : List (List Int)} {told : List Int}, (∀ r ∈ rows, Row n r) → told.Nodup → (∀ x ∈ told, 0 ≤ x ∧ x < (n : Int)) → told.length + rows.length = n → (asgL rows told).length ≤ fct rows.length
  | [], told, _, _, _, _ => Nat.le_refl _
  | row :: rows, told, hr, hn, hb, hl => by
    rw [List.length_cons] at hl
    have hrow := hr row List.mem_cons_self
    unfold asgL
    have h1 := flat_len (f := fun x => asgL rows (told ++ [x])) (m := fct rows.length) (xs := row.filter fun x => decide (x ∉ told)) fun x hx => by
      obtain ⟨hx1, hx2⟩ := List.mem_filter.mp hx
      have hxb := hrow.bd x hx1
      refine asgL_fct (fun r h => hr r (List.mem_cons_of_mem _ h)) (List.nodup_append.mpr ⟨hn, by simp, fun u hu v hv e => ?_⟩) (fun y hy => ?_) (by rw [List.length_append, List.length_singleton]; omega)
      · rw [List.mem_singleton] at hv
        subst hv; subst e
        exact of_decide_eq_true hx2 hu
      · rcases List.mem_append.mp hy with hy | hy
        · exact hb y hy
        · rw [List.mem_singleton.mp hy]; exact hxb
    have h2 : (row.filter fun x => decide (x ∉ told)).length ≤ rows.length + 1 := by
      have := rest_len hn hb
      have h3 : ((row.filter fun x => decide (x ∉ told)).map Int.toNat).length ≤ (rest n told).length := nodup_sub (toNat_nodup (hrow.nodup.sublist List.filter_sublist) fun x hx => (hrow.bd x (List.mem_filter.mp hx).1).1) ((List.nodup_range).sublist List.filter_sublist) fun t ht => by
        obtain ⟨x, hx, rfl⟩ := List.mem_map.mp ht
        obtain ⟨hx1, hx2⟩ := List.mem_filter.mp hx
        have hxb := hrow.bd x hx1
        refine List.mem_filter.mpr ⟨List.mem_range.mpr (by omega), decide_eq_true ?_⟩
        rw [Int.toNat_of_nonneg hxb.1]; exact of_decide_eq_true hx2
      rw [List.length_map] at h3
      omega
    rw [List.length_cons]
    show _ ≤ (rows.length + 1) * fct rows.length
    exact Nat.le_trans h1 (Nat.mul_le_mul_right _ h2)
theorem dls_720 {rs : List (List Int)} (hr : Rows rs) (hl : rs.length ≤ 6) : (dls rs).length ≤ 720 := by
  have h := asgL_fct (n := rs.length) (rows := rs) (told := []) hr.row List.nodup_nil (fun x h => absurd h (by simp)) (by simp)
  rw [dls_eq]
  have mono : ∀ a b, a ≤ b → fct a ≤ fct b := by
    intro a b h
    induction b with
    | zero => rw [show a = 0 by omega]; exact Nat.le_refl _
    | succ b ih =>
      by_cases c : a = b + 1
      · rw [c]; exact Nat.le_refl _
      · have := ih (by omega)
        show fct a ≤ (b + 1) * fct b
        have : fct b ≤ (b + 1) * fct b := Nat.le_mul_of_pos_left _ (by omega)
        omega
  have h2 := mono _ _ hl
  have : fct 6 = 720 := by decide
  omega
end DL


namespace DL
open PySem PySem.Spec PyProof.Rows L2
theorem asgL_grow : ∀ {rows rows2 : List (List Int)} {told d : List Int}, rows.length = rows2.length → (∀ (i : Nat) (x : Int) (r r2 : List Int), rows[i]? = some r → rows2[i]? = some r2 → x ∈ r → x ∈ r2) → d ∈ asgL rows told → d ∈ asgL rows2 told := by
  intro rows rows2 told d hl hg h
  obtain ⟨e, rfl, h1, h2, h3, h4⟩ := asgL_mem.mp h
  refine asgL_mem.mpr ⟨e, rfl, h1.trans hl, h2, h3, fun i x r hx hr => ?_⟩
  have hi := (List.getElem?_eq_some_iff.mp hr).1
  exact hg i x _ r (List.getElem?_eq_getElem (by omega)) hr (h4 i x _ hx (List.getElem?_eq_getElem (by omega)))
theorem asgL_nodup : ∀ {rows : List (List Int)} {told : List Int}, (∀ r ∈ rows, r.Nodup) → (asgL rows told).Nodup
  | [], told, _ => by unfold asgL; simp
  | row :: rows, told, h => by
    unfold asgL
    refine List.pairwise_flatMap.mpr ⟨fun x _ => asgL_nodup fun r hr => h r (List.mem_cons_of_mem _ hr), ((h row List.mem_cons_self).sublist List.filter_sublist).imp fun {a b} hab u hu v hv e => ?_⟩
    subst e
    obtain ⟨e1, q1, _⟩ := asgL_mem.mp hu
    obtain ⟨e2, q2, _⟩ := asgL_mem.mp hv
    rw [q1, List.append_assoc, List.append_assoc] at q2
    have := List.append_cancel_left q2
    exact hab (List.cons.inj this).1
theorem nodup_subL {α : Type} [DecidableEq α] {l m : List α} (h : l.Nodup) (hm : m.Nodup) (hs : ∀ x ∈ l, x ∈ m) : l.length ≤ m.length := by
  have e : l.Perm (m.filter fun i => decide (i ∈ l)) := (List.perm_ext_iff_of_nodup h (hm.sublist List.filter_sublist)).mpr fun i => by
    rw [List.mem_filter, decide_eq_true_iff]
    exact ⟨fun z => ⟨hs i z, z⟩, fun z => z.2⟩
  rw [e.length_eq]
  exact List.length_filter_le _ _
theorem dls_more {rs : List (List Int)} {p : Nat} {x : Int} (hr : Rows rs) (hp : p < rs.length) (hx : 0 ≤ x ∧ x < rs.length) : (dls rs).length ≤ (dls (withT rs p x)).length := by
  have hw := withT_rows hr hp hx
  have lw := withT_len (rs := rs) (p := p) (x := x)
  rw [dls_eq, dls_eq]
  refine nodup_subL (asgL_nodup fun r h => (hr.row r h).nodup) (asgL_nodup fun r h => (hw.row r h).nodup) fun d hd => asgL_grow lw.symm (fun i y r r2 h1 h2 hy => ?_) hd
  have hi := (List.getElem?_eq_some_iff.mp h1).1
  have ht := (@withT_ties rs p x hp [(i : Int), y]).mpr (.inl (tiesL_mem.mpr ⟨i, y, hi, rfl, by rw [List.getD_eq_getElem?_getD, h1]; exact hy⟩))
  obtain ⟨i', x', _, e, hm⟩ := tiesL_mem.mp ht
  have e1 := (List.cons.inj e).1
  have e2 := (List.cons.inj (List.cons.inj e).2).1
  have : i' = i := by omega
  subst this; subst e2
  rw [List.getD_eq_getElem?_getD, h2] at hm
  exact hm
end DL

namespace DL
open PySem PySem.Spec PyProof.Rows L2
/-! ### the least dealing, thing by thing -/
theorem asgL_cons {row : List Int} {rows : List (List Int)} {told : List Int} : asgL (row :: rows) told = (row.filter fun x => decide (x ∉ told)).flatMap fun x => asgL rows (told ++ [x]) := by
  conv => lhs; unfold asgL
theorem asgL_singles {rest : List (List Int)} : ∀ {pre told : List Int}, (told ++ pre).Nodup → asgL (pre.map (fun x => [x]) ++ rest) told = asgL rest (told ++ pre)
  | [], told, _ => by rw [List.map_nil, List.nil_append, List.append_nil]
  | x :: pre, told, h => by
    have hx : x ∉ told := fun z => by
      have := (List.nodup_append.mp h).2.2 x z x List.mem_cons_self
      exact this rfl
    rw [List.map_cons, List.cons_append, asgL_cons, List.filter_cons, if_pos (decide_eq_true hx), List.filter_nil, List.flatMap_cons, List.flatMap_nil, List.append_nil,
      asgL_singles (by rw [List.append_assoc]; exact h), List.append_assoc]
    rfl
theorem dls_singles {pre : List Int} {rest : List (List Int)} (h : pre.Nodup) : dls (pre.map (fun x => [x]) ++ rest) = asgL rest pre := by
  rw [dls_eq, asgL_singles (by rw [List.nil_append]; exact h), List.nil_append]
theorem asgL_none {row : List Int} {rows : List (List Int)} {told : List Int} (h : ∀ x ∈ row, x ∉ told → asgL rows (told ++ [x]) = []) : asgL (row :: rows) told = [] := by
  rw [asgL_cons]
  refine List.flatMap_eq_nil_iff.mpr fun x hx => ?_
  obtain ⟨h1, h2⟩ := List.mem_filter.mp hx
  exact h x h1 (of_decide_eq_true h2)
theorem asgL_head {row : List Int} {rows : List (List Int)} {told : List Int} {j : Nat} {x : Int} (hj : row[j]? = some x) (hb : ∀ i y, i < j → row[i]? = some y → y ∉ told → asgL rows (told ++ [y]) = []) (hx : x ∉ told) (hn : asgL rows (told ++ [x]) ≠ []) :
    (asgL (row :: rows) told).head? = (asgL rows (told ++ [x])).head? := by
  have hl := (List.getElem?_eq_some_iff.mp hj).1
  have e : row = row.take j ++ x :: row.drop (j + 1) := by
    have := List.getElem?_eq_some_iff.mp hj
    obtain ⟨_, e⟩ := this
    rw [← e, ← List.drop_eq_getElem_cons hl, List.take_append_drop]
  have e0 : ((row.take j).filter fun x => decide (x ∉ told)).flatMap (fun x => asgL rows (told ++ [x])) = [] := by
    refine List.flatMap_eq_nil_iff.mpr fun y hy => ?_
    obtain ⟨h1, h2⟩ := List.mem_filter.mp hy
    obtain ⟨i, hi, e⟩ := List.getElem_of_mem h1
    rw [List.length_take] at hi
    rw [List.getElem_take] at e
    exact hb i y (by omega) (by rw [List.getElem?_eq_getElem (by omega), e]) (of_decide_eq_true h2)
  rw [asgL_cons]
  conv => lhs; rw [e]
  rw [List.filter_append, List.flatMap_append, e0, List.nil_append, List.filter_cons, if_pos (decide_eq_true hx), List.flatMap_cons]
  cases h : asgL rows (told ++ [x]) with
  | nil => exact absurd h hn
  | cons a b => rfl
end DL

namespace DL
open PySem PySem.Spec PyProof.Rows L2
/-! ### the dealings in their order, and where they stand -/
/-- of two lists alike to some place, the first is the lesser there -/
def lexL (a b : List Int) : Prop := ∃ (p u v : List Int) (x y : Int), a = p ++ x :: u ∧ b = p ++ y :: v ∧ x < y
theorem asgL_head_eq : ∀ {rows : List (List Int)} {told d : List Int}, d ∈ asgL rows told → ∃ e, d = told ++ e := fun h => by
  obtain ⟨e, h1, _⟩ := asgL_mem.mp h
  exact ⟨e, h1⟩
theorem asgL_lex : ∀ {rows : List (List Int)} {told : List Int}, (∀ r ∈ rows, r.Pairwise (· < ·)) → (asgL rows told).Pairwise lexL
  | [], told, _ => by unfold asgL; exact List.pairwise_singleton _ _
  | row :: rows, told, h => by
    rw [asgL_cons]
    refine List.pairwise_flatMap.mpr ⟨fun x hx => asgL_lex fun r hr => h r (List.mem_cons_of_mem _ hr), ?_⟩
    refine ((h row List.mem_cons_self).filter _).imp fun {a b} hab u hu v hv => ?_
    obtain ⟨e, rfl⟩ := asgL_head_eq hu
    obtain ⟨e', rfl⟩ := asgL_head_eq hv
    exact ⟨told, e, e', a, b, by rw [List.append_assoc]; rfl, by rw [List.append_assoc]; rfl, hab⟩
theorem code_lex {a b : List Int} (h : lexL a b) (hl : a.length = b.length) (h1 : TS.Bd 64 a) (h2 : TS.Bd 64 b) : TS.code 64 a < TS.code 64 b := by
  obtain ⟨p, u, v, x, y, rfl, rfl, hxy⟩ := h
  induction p with
  | nil =>
    have hl : u.length = v.length := by simpa using hl
    exact TS.code_lt hl h1.tail h2.tail hxy
  | cons c p ih =>
    have hl2 : (p ++ x :: u).length = (p ++ y :: v).length := by simpa using hl
    have := ih h1.tail h2.tail hl2
    show c * 64 ^ (p ++ x :: u).length + TS.code 64 (p ++ x :: u) < c * 64 ^ (p ++ y :: v).length + TS.code 64 (p ++ y :: v)
    rw [hl2]
    omega
/-- where a thing of a list of lists laid end to end stands -/
theorem flat_at {α β : Type} {f : α → List β} : ∀ {xs : List α} {m : Nat} {d : β}, (xs.flatMap f)[m]? = some d → ∃ (j : Nat) (x : α) (m' : Nat), xs[j]? = some x ∧ (f x)[m']? = some d ∧ m = ((xs.take j).map fun y => (f y).length).sum + m'
  | [], m, d, h => by simp at h
  | x :: xs, m, d, h => by
    rw [List.flatMap_cons] at h
    by_cases c : m < (f x).length
    · rw [List.getElem?_append_left c] at h
      exact ⟨0, x, m, rfl, h, by simp⟩
    · rw [List.getElem?_append_right (by omega)] at h
      obtain ⟨j, y, m', h1, h2, h3⟩ := flat_at h
      refine ⟨j + 1, y, m', h1, h2, ?_⟩
      rw [List.take_succ_cons, List.map_cons, List.sum_cons]
      omega
theorem sum_take {α : Type} {f : α → Nat} {xs : List α} {i j : Nat} {x : α} (h : xs[i]? = some x) (hij : i < j) : ((xs.take i).map f).sum + f x ≤ ((xs.take j).map f).sum := by
  have e : ((xs.take (i + 1)).map f).sum = ((xs.take i).map f).sum + f x := by
    rw [List.take_add_one, h]
    simp
  rw [← e]
  have e2 : xs.take (i + 1) = (xs.take j).take (i + 1) := by rw [List.take_take, Nat.min_eq_left (by omega)]
  have e3 := congrArg (fun l => (l.map f).sum) (List.take_append_drop (i + 1) (xs.take j))
  simp only [List.map_append, List.sum_append] at e3
  rw [← e2] at e3
  omega
theorem goOn_len {rs : List (List Int)} (hr : Rows rs) {told : List Int} (hl : told.length ≤ rs.length) : goOn rs told = (asgL (rs.drop told.length) told).length := by
  have h1 := cntG_ways (us := []) hr List.nodup_nil List.nodup_nil (fun q h => absurd h (by simp)) (rs.length - told.length) told.length told (rest rs.length told) (by omega) (List.pairwise_lt_range.filter _) (fun t => by
    rw [List.mem_filter, List.mem_range, decide_eq_true_iff]
    exact ⟨fun ⟨a, b⟩ => ⟨a, b, fun q h => absurd h (by simp)⟩, fun ⟨a, b, _⟩ => ⟨a, b⟩⟩) (fun q h => absurd h (by simp))
  have h2 := asgL_fit (G := lotG []) (rs.drop told.length) told
  rw [h1] at h2
  have e1 : (asgL (rs.drop told.length) told).filter (fitG (lotG []) told.length (rs.drop told.length).length) = asgL (rs.drop told.length) told := List.filter_eq_self.mpr fun d _ => by
    unfold fitG
    exact List.all_eq_true.mpr fun p _ => lotG_t.mpr fun q h => absurd h (by simp)
  have e2 : (List.range' told.length (rs.length - told.length)).filter (fun p => decide (∀ q ∈ ([] : List (Nat × Nat)), q.1 ≠ p)) = List.range' told.length (rs.length - told.length) := List.filter_eq_self.mpr fun p _ => by simp
  rw [e1, e2] at h2
  exact h2.symm
end DL

namespace DL
open PySem PySem.Spec PyProof.Rows L2
/-! ### how many ways there can be: the rows' lengths multiplied -/
def capA {α : Type} (a : Nat) : List (List α) → Nat
  | [] => a
  | r :: l => capA (a * r.length) l
theorem capA_snoc {α : Type} {r : List α} : ∀ {l : List (List α)} {a : Nat}, capA a (l ++ [r]) = capA a l * r.length
  | [], a => rfl
  | x :: l, a => by
    show capA (a * x.length) (l ++ [r]) = capA (a * x.length) l * r.length
    exact capA_snoc
theorem capA_lin {α : Type} {c : Nat} : ∀ {l : List (List α)} {a : Nat}, capA (c * a) l = c * capA a l
  | [], a => rfl
  | x :: l, a => by
    show capA (c * a * x.length) l = c * capA (a * x.length) l
    rw [Nat.mul_assoc, capA_lin]
theorem capA_le {α β : Type} {f : List α → List β} : ∀ {l : List (List α)} {a b : Nat}, a ≤ b → (∀ r ∈ l, (f r).length ≤ r.length) → capA a (l.map f) ≤ capA b l
  | [], a, b, h, _ => h
  | x :: l, a, b, h, hf => capA_le (l := l) (Nat.mul_le_mul h (hf x List.mem_cons_self)) fun r hr => hf r (List.mem_cons_of_mem _ hr)
theorem capA_pow {α : Type} {m : Nat} : ∀ {l : List (List α)} {a : Nat}, (∀ r ∈ l, r.length ≤ m) → capA a l ≤ a * m ^ l.length
  | [], a, _ => by simp [capA]
  | x :: l, a, h => by
    have h1 := capA_pow (m := m) (l := l) (a := a * x.length) fun r hr => h r (List.mem_cons_of_mem _ hr)
    have h2 := h x List.mem_cons_self
    show capA (a * x.length) l ≤ a * m ^ (l.length + 1)
    refine Nat.le_trans h1 ?_
    rw [Nat.pow_succ, Nat.mul_comm (m ^ l.length) m, ← Nat.mul_assoc]
    exact Nat.mul_le_mul_right _ (Nat.mul_le_mul_left _ h2)
theorem capA_set {α : Type} {r' : List α} : ∀ {l : List (List α)} {k a : Nat}, (∀ r, l[k]? = some r → r'.length ≤ 2 * r.length) → capA a (l.set k r') ≤ 2 * capA a l
  | [], k, a, _ => by show a ≤ 2 * a; omega
  | x :: l, 0, a, h => by
    have h1 := h x rfl
    show capA (a * r'.length) l ≤ 2 * capA (a * x.length) l
    rw [← capA_lin]
    have := capA_le (f := fun r => r) (l := l) (a := a * r'.length) (b := 2 * (a * x.length)) (by
      have := Nat.mul_le_mul_left a h1
      rw [Nat.mul_left_comm]
      exact this) fun r _ => Nat.le_refl _
    simpa using this
  | x :: l, k + 1, a, h => capA_set (l := l) (k := k) (a := a * x.length) h
theorem cap_rows {rs : List (List Int)} (hr : Rows rs) (hl : rs.length ≤ 6) (i : Nat) : capA 1 (rs.take i) ≤ 50000 := by
  have h := capA_pow (m := 6) (l := rs.take i) (a := 1) fun r hm => Nat.le_trans (hr.row r (List.mem_of_mem_take hm)).len hl
  have h2 : 6 ^ (rs.take i).length ≤ 6 ^ 6 := Nat.pow_le_pow_right (by decide) (by rw [List.length_take]; omega)
  have : 6 ^ 6 = 46656 := by decide
  omega
theorem cap_dls {rs : List (List Int)} (hc : capA 1 rs ≤ 50000) : (dls rs).length ≤ 50000 := by
  have key : ∀ (rows : List (List Int)) (found : List (List Int)) (a : Nat), found.length ≤ a → (rows.foldl dstep found).length ≤ capA a rows := by
    intro rows
    induction rows with
    | nil => intro found a h; exact h
    | cons r rows ih =>
      intro found a h
      refine ih _ _ ?_
      have : (dstep found r).length ≤ found.length * r.length := by
        unfold dstep
        exact flat_len fun x _ => by
          rw [List.length_map]
          exact List.length_filter_le _ _
      exact Nat.le_trans this (Nat.mul_le_mul_right _ h)
  exact Nat.le_trans (key rs [[]] 1 (Nat.le_refl _)) hc
end DL

namespace DL
open PySem PySem.Spec PyProof.Rows L2
/-! ### standings -/
abbrev sD : Option Int → D
  | none => .non
  | some x => .int x
abbrev sV : Option Int → V
  | none => .non
  | some x => .int x
abbrev stD (st : List (Option Int)) : D := .tup (st.map sD)
theorem toV_s {o : Option Int} : toV (sD o) = some (sV o) := by cases o <;> rfl
theorem toVs_s {st : List (Option Int)} : toVs (st.map sD) = some (st.map sV) := by
  induction st with
  | nil => rfl
  | cons o st ih => show (toV (sD o)).bind _ = _; rw [ih, toV_s]; rfl
theorem eqV_s {a b : Option Int} : eqV (sV a) (sV b) = decide (a = b) := by
  cases a with
  | none =>
    cases b with
    | none => rfl
    | some y => rw [decide_eq_false (by simp)]; rfl
  | some x =>
    cases b with
    | none => rw [decide_eq_false (by simp)]; rfl
    | some y =>
      show (x == y) = _
      rw [Bool.eq_iff_iff, beq_iff_eq, decide_eq_true_iff]
      exact ⟨fun h => by rw [h], fun h => Option.some.inj h⟩
theorem inV_s {o : Option Int} {st : List (Option Int)} : inV (sV o) (st.map sV) = decide (o ∈ st) := by
  unfold inV
  rw [List.any_map, Bool.eq_iff_iff, List.any_eq_true, decide_eq_true_iff]
  constructor
  · rintro ⟨y, hy, e⟩
    have e : eqV (sV y) (sV o) = true := e
    rw [eqV_s, decide_eq_true_iff] at e
    rw [← e]; exact hy
  · intro h
    exact ⟨o, h, show eqV (sV o) (sV o) = true by rw [eqV_s]; exact decide_eq_true rfl⟩
theorem inD_sl {o : Option Int} {st : List (Option Int)} {neg : Bool} : inD neg (sD o) (.lst (st.map sD)) = some (.bl (if neg = true then !decide (o ∈ st) else decide (o ∈ st))) := by
  unfold inD
  rw [toV_s]
  show (toVs (st.map sD)).map _ = _
  rw [toVs_s, ← inV_s]; rfl
theorem inD_st {o : Option Int} {st : List (Option Int)} {neg : Bool} : inD neg (sD o) (.val (stD st)) = some (.bl (if neg = true then !decide (o ∈ st) else decide (o ∈ st))) := by
  unfold inD
  rw [toV_s]
  show (toVs (st.map sD)).map _ = _
  rw [toVs_s, ← inV_s]; rfl
/-- what is drawn at i -/
abbrev dr (st : List (Option Int)) (i : Nat) (x : Int) : Prop := st[i]? = some (some x)
structure Std (rs : List (List Int)) (st : List (Option Int)) : Prop where
  len : st.length = rs.length
  tie : ∀ i x, dr st i x → x ∈ rs.getD i []
  nd : ∀ i j x, dr st i x → dr st j x → i = j
theorem dr_lt {st : List (Option Int)} {i : Nat} {x : Int} (h : dr st i x) : i < st.length := (List.getElem?_eq_some_iff.mp h).1
theorem dr_mem {st : List (Option Int)} {x : Int} : some x ∈ st ↔ ∃ i, dr st i x := by
  constructor
  · intro h
    obtain ⟨i, hi, e⟩ := List.getElem_of_mem h
    exact ⟨i, by rw [dr, List.getElem?_eq_getElem hi, e]⟩
  · rintro ⟨i, h⟩
    exact List.mem_of_getElem? h
theorem Std.bd {rs : List (List Int)} {st : List (Option Int)} (h : Std rs st) (hr : Rows rs) {i : Nat} {x : Int} (hd : dr st i x) : i < rs.length ∧ 0 ≤ x ∧ x < (rs.length : Int) := by
  have := dr_lt hd
  have hi : i < rs.length := by rw [← h.len]; exact this
  exact ⟨hi, (hr.get hi).bd x (h.tie i x hd)⟩
def fitB (st : List (Option Int)) (d : List Int) : Bool := (List.range st.length).all fun k => decide (st.getD k none ∈ [none, some (d.getD k 0)])
theorem fitB_iff {st : List (Option Int)} {d : List Int} : fitB st d = true ↔ ∀ i x, dr st i x → d.getD i 0 = x := by
  unfold fitB
  rw [List.all_eq_true]
  constructor
  · intro h i x hd
    have h1 := of_decide_eq_true (h i (List.mem_range.mpr (dr_lt hd)))
    have e : st.getD i none = some x := by rw [List.getD_eq_getElem?_getD, hd]; rfl
    rw [e] at h1
    simp at h1
    rw [List.getD_eq_getElem?_getD]
    exact h1.symm
  · intro h k hk
    have hk := List.mem_range.mp hk
    refine decide_eq_true ?_
    have e : st.getD k none = st[k] := by rw [List.getD_eq_getElem?_getD, List.getElem?_eq_getElem hk]; rfl
    rw [e]
    cases q : st[k] with
    | none => simp
    | some x =>
      have := h k x (by rw [dr, List.getElem?_eq_getElem hk, q])
      rw [this]
      simp
def aft (rs : List (List Int)) (st : List (Option Int)) : List (List Int) := (dls rs).filter (fitB st)
def lotOf (st : List (Option Int)) : List (Nat × Nat) := (st.zipIdx.filter fun p => p.1.isSome).map fun p => (p.2, (p.1.getD 0).toNat)
theorem lotOf_mem {st : List (Option Int)} {q : Nat × Nat} : q ∈ lotOf st ↔ ∃ x, dr st q.1 x ∧ q.2 = x.toNat := by
  unfold lotOf
  rw [List.mem_map]
  constructor
  · rintro ⟨⟨o, i⟩, h, rfl⟩
    obtain ⟨h1, h2⟩ := List.mem_filter.mp h
    have h1 := List.mem_zipIdx_iff_getElem?.mp h1
    cases o with
    | none => cases h2
    | some x => exact ⟨x, h1, rfl⟩
  · rintro ⟨x, h1, h2⟩
    refine ⟨(some x, q.1), List.mem_filter.mpr ⟨List.mem_zipIdx_iff_getElem?.mpr h1, rfl⟩, ?_⟩
    show (q.1, x.toNat) = q
    rw [← h2]
theorem lotOf_len {st : List (Option Int)} : (lotOf st).length ≤ st.length := by
  unfold lotOf
  rw [List.length_map]
  exact Nat.le_trans (List.length_filter_le _ _) (Nat.le_of_eq List.length_zipIdx)
theorem Std.lot {rs : List (List Int)} {st : List (Option Int)} (h : Std rs st) (hr : Rows rs) : Lot rs.length (lotOf st) := fun q hq => by
  obtain ⟨x, h1, h2⟩ := lotOf_mem.mp hq
  have := h.bd hr h1
  omega
theorem Std.aft_lot {rs : List (List Int)} {st : List (Option Int)} (h : Std rs st) (hr : Rows rs) : (aft rs st).length = lotN rs (lotOf st) := by
  unfold aft lotN
  congr 1
  refine List.filter_congr fun d hd => ?_
  rw [Bool.eq_iff_iff, fitB_iff, List.all_eq_true]
  constructor
  · intro hf q hq
    obtain ⟨x, h1, h2⟩ := lotOf_mem.mp hq
    have := h.bd hr h1
    rw [hf q.1 x h1, beq_iff_eq]
    omega
  · intro hf i x hd
    have hb := h.bd hr hd
    have := beq_iff_eq.mp (hf (i, x.toNat) (lotOf_mem.mpr ⟨x, hd, rfl⟩))
    rw [this]
    show ((x.toNat : Nat) : Int) = x
    omega
theorem Std.good {rs : List (List Int)} {st : List (Option Int)} (h : Std rs st) (hr : Rows rs) : Good rs (lset rs.length (lotOf st)) := by
  have hm : ∀ q ∈ lset rs.length (lotOf st), ∃ x, dr st q.1 x ∧ (q.2 : Int) = x := fun q hq => by
    obtain ⟨x, h1, h2⟩ := lotOf_mem.mp ((lset_mem (h.lot hr)).mp hq)
    have := h.bd hr h1
    exact ⟨x, h1, by omega⟩
  refine ⟨?_, ?_, fun q hq => ?_⟩
  · refine List.pairwise_map.mpr (lset_lex.imp_of_mem fun {a b} ha hb hab e => ?_)
    obtain ⟨x, h1, h2⟩ := hm a ha
    obtain ⟨y, h3, h4⟩ := hm b hb
    rw [dr, e, h3] at h1
    have := Option.some.inj (Option.some.inj h1)
    unfold lexn at hab
    omega
  · refine List.pairwise_map.mpr (lset_lex.imp_of_mem fun {a b} ha hb hab e => ?_)
    obtain ⟨x, h1, h2⟩ := hm a ha
    obtain ⟨y, h3, h4⟩ := hm b hb
    have exy : y = x := by omega
    subst exy
    have := h.nd _ _ _ h1 h3
    unfold lexn at hab
    omega
  · obtain ⟨x, h1, h2⟩ := hm q hq
    rw [h2]
    exact h.tie _ _ h1
/-- who has not drawn, what was not drawn -/
def pl (st : List (Option Int)) : List Nat := (st.zipIdx.filter fun p => p.1.isNone).map (·.2)
def tl (st : List (Option Int)) : List Nat := (List.range st.length).filter fun t => decide (some ((t : Nat) : Int) ∉ st)
theorem pl_asc {st : List (Option Int)} : Asc (pl st) := by
  unfold pl
  refine List.pairwise_map.mpr (List.Pairwise.filter _ ?_)
  have : (st.zipIdx.map (·.2)).Pairwise (· < ·) := by
    rw [List.zipIdx_map_snd]
    exact List.pairwise_lt_range' ..
  exact List.pairwise_map.mp this
theorem pl_mem {st : List (Option Int)} {i : Nat} : i ∈ pl st ↔ st[i]? = some none := by
  unfold pl
  rw [List.mem_map]
  constructor
  · rintro ⟨⟨o, j⟩, h, rfl⟩
    obtain ⟨h1, h2⟩ := List.mem_filter.mp h
    have h1 := List.mem_zipIdx_iff_getElem?.mp h1
    cases o with
    | none => exact h1
    | some x => cases h2
  · intro h
    exact ⟨(none, i), List.mem_filter.mpr ⟨List.mem_zipIdx_iff_getElem?.mpr h, rfl⟩, rfl⟩
theorem Std.parts {rs : List (List Int)} {st : List (Option Int)} (h : Std rs st) (hr : Rows rs) :
    pl st = ((List.range rs.length).filter fun i => decide (i ∉ (lset rs.length (lotOf st)).map (·.1))) ∧ tl st = ((List.range rs.length).filter fun i => decide (i ∉ (lset rs.length (lotOf st)).map (·.2))) := by
  have hm : ∀ q, q ∈ lset rs.length (lotOf st) ↔ ∃ x, dr st q.1 x ∧ (q.2 : Int) = x := fun q => by
    rw [lset_mem (h.lot hr), lotOf_mem]
    constructor
    · rintro ⟨x, h1, h2⟩
      have := h.bd hr h1
      exact ⟨x, h1, by omega⟩
    · rintro ⟨x, h1, h2⟩
      exact ⟨x, h1, by omega⟩
  constructor
  · refine asc_ext_nat pl_asc (List.pairwise_lt_range.filter _) fun i => ?_
    rw [pl_mem, List.mem_filter, List.mem_range, decide_eq_true_iff, List.mem_map]
    constructor
    · intro hi
      refine ⟨by rw [← h.len]; exact (List.getElem?_eq_some_iff.mp hi).1, fun ⟨q, hq, e⟩ => ?_⟩
      obtain ⟨x, h1, _⟩ := (hm q).mp hq
      rw [dr, e, hi] at h1
      cases h1
    · rintro ⟨h1, h2⟩
      rw [← h.len] at h1
      rw [List.getElem?_eq_getElem h1]
      cases q : st[i] with
      | none => rfl
      | some x =>
        have hd : dr st i x := by rw [dr, List.getElem?_eq_getElem h1, q]
        have hb := h.bd hr hd
        exact absurd ⟨(i, x.toNat), (hm _).mpr ⟨x, hd, by show ((x.toNat : Nat) : Int) = x; omega⟩, rfl⟩ h2
  · unfold tl
    rw [h.len]
    refine List.filter_congr fun t _ => ?_
    rw [decide_eq_decide, List.mem_map, dr_mem]
    constructor
    · rintro h1 ⟨q, hq, e⟩
      obtain ⟨x, h3, h4⟩ := (hm q).mp hq
      exact h1 ⟨q.1, by rw [← e, h4]; exact h3⟩
    · rintro h1 ⟨i, hd⟩
      exact h1 ⟨(i, t), (hm _).mpr ⟨_, hd, rfl⟩, rfl⟩
theorem Std.ways {rs : List (List Int)} {st : List (Option Int)} (h : Std rs st) (hr : Rows rs) : ways rs (pl st) (tl st) = (aft rs st).length := by
  rw [h.aft_lot hr, lot_good hr (h.lot hr) (h.good hr), ← (h.parts hr).1, ← (h.parts hr).2]
theorem Std.same {rs : List (List Int)} {st : List (Option Int)} (h : Std rs st) (hr : Rows rs) : (pl st).length = (tl st).length := by
  have hg := h.good hr
  have hb : ∀ q ∈ lset rs.length (lotOf st), q.1 < rs.length ∧ q.2 < rs.length := fun q hq => h.lot hr q ((lset_mem (h.lot hr)).mp hq)
  have h1 := comp_len (n := rs.length) hg.1 fun i hi => by
    obtain ⟨q, hq, rfl⟩ := List.mem_map.mp hi
    exact (hb q hq).1
  have h2 := comp_len (n := rs.length) hg.2.1 fun i hi => by
    obtain ⟨q, hq, rfl⟩ := List.mem_map.mp hi
    exact (hb q hq).2
  rw [(h.parts hr).1, (h.parts hr).2]
  rw [List.length_map] at h1 h2
  omega
theorem nd_drawn : ∀ {st : List (Option Int)}, (∀ i j x, dr st i x → dr st j x → i = j) → (st.filterMap id).Nodup
  | [], _ => by simp
  | none :: st, h => by
    rw [List.filterMap_cons]
    exact nd_drawn fun i j x h1 h2 => by
      have := h (i + 1) (j + 1) x h1 h2
      omega
  | some x :: st, h => by
    rw [List.filterMap_cons]
    refine List.nodup_cons.mpr ⟨fun hm => ?_, nd_drawn fun i j y h1 h2 => by
      have := h (i + 1) (j + 1) y h1 h2
      omega⟩
    obtain ⟨o, ho, e⟩ := List.mem_filterMap.mp hm
    have e : o = some x := e
    subst e
    obtain ⟨i, hi⟩ := dr_mem.mp ho
    have := h 0 (i + 1) x rfl hi
    omega
/-- counted by what comes next at p -/
theorem sum_by {α : Type} {P : α → Bool} {v : α → Int} {L : List α} : ∀ {xs : List Int}, xs.Nodup → (xs.map fun x => (L.filter fun d => P d && decide (v d = x)).length).sum = (L.filter fun d => P d && decide (v d ∈ xs)).length
  | [], _ => by
    rw [List.map_nil, List.sum_nil]
    exact (List.length_eq_zero_iff.mpr (List.filter_eq_nil_iff.mpr fun d _ => by simp)).symm
  | x :: xs, h => by
    obtain ⟨h1, h2⟩ := List.nodup_cons.mp h
    rw [List.map_cons, List.sum_cons, sum_by h2]
    have key : ∀ L : List α, (L.filter fun d => P d && decide (v d = x)).length + (L.filter fun d => P d && decide (v d ∈ xs)).length = (L.filter fun d => P d && decide (v d ∈ x :: xs)).length := by
      intro L
      induction L with
      | nil => rfl
      | cons d L ih =>
        rw [List.filter_cons, List.filter_cons, List.filter_cons]
        by_cases c : P d = true
        · by_cases c1 : v d = x
          · have c2 : v d ∉ xs := by rw [c1]; exact h1
            have c3 : v d ∈ x :: xs := by rw [c1]; exact List.mem_cons_self
            rw [if_pos (by rw [c, decide_eq_true c1]; rfl), if_neg (by rw [c, decide_eq_false c2]; exact Bool.false_ne_true), if_pos (by rw [c, decide_eq_true c3]; rfl), List.length_cons, List.length_cons]
            omega
          · by_cases c2 : v d ∈ xs
            · have c3 : v d ∈ x :: xs := List.mem_cons_of_mem _ c2
              rw [if_neg (by rw [c, decide_eq_false c1]; exact Bool.false_ne_true), if_pos (by rw [c, decide_eq_true c2]; rfl), if_pos (by rw [c, decide_eq_true c3]; rfl), List.length_cons, List.length_cons]
              omega
            · have c3 : v d ∉ x :: xs := fun z => (List.mem_cons.mp z).elim c1 c2
              rw [if_neg (by rw [c, decide_eq_false c1]; exact Bool.false_ne_true), if_neg (by rw [c, decide_eq_false c2]; exact Bool.false_ne_true), if_neg (by rw [c, decide_eq_false c3]; exact Bool.false_ne_true)]
              exact ih
        · have c : P d = false := by simpa using c
          simp only [c, Bool.false_and, Bool.false_eq_true, if_false]
          exact ih
    exact key L
theorem dr_set {st : List (Option Int)} {p i : Nat} {x y : Int} (hp : st[p]? = some none) : dr (st.set p (some x)) i y ↔ dr st i y ∨ (i = p ∧ y = x) := by
  have hl := (List.getElem?_eq_some_iff.mp hp).1
  unfold dr
  by_cases c : p = i
  · subst c
    rw [List.getElem?_set_self hl, hp]
    constructor
    · intro h; cases h; exact .inr ⟨rfl, rfl⟩
    · rintro (h | ⟨_, h⟩)
      · cases h
      · rw [h]
  · rw [List.getElem?_set_ne c]
    exact ⟨.inl, fun h => h.elim id fun h => absurd h.1.symm c⟩
theorem Std.more {rs : List (List Int)} {st : List (Option Int)} (h : Std rs st) {p : Nat} {x : Int} (hp : st[p]? = some none) (hx : x ∈ rs.getD p []) (hn : some x ∉ st) : Std rs (st.set p (some x)) := by
  refine ⟨by rw [List.length_set]; exact h.len, fun i y hd => ?_, fun i j y h1 h2 => ?_⟩
  · rcases (dr_set hp).mp hd with hd | ⟨rfl, rfl⟩
    · exact h.tie i y hd
    · exact hx
  · rcases (dr_set hp).mp h1 with g1 | ⟨e, e1⟩ <;> rcases (dr_set hp).mp h2 with g2 | ⟨e', e2⟩
    · exact h.nd i j y g1 g2
    · rw [e2] at g1
      exact absurd (dr_mem.mpr ⟨i, g1⟩) hn
    · rw [e1] at g2
      exact absurd (dr_mem.mpr ⟨j, g2⟩) hn
    · rw [e, e']
theorem Std.sum {rs : List (List Int)} {st : List (Option Int)} (h : Std rs st) (hr : Rows rs) {p : Nat} (hp : st[p]? = some none) :
    (((rs.getD p []).filter fun x => decide (some x ∉ st)).map fun x => (aft rs (st.set p (some x))).length).sum = (aft rs st).length := by
  have hpl : p < rs.length := by rw [← h.len]; exact (List.getElem?_eq_some_iff.mp hp).1
  have e1 : (((rs.getD p []).filter fun x => decide (some x ∉ st)).map fun x => (aft rs (st.set p (some x))).length) = (((rs.getD p []).filter fun x => decide (some x ∉ st)).map fun x => ((dls rs).filter fun d => fitB st d && decide (d.getD p 0 = x)).length) := by
    refine List.map_congr_left fun x _ => ?_
    unfold aft
    congr 1
    refine List.filter_congr fun d _ => ?_
    rw [Bool.eq_iff_iff, Bool.and_eq_true, fitB_iff, fitB_iff, decide_eq_true_iff]
    constructor
    · intro hf
      exact ⟨fun i y hd => hf i y ((dr_set hp).mpr (.inl hd)), hf p x ((dr_set hp).mpr (.inr ⟨rfl, rfl⟩))⟩
    · rintro ⟨h1, h2⟩ i y hd
      rcases (dr_set hp).mp hd with hd | ⟨rfl, rfl⟩
      · exact h1 i y hd
      · exact h2
  rw [e1, sum_by ((hr.get hpl).nodup.sublist List.filter_sublist)]
  unfold aft
  congr 1
  refine List.filter_congr fun d hd => ?_
  obtain ⟨d1, d2, d3⟩ := dls_mem.mp hd
  rw [Bool.eq_iff_iff, Bool.and_eq_true, decide_eq_true_iff]
  refine ⟨fun h => h.1, fun hf => ⟨hf, List.mem_filter.mpr ⟨?_, decide_eq_true fun hm => ?_⟩⟩⟩
  · exact d3 p _ _ (by rw [List.getD_eq_getElem?_getD, List.getElem?_eq_getElem (by omega)]; rfl) (by rw [List.getD_eq_getElem?_getD, List.getElem?_eq_getElem hpl]; rfl)
  · obtain ⟨i, hi⟩ := dr_mem.mp hm
    have h1 := fitB_iff.mp hf i _ hi
    have hil : i < d.length := by rw [d1, ← h.len]; exact dr_lt hi
    have hip : i = p := by
      rw [List.getD_eq_getElem?_getD, List.getD_eq_getElem?_getD, List.getElem?_eq_getElem hil, List.getElem?_eq_getElem (by omega)] at h1
      exact (List.getElem_inj d2).mp h1
    subst hip
    rw [dr, hp] at hi
    cases hi
end DL

namespace DL
open PySem PySem.Spec PyProof.Rows L2
theorem getD_app_l {α : Type} {a b : List α} {i : Nat} {d : α} (h : i < a.length) : (a ++ b).getD i d = a.getD i d := by
  rw [List.getD_eq_getElem?_getD, List.getElem?_append_left h, ← List.getD_eq_getElem?_getD]
theorem getD_app_r {α : Type} {a b : List α} {i : Nat} {d : α} (h : a.length ≤ i) : (a ++ b).getD i d = b.getD (i - a.length) d := by
  rw [List.getD_eq_getElem?_getD, List.getElem?_append_right h, ← List.getD_eq_getElem?_getD]
theorem asc_range' {s n : Nat} : Asc (List.range' s n) := List.pairwise_lt_range'
/-! ### people and things told anew; tables beside one another -/
theorem map_erase_on {α β : Type} [DecidableEq α] [DecidableEq β] {f : α → β} {a : α} : ∀ {S : List α}, S.Nodup → (∀ x ∈ S, ∀ y ∈ S, f x = f y → x = y) → a ∈ S → (S.erase a).map f = (S.map f).erase (f a)
  | [], _, _, h => absurd h (by simp)
  | x :: S, hn, hi, h => by
    by_cases c : x = a
    · subst c; simp
    · have hf : f x ≠ f a := fun e => c (hi x List.mem_cons_self a h e)
      have ha : a ∈ S := (List.mem_cons.mp h).resolve_left (fun e => c e.symm)
      rw [List.erase_cons_tail (by simpa using c), List.map_cons, List.map_cons, List.erase_cons_tail (by simpa using hf),
        map_erase_on (List.nodup_cons.mp hn).2 (fun x hx y hy => hi x (List.mem_cons_of_mem _ hx) y (List.mem_cons_of_mem _ hy)) ha]
theorem getD_idx {T : List Nat} {x : Nat} (h : x ∈ T) : T.getD (T.idxOf x) 0 = x := by
  have hl := List.idxOf_lt_length_of_mem h
  rw [List.getD_eq_getElem?_getD, List.getElem?_eq_getElem hl]
  simp
theorem asc_getD_lt {T : List Nat} (hT : Asc T) {i j : Nat} (hij : i < j) (hj : j < T.length) : T.getD i 0 < T.getD j 0 := by
  rw [List.getD_eq_getElem?_getD, List.getD_eq_getElem?_getD, List.getElem?_eq_getElem (by omega), List.getElem?_eq_getElem hj]
  exact List.pairwise_iff_getElem.mp hT i j (by omega) hj hij
theorem asc_getD_inj {T : List Nat} (hT : Asc T) {i j : Nat} (hi : i < T.length) (hj : j < T.length) (e : T.getD i 0 = T.getD j 0) : i = j := by
  rcases Nat.lt_trichotomy i j with h | h | h
  · have := asc_getD_lt hT h hj; omega
  · exact h
  · have := asc_getD_lt hT h hi; omega
theorem idx_getD {T : List Nat} (hT : Asc T) {s : Nat} (h : s < T.length) : T.idxOf (T.getD s 0) = s := by
  have hm : T.getD s 0 ∈ T := by
    rw [List.getD_eq_getElem?_getD, List.getElem?_eq_getElem h]; exact List.getElem_mem h
  exact asc_getD_inj hT (List.idxOf_lt_length_of_mem hm) h (getD_idx hm)
/-- a row with its things told anew -/
def renR (T : List Nat) (r : List Int) : List Int := (r.filter fun x => decide (x.toNat ∈ T)).map fun x => ((T.idxOf x.toNat : Nat) : Int)
theorem filter_filter_and {α : Type} {p q : α → Bool} {l : List α} : (l.filter p).filter q = l.filter fun x => p x && q x := by
  rw [List.filter_filter]; congr 1; funext x; rw [Bool.and_comm]
theorem ways_ren {rs K : List (List Int)} {P T : List Nat} (hT : Asc T) (hK : ∀ (i p : Nat), P[i]? = some p → K.getD i [] = renR T (rs.getD p [])) :
    ∀ (k i : Nat) (S : List Nat), i + k = P.length → Asc S → (∀ s ∈ S, s < T.length) → ways K (List.range' i k) S = ways rs (P.drop i) (S.map fun s => T.getD s 0)
  | 0, i, S, h, _, _ => by
    rw [List.drop_eq_nil_of_le (by omega)]; rfl
  | k + 1, i, S, h, hS, hb => by
    have hi : i < P.length := by omega
    have hp : P[i]? = some P[i] := List.getElem?_eq_getElem hi
    rw [List.range'_succ, List.drop_eq_getElem_cons hi]
    unfold ways
    rw [hK i _ hp]
    unfold renR
    rw [List.filter_map, List.map_map, filter_filter_and]
    have hSn := asc_nodup hS
    have inj : ∀ x ∈ S, ∀ y ∈ S, (fun s => T.getD s 0) x = (fun s => T.getD s 0) y → x = y := fun x hx y hy e => asc_getD_inj hT (hb x hx) (hb y hy) e
    have ef : ((rs.getD P[i] []).filter fun x => decide (x.toNat ∈ T) && ((fun x => decide (x.toNat ∈ S)) ∘ fun x : Int => ((T.idxOf x.toNat : Nat) : Int)) x) = (rs.getD P[i] []).filter fun x => decide (x.toNat ∈ S.map fun s => T.getD s 0) := by
      refine List.filter_congr fun x _ => ?_
      rw [Bool.eq_iff_iff, Bool.and_eq_true, decide_eq_true_iff, Function.comp, decide_eq_true_iff, decide_eq_true_iff, Int.toNat_natCast, List.mem_map]
      constructor
      · rintro ⟨h1, h2⟩
        exact ⟨_, h2, getD_idx h1⟩
      · rintro ⟨s, h1, h2⟩
        have hs := hb s h1
        have hm : x.toNat ∈ T := by
          rw [← h2, List.getD_eq_getElem?_getD, List.getElem?_eq_getElem hs]; exact List.getElem_mem hs
        exact ⟨hm, by rw [← h2, idx_getD hT hs]; exact h1⟩
    rw [ef]
    refine congrArg List.sum (List.map_congr_left fun x hx => ?_)
    have hx2 := of_decide_eq_true (List.mem_filter.mp hx).2
    obtain ⟨s, h1, h2⟩ := List.mem_map.mp hx2
    have hs : T.idxOf x.toNat = s := by rw [← h2]; exact idx_getD hT (hb s h1)
    rw [Function.comp, Int.toNat_natCast, hs, ways_ren hT hK k (i + 1) (S.erase s) (by omega) (asc_erase hS) (fun z hz => hb z (List.mem_of_mem_erase hz)), map_erase_on hSn inj h1, h2]
theorem map_getD_self {T : List Nat} : ((List.range T.length).map fun s => T.getD s 0) = T := by
  apply List.ext_getElem
  · rw [List.length_map, List.length_range]
  · intro i h1 h2
    rw [List.getElem_map, List.getElem_range, List.getD_eq_getElem?_getD, List.getElem?_eq_getElem h2]; rfl
theorem ways_kept {rs K : List (List Int)} {P T : List Nat} (hT : Asc T) (hl : K.length = P.length) (hpt : P.length = T.length) (hK : ∀ (i p : Nat), P[i]? = some p → K.getD i [] = renR T (rs.getD p [])) :
    ways K (List.range K.length) (List.range K.length) = ways rs P T := by
  have := ways_ren hT hK P.length 0 (List.range P.length) (by omega) List.pairwise_lt_range (fun s hs => by rw [← hpt]; exact List.mem_range.mp hs)
  rw [← List.range_eq_range', List.drop_zero] at this
  rw [hl, this, hpt, map_getD_self]
/-- of people of a first part, who get things of a first part alone -/
theorem ways_part {R : List (List Int)} {P2 T2 : List Nat} : ∀ {P1 T1 : List Nat}, (∀ p ∈ P1, ∀ x ∈ R.getD p [], x.toNat ∉ T2) → P1.length = T1.length → ways R (P1 ++ P2) (T1 ++ T2) = ways R P1 T1 * ways R P2 T2
  | [], T1, _, hl => by
    have : T1 = [] := List.length_eq_zero_iff.mp hl.symm
    subst this
    show ways R P2 T2 = 1 * _
    rw [Nat.one_mul]
  | p :: P1, T1, h, hl => by
    rw [List.cons_append]
    show ((((R.getD p []).filter fun x => decide (x.toNat ∈ T1 ++ T2)).map fun x => ways R (P1 ++ P2) ((T1 ++ T2).erase x.toNat)).sum) = ((((R.getD p []).filter fun x => decide (x.toNat ∈ T1)).map fun x => ways R P1 (T1.erase x.toNat)).sum) * ways R P2 T2
    have ef : ((R.getD p []).filter fun x => decide (x.toNat ∈ T1 ++ T2)) = (R.getD p []).filter fun x => decide (x.toNat ∈ T1) := List.filter_congr fun x hx => by
      have := h p List.mem_cons_self x hx
      rw [Bool.eq_iff_iff, decide_eq_true_iff, decide_eq_true_iff, List.mem_append]
      exact ⟨fun z => z.resolve_right this, .inl⟩
    rw [ef]
    have key : ∀ xs : List Int, (∀ x ∈ xs, x.toNat ∈ T1) → ((xs.map fun x => ways R (P1 ++ P2) ((T1 ++ T2).erase x.toNat)).sum) = ((xs.map fun x => ways R P1 (T1.erase x.toNat)).sum) * ways R P2 T2 := by
      intro xs
      induction xs with
      | nil => intro _; simp
      | cons x xs ih =>
        intro hx
        have h1 := hx x List.mem_cons_self
        rw [List.map_cons, List.map_cons, List.sum_cons, List.sum_cons, ih fun y hy => hx y (List.mem_cons_of_mem _ hy), List.erase_append_left _ h1,
          ways_part (fun q hq => h q (List.mem_cons_of_mem _ hq)) (by rw [List.length_erase_of_mem h1]; simp at hl; omega), Nat.add_mul]
    exact key _ fun x hx => of_decide_eq_true (List.mem_filter.mp hx).2
/-- rows with numbers moved on -/
def shiftR (n : Nat) (rs : List (List Int)) : List (List Int) := rs.map fun r => r.map fun x => x + (n : Int)
def besideR (a b : List (List Int)) : List (List Int) := a ++ shiftR a.length b
theorem beside_len {a b : List (List Int)} : (besideR a b).length = a.length + b.length := by unfold besideR shiftR; simp
theorem beside_rows {a b : List (List Int)} (ha : Rows a) (hb : Rows b) : Rows (besideR a b) := by
  refine ⟨fun r hr => ?_⟩
  rw [beside_len]
  rcases List.mem_append.mp hr with h | h
  · have := ha.row r h
    exact ⟨this.lt, fun x hx => by have := this.bd x hx; omega⟩
  · obtain ⟨q, hq, rfl⟩ := List.mem_map.mp h
    have := hb.row q hq
    refine ⟨List.pairwise_map.mpr (this.lt.imp fun h => by omega), fun x hx => ?_⟩
    obtain ⟨y, hy, rfl⟩ := List.mem_map.mp hx
    have := this.bd y hy
    omega
theorem ways_beside {a b : List (List Int)} (ha : Rows a) (hb : Rows b) : ways (besideR a b) (List.range (besideR a b).length) (List.range (besideR a b).length) = ways a (List.range a.length) (List.range a.length) * ways b (List.range b.length) (List.range b.length) := by
  have hr : List.range (besideR a b).length = List.range a.length ++ List.range' a.length b.length := by
    rw [beside_len, List.range_eq_range', List.range_eq_range', ← List.range'_append]; simp
  rw [hr, ways_part (fun p hp x hx => ?_) rfl]
  · have e1 : ways (besideR a b) (List.range a.length) (List.range a.length) = ways a (List.range a.length) (List.range a.length) := by
      have := ways_ren (rs := besideR a b) (K := a) (P := List.range a.length) (T := List.range a.length) List.pairwise_lt_range (fun i p e => ?_) a.length 0 (List.range a.length) (by simp) List.pairwise_lt_range (fun s hs => by simpa using hs)
      · rw [← List.range_eq_range', List.drop_zero] at this
        rw [this]
        congr 1
        have := map_getD_self (T := List.range a.length)
        rw [List.length_range] at this
        exact this.symm
      · obtain ⟨h1, h2⟩ := List.getElem?_eq_some_iff.mp e
        rw [List.length_range] at h1
        rw [List.getElem_range] at h2
        subst h2
        unfold besideR renR
        rw [getD_app_l h1]
        have hb2 := (ha.get h1).bd
        rw [List.filter_eq_self.mpr fun x hx => by have := hb2 x hx; exact decide_eq_true (List.mem_range.mpr (by omega))]
        refine (List.map_id _).symm.trans (List.map_congr_left fun x hx => ?_)
        have := hb2 x hx
        have e := idx_getD (T := List.range a.length) List.pairwise_lt_range (s := x.toNat) (by rw [List.length_range]; omega)
        rw [List.getD_eq_getElem?_getD, List.getElem?_range (by omega)] at e
        have e : (List.range a.length).idxOf x.toNat = x.toNat := e
        rw [e]; show x = _; omega
    have e2 : ways (besideR a b) (List.range' a.length b.length) (List.range' a.length b.length) = ways b (List.range b.length) (List.range b.length) := by
      refine (ways_kept (rs := besideR a b) (K := b) (P := List.range' a.length b.length) (T := List.range' a.length b.length) asc_range' (by simp) rfl fun i p e => ?_).symm
      obtain ⟨h1, h2⟩ := List.getElem?_eq_some_iff.mp e
      rw [List.length_range'] at h1
      rw [List.getElem_range'] at h2
      subst h2
      unfold besideR renR shiftR
      rw [getD_app_r (by omega), show a.length + 1 * i - a.length = i by omega, List.getD_eq_getElem?_getD (l := b.map _), List.getElem?_map, List.getElem?_eq_getElem h1]
      show b.getD i [] = ((b[i].map fun x => x + (a.length : Int)).filter _).map _
      have hg : b.getD i [] = b[i] := by rw [List.getD_eq_getElem?_getD, List.getElem?_eq_getElem h1]; rfl
      have hb2 := (hb.get h1).bd
      rw [hg] at hb2 ⊢
      have hl : b[i].length = b[i].length := rfl
      rw [List.filter_map, List.filter_eq_self.mpr fun x hx => ?_, List.map_map]
      · refine (List.map_id _).symm.trans (List.map_congr_left fun x hx => ?_)
        have hx2 := hb2 x hx
        have e := idx_getD (T := List.range' a.length b.length) asc_range' (s := x.toNat) (by rw [List.length_range']; omega)
        rw [List.getD_eq_getElem?_getD, List.getElem?_range' (by omega)] at e
        have e : (List.range' a.length b.length).idxOf (a.length + 1 * x.toNat) = x.toNat := e
        show x = (((List.range' a.length b.length).idxOf (x + (a.length : Int)).toNat : Nat) : Int)
        rw [show (x + (a.length : Int)).toNat = a.length + 1 * x.toNat by omega, e]; omega
      · have := hb2 x hx
        refine decide_eq_true (List.mem_range'.mpr ⟨x.toNat, by omega, ?_⟩)
        show (x + (a.length : Int)).toNat = _
        omega
    rw [e1, e2]
  · have hp := List.mem_range.mp hp
    unfold besideR at hx
    rw [getD_app_l hp] at hx
    have := (ha.get hp).bd x hx
    intro z
    obtain ⟨j, _, e⟩ := List.mem_range'.mp z
    omega
end DL

namespace DL
open PySem PySem.Spec PyProof.Rows L2
/-! ### a counter's keys, of people who go in their order -/
structure MemoW (rs : List (List Int)) (n : Nat) (P : List Nat) (ks : List (List L2.Key × D)) : Prop where
  nd : (ks.map (·.1)).Nodup
  bd : ∀ k ∈ ks.map (·.1), ∃ (j : Nat) (ts : List Nat), j ≤ P.length ∧ Asc ts ∧ ts.length = P.length - j ∧ (∀ i ∈ ts, i < n) ∧ k = [.inl (msk (P.drop j) : Nat), .inl (msk ts : Nat)]
  z : dget ks [.inl 0, .inl 0] = some (.int 1)
  ok : ∀ ps ts d, Asc ps → Asc ts → dget ks [.inl (msk ps : Nat), .inl (msk ts : Nat)] = some d → d = .int (ways rs ps ts : Nat)
theorem MemoW.room {rs : List (List Int)} {n : Nat} {P : List Nat} {ks : List (List L2.Key × D)} (m : MemoW rs n P ks) (hn : n ≤ 24) {j : Nat} {ts : List Nat} (hj : j ≤ P.length) (ht : Asc ts) (hl : ts.length = P.length - j) (hb : ∀ i ∈ ts, i < n)
    (h : dget ks [.inl (msk (P.drop j) : Nat), .inl (msk ts : Nat)] = none) : ks.length < 16777216 := by
  let f : List L2.Key → Nat := fun k => match k with
    | [.inl x, .inl y] => y.toNat
    | _ => 0
  have hall : ∀ k ∈ [.inl (msk (P.drop j) : Nat), .inl (msk ts : Nat)] :: ks.map (·.1), ∃ (j : Nat) (ts : List Nat), j ≤ P.length ∧ Asc ts ∧ ts.length = P.length - j ∧ (∀ i ∈ ts, i < n) ∧ k = [.inl (msk (P.drop j) : Nat), .inl (msk ts : Nat)] := fun k hk => by
    rcases List.mem_cons.mp hk with rfl | hk
    · exact ⟨j, ts, hj, ht, hl, hb, rfl⟩
    · exact m.bd k hk
  have h1 : (([.inl (msk (P.drop j) : Nat), .inl (msk ts : Nat)] :: ks.map (·.1)).map f).Nodup := by
    refine List.pairwise_map.mpr ((List.nodup_cons.mpr ⟨dget_none h, m.nd⟩).imp_of_mem fun {x y} hx hy hne e => hne ?_)
    obtain ⟨a, s, h1, h2, h3, h4, rfl⟩ := hall x hx
    obtain ⟨c, t, h5, h6, h7, h8, rfl⟩ := hall y hy
    have e : ((msk s : Nat) : Int).toNat = ((msk t : Nat) : Int).toNat := e
    simp only [Int.toNat_natCast] at e
    have e2 := msk_inj h2 h6 e
    subst e2
    have : a = c := by omega
    rw [this]
  have h2 := nd_len (N := 16777216) h1 fun q hq => by
    obtain ⟨k, hk, rfl⟩ := List.mem_map.mp hq
    obtain ⟨a, s, h1, h2, h3, h4, rfl⟩ := hall k hk
    show ((msk s : Nat) : Int).toNat < 16777216
    simp only [Int.toNat_natCast]
    have := msk_lt h2 h4
    have h5 : 2 ^ n ≤ 2 ^ 24 := Nat.pow_le_pow_right (by omega) hn
    omega
  rw [List.length_map, List.length_cons, List.length_map] at h2
  omega
theorem MemoW.put {rs : List (List Int)} {n : Nat} {P : List Nat} {ks : List (List L2.Key × D)} (m : MemoW rs n P ks) (hP : Asc P) {j : Nat} {ts : List Nat} (hj : j ≤ P.length) (ht : Asc ts) (hl : ts.length = P.length - j) (hb : ∀ i ∈ ts, i < n) :
    MemoW rs n P (dput ks [.inl (msk (P.drop j) : Nat), .inl (msk ts : Nat)] (.int (ways rs (P.drop j) ts : Nat))) := by
  have hp : Asc (P.drop j) := hP.sublist (List.drop_sublist _ _)
  have key : ∀ k, k ∈ (dput ks [.inl (msk (P.drop j) : Nat), .inl (msk ts : Nat)] (.int (ways rs (P.drop j) ts : Nat))).map (·.1) → k ∈ ks.map (·.1) ∨ k = [.inl (msk (P.drop j) : Nat), .inl (msk ts : Nat)] := fun k hk => by
    cases h : dget ks [.inl (msk (P.drop j) : Nat), .inl (msk ts : Nat)] with
    | some d => rw [dput_keys h] at hk; exact .inl hk
    | none =>
      rw [dput_new h, List.map_append] at hk
      exact (List.mem_append.mp hk).imp id fun h => List.mem_singleton.mp h
  refine ⟨?_, ?_, ?_, ?_⟩
  · cases h : dget ks [.inl (msk (P.drop j) : Nat), .inl (msk ts : Nat)] with
    | some d => rw [dput_keys h]; exact m.nd
    | none =>
      rw [dput_new h, List.map_append]
      exact List.nodup_append.mpr ⟨m.nd, by simp, fun x hx y hy e => by
        rw [List.map_singleton, List.mem_singleton] at hy
        subst e
        rw [hy] at hx
        exact dget_none h hx⟩
  · intro k hk
    rcases key k hk with hk | rfl
    · exact m.bd k hk
    · exact ⟨j, ts, hj, ht, hl, hb, rfl⟩
  · rw [dget_put]
    by_cases c : ([.inl ((msk (P.drop j) : Nat) : Int), .inl ((msk ts : Nat) : Int)] : List L2.Key) = [.inl 0, .inl 0]
    · rw [if_pos c]
      simp only [List.cons.injEq, Sum.inl.injEq, and_true] at c
      have : P.drop j = [] := msk_inj hp List.Pairwise.nil (by rw [msk_nil]; omega)
      rw [this]
      rfl
    · rw [if_neg c]; exact m.z
  · intro ps' ts' d h1 h2 h3
    rw [dget_put] at h3
    by_cases c : ([.inl ((msk (P.drop j) : Nat) : Int), .inl ((msk ts : Nat) : Int)] : List L2.Key) = [.inl ((msk ps' : Nat) : Int), .inl ((msk ts' : Nat) : Int)]
    · rw [if_pos c] at h3
      cases h3
      simp only [List.cons.injEq, Sum.inl.injEq, and_true] at c
      rw [msk_inj hp h1 (by omega), msk_inj ht h2 (by omega)]
    · rw [if_neg c] at h3; exact m.ok ps' ts' d h1 h2 h3
theorem memoW0 {rs : List (List Int)} {n : Nat} {P : List Nat} : MemoW rs n P [([.inl 0, .inl 0], .int 1)] := by
  refine ⟨by simp, fun k hk => ?_, rfl, (memo0 (rs := rs)).ok⟩
  rw [List.map_singleton, List.mem_singleton] at hk
  subst hk
  exact ⟨P.length, [], Nat.le_refl _, List.Pairwise.nil, by simp, fun i h => absurd h (by simp), by rw [List.drop_length]; rfl⟩
end DL

namespace DL
open PySem PySem.Spec PyProof.Rows L2
/-! ### dict comprehensions, walked -/
theorem mdc_k {n : Nat} {vs : List Nat} {f : M (List D)} {tg : Tg} {ft : M Bool} {fk fv : M D} {env : Env} : mdc n vs f tg ft fk fv env = (f env).bind fun q => if q.2.length = n then (dcD vs tg ft fk fv q.1 [] (wipeE q.2 vs)).map fun r => (.fd (.dik r.1), restE q.2 vs r.2) else none := rfl
def dc1 (vs : List Nat) (tg : Tg) (ft : M Bool) (fk fv : M D) (d : D) (e : Env) : Option (Option (L2.Key × D) × Env) := (tg d e).bind fun e1 => (ft e1).bind fun q => if q.1 = true then (fk q.2).bind fun kq => (toK kq.1).bind fun k => (fv kq.2).map fun r => (some (k, r.1), wipeE r.2 vs) else some (none, wipeE q.2 vs)
theorem dcD_some {vs : List Nat} {tg : Tg} {ft : M Bool} {fk fv : M D} {d : D} {ds : List D} {acc : List (L2.Key × D)} {e e' : Env} {k : L2.Key} {v : D} (h : dc1 vs tg ft fk fv d e = some (some (k, v), e')) (hl : acc.length < 16777216) : dcD vs tg ft fk fv (d :: ds) acc e = dcD vs tg ft fk fv ds (dput acc k v) e' := by
  conv => lhs; unfold dcD
  unfold dc1 at h
  obtain ⟨e1, h1, h⟩ := bind_some h
  obtain ⟨q, h2, h⟩ := bind_some h
  rw [h1, Option.bind_some, h2, Option.bind_some]
  by_cases c : q.1 = true
  · rw [if_pos c] at h
    obtain ⟨kq, h3, h⟩ := bind_some h
    obtain ⟨k', h4, h⟩ := bind_some h
    obtain ⟨r, h5, h6⟩ := map_some h
    cases h6
    rw [if_pos c, h3]
    unfold dcLe
    dsimp only
    rw [h4, Option.bind_some, h5, Option.bind_some, if_pos hl, Option.bind_some]
  · rw [if_neg c] at h
    cases h
theorem dcD_none {vs : List Nat} {tg : Tg} {ft : M Bool} {fk fv : M D} {d : D} {ds : List D} {acc : List (L2.Key × D)} {e e' : Env} (h : dc1 vs tg ft fk fv d e = some (none, e')) : dcD vs tg ft fk fv (d :: ds) acc e = dcD vs tg ft fk fv ds acc e' := by
  conv => lhs; unfold dcD
  unfold dc1 at h
  obtain ⟨e1, h1, h⟩ := bind_some h
  obtain ⟨q, h2, h⟩ := bind_some h
  rw [h1, Option.bind_some, h2, Option.bind_some]
  by_cases c : q.1 = true
  · rw [if_pos c] at h
    obtain ⟨kq, h3, h⟩ := bind_some h
    obtain ⟨k', h4, h⟩ := bind_some h
    obtain ⟨r, h5, h6⟩ := map_some h
    cases h6
  · rw [if_neg c] at h
    cases h
    rw [if_neg c]
theorem dputK_new {ks : List (L2.Key × D)} {k : L2.Key} {d : D} (h : ∀ p ∈ ks, p.1 ≠ k) : dput ks k d = ks ++ [(k, d)] := by
  unfold dput
  rw [if_neg]
  intro c
  obtain ⟨p, hp, e⟩ := List.any_eq_true.mp c
  exact h p hp (of_decide_eq_true e)
theorem dcD_filt {α : Type} {vs : List Nat} {tg : Tg} {ft : M Bool} {fk fv : M D} {e : Env} {enc : α → D} {p : α → Bool} {kf : α → L2.Key} {vf : α → D} : ∀ {l : List α} {acc : List (L2.Key × D)}, acc.length + l.length ≤ 16777216 →
    (∀ x ∈ l, dc1 vs tg ft fk fv (enc x) e = some (if p x = true then some (kf x, vf x) else none, e)) → (l.map kf).Nodup → (∀ q ∈ acc, q.1 ∉ l.map kf) →
    dcD vs tg ft fk fv (l.map enc) acc e = some (acc ++ (l.filter p).map fun x => (kf x, vf x), e)
  | [], acc, _, _, _, _ => by
    rw [List.map_nil]
    unfold dcD
    simp
  | x :: l, acc, hl, h, hn, ha => by
    rw [List.length_cons] at hl
    rw [List.map_cons] at hn ha
    obtain ⟨hn1, hn2⟩ := List.nodup_cons.mp hn
    have h0 := h x List.mem_cons_self
    rw [List.map_cons]
    by_cases c : p x = true
    · rw [if_pos c] at h0
      rw [dcD_some h0 (by omega), dputK_new fun q hq e => ha q hq (by rw [e]; exact List.mem_cons_self)]
      rw [dcD_filt (l := l) (by rw [List.length_append, List.length_singleton]; omega) (fun y hy => h y (List.mem_cons_of_mem _ hy)) hn2 fun q hq => ?_]
      · rw [List.filter_cons, if_pos c, List.map_cons, List.append_assoc]; rfl
      · rcases List.mem_append.mp hq with hq | hq
        · exact fun hm => ha q hq (List.mem_cons_of_mem _ hm)
        · rw [List.mem_singleton.mp hq]; exact hn1
    · rw [if_neg c] at h0
      rw [dcD_none h0, dcD_filt (l := l) (by omega) (fun y hy => h y (List.mem_cons_of_mem _ hy)) hn2 fun q hq hm => ha q hq (List.mem_cons_of_mem _ hm)]
      rw [List.filter_cons, if_neg c]
theorem dget_map {α : Type} {kf : α → L2.Key} {vf : α → D} : ∀ {l : List α} {x : α}, (l.map kf).Nodup → x ∈ l → dget (l.map fun x => (kf x, vf x)) (kf x) = some (vf x)
  | y :: l, x, hn, hx => by
    rw [List.map_cons] at hn
    obtain ⟨hn1, hn2⟩ := List.nodup_cons.mp hn
    unfold dget
    rw [List.map_cons, List.find?_cons]
    by_cases c : kf y = kf x
    · have e : x = y := by
        rcases List.mem_cons.mp hx with hx | hx
        · exact hx
        · exact absurd (List.mem_map.mpr ⟨x, hx, c.symm⟩) hn1
      subst e
      rw [decide_eq_true rfl]
      rfl
    · have hx : x ∈ l := (List.mem_cons.mp hx).resolve_left fun e => c (by rw [e])
      rw [decide_eq_false c]
      exact dget_map hn2 hx
abbrev kI (p : Nat) : L2.Key := .inl ((p : Nat) : Int)
theorem kI_nd {l : List Nat} (h : l.Nodup) : (l.map kI).Nodup := by
  refine List.pairwise_map.mpr (h.imp fun {a b} hab e => hab ?_)
  have : ((a : Nat) : Int) = (b : Nat) := Sum.inl.inj e
  omega
end DL

namespace DL
open PySem PySem.Spec PyProof.Rows L2
/-! ### dicts from lots of things to numbers -/
def gfkx (i : Nat) (tg : Tg) (body : G) (env : Env) : Option (Option Od) → Option (Out × Env)
  | some (some (.fd (.dit ks))) => forD tg body (ks.map fun q => .tup (q.1.map kD)) (env.set i (some (.fd (.val (.lit ks)))))
  | some (some (.fd (.dik ks))) => forD tg body (ks.map fun q => kD q.1) (env.set i (some (.fd (.val (.lik ks)))))
  | _ => none
theorem gforK_k {i : Nat} {tg : Tg} {body : G} {env : Env} : gforK i tg body env = gfkx i tg body env env[i]? := by
  unfold gforK gfkx
  split <;> simp_all
theorem gfkx_t {i : Nat} {tg : Tg} {body : G} {env : Env} {ks : List (List L2.Key × D)} : gfkx i tg body env (some (some (.fd (.dit ks)))) = forD tg body (ks.map fun q => .tup (q.1.map kD)) (env.set i (some (.fd (.val (.lit ks))))) := rfl
def dg2x (i : Nat) (fb fc : M D) (env : Env) : Option Fd → Option (D × Env)
  | some x0 => if isDF x0 = true then mbk (fb env) (fun k => mb fc fun z => pu fun env => (px i env).bind fun x => (dgetF x k).map fun r => r.getD z) else none
  | none => none
theorem mdg2_k {i : Nat} {fb fc : M D} {env : Env} : mdg2 i fb fc env = dg2x i fb fc env (px i env) := by
  unfold mdg2 dg2x
  cases px i env with
  | none => rfl
  | some x => show (if isDF x = true then _ else _) = _; rw [mb_k]
theorem dg2x_t {i : Nat} {fb fc : M D} {env : Env} {ks : List (List L2.Key × D)} : dg2x i fb fc env (some (.dit ks)) = mbk (fb env) (fun k => mb fc fun z => pu fun env => (px i env).bind fun x => (dgetF x k).map fun r => r.getD z) := rfl
theorem dg2x_k {i : Nat} {fb fc : M D} {env : Env} {ks : List (L2.Key × D)} : dg2x i fb fc env (some (.dik ks)) = mbk (fb env) (fun k => mb fc fun z => pu fun env => (px i env).bind fun x => (dgetF x k).map fun r => r.getD z) := rfl
theorem toTK_n {ns : List Int} : toTK (.tup (ns.map .int)) = some (ns.map .inl) := by
  show toKs (ns.map .int) = _
  induction ns with
  | nil => rfl
  | cons n ns ih => show (toKs (ns.map .int)).map _ = _; rw [ih]; rfl
theorem toTK_0 : toTK (.tup []) = some [] := rfl
theorem dgF_tn {ks : List (List L2.Key × D)} {ns : List Int} : dgetF (.dit ks) (.tup (ns.map .int)) = some (dget ks (ns.map .inl)) := by
  show (toTK _).map _ = _; rw [toTK_n]; rfl
theorem dgF_ln {ks : List (List L2.Key × D)} {ns : List Int} : dgetF (.val (.lit ks)) (.tup (ns.map .int)) = some (dget ks (ns.map .inl)) := by
  show (toTK _).map _ = _; rw [toTK_n]; rfl
theorem dgF_t0 {ks : List (List L2.Key × D)} : dgetF (.dit ks) (.tup []) = some (dget ks []) := rfl
abbrev natI (l : List Nat) : List Int := l.map fun i : Nat => ((i : Nat) : Int)
abbrev kT (L : List Nat) : List L2.Key := (natI L).map .inl
theorem kT_inj : ∀ {L M : List Nat}, kT L = kT M → L = M
  | [], [], _ => rfl
  | [], _ :: _, h => by cases h
  | _ :: _, [], h => by cases h
  | a :: L, b :: M, h => by
    obtain ⟨h1, h2⟩ := List.cons.inj h
    have h1 : ((a : Nat) : Int) = (b : Nat) := Sum.inl.inj h1
    rw [kT_inj h2, show a = b by omega]
theorem kT_D {L : List Nat} : (kT L).map kD = (natI L).map .int := by
  rw [List.map_map]; rfl
abbrev fD (fs : List (List Nat × Nat)) : List (List L2.Key × D) := fs.map fun q => (kT q.1, D.int ((q.2 : Nat) : Int))
def getF (L : List Nat) : List (List Nat × Nat) → Nat
  | [] => 0
  | (M, v) :: r => if M = L then v else getF L r
def insF (L : List Nat) (c : Nat) : List (List Nat × Nat) → List (List Nat × Nat)
  | [] => [(L, c)]
  | (M, v) :: r => if M = L then (M, v + c) :: r else (M, v) :: insF L c r
theorem dget_fD {L : List Nat} : ∀ {fs : List (List Nat × Nat)}, (dget (fD fs) (kT L)).getD (.int 0) = .int ((getF L fs : Nat) : Int)
  | [] => rfl
  | (M, v) :: r => by
    unfold dget getF fD
    rw [List.map_cons, List.find?_cons]
    by_cases c : M = L
    · subst c
      rw [decide_eq_true rfl, if_pos rfl]; rfl
    · rw [decide_eq_false (fun e => c (kT_inj e)), if_neg c]
      exact dget_fD
theorem dget_fDs {L : List Nat} {c : Nat} : ∀ {fs : List (List Nat × Nat)}, (fs.map (·.1)).Nodup → (L, c) ∈ fs → dget (fD fs) (kT L) = some (.int ((c : Nat) : Int))
  | (M, v) :: r, hn, hm => by
    unfold dget fD
    rw [List.map_cons, List.find?_cons]
    rw [List.map_cons] at hn
    obtain ⟨h1, h2⟩ := List.nodup_cons.mp hn
    by_cases e : M = L
    · subst e
      rw [decide_eq_true rfl]
      rcases List.mem_cons.mp hm with hm | hm
      · cases hm; rfl
      · exact absurd (List.mem_map.mpr ⟨_, hm, rfl⟩) h1
    · rw [decide_eq_false (fun z => e (kT_inj z))]
      rcases List.mem_cons.mp hm with hm | hm
      · cases hm; exact absurd rfl e
      · exact dget_fDs h2 hm
theorem dput_hd {κ : Type} [DecidableEq κ] {ks : List (κ × D)} {k : κ} {d d0 : D} (h : k ∉ ks.map (·.1)) : dput ((k, d0) :: ks) k d = (k, d) :: ks := by
  unfold dput
  rw [List.any_cons, decide_eq_true rfl, Bool.true_or, if_pos rfl, List.map_cons, if_pos rfl]
  congr 1
  refine (List.map_congr_left fun q hq => ?_).trans (List.map_id _)
  rw [if_neg (fun e => h (List.mem_map.mpr ⟨q, hq, e⟩))]; rfl
theorem dput_tl {κ : Type} [DecidableEq κ] {ks : List (κ × D)} {k k0 : κ} {d d0 : D} (h : k0 ≠ k) : dput ((k0, d0) :: ks) k d = (k0, d0) :: dput ks k d := by
  unfold dput
  rw [List.any_cons, decide_eq_false h, Bool.false_or]
  by_cases c : (ks.any fun kv => decide (kv.1 = k)) = true
  · rw [if_pos c, if_pos c, List.map_cons, if_neg h]
  · rw [if_neg c, if_neg c, List.cons_append]
theorem insF_mem {L M : List Nat} {c : Nat} : ∀ {fs : List (List Nat × Nat)}, M ∈ (insF L c fs).map (·.1) ↔ M = L ∨ M ∈ fs.map (·.1)
  | [] => by simp [insF]
  | (N, v) :: r => by
    unfold insF
    by_cases e : N = L
    · subst e
      rw [if_pos rfl]
      simp
    · rw [if_neg e, List.map_cons, List.mem_cons, insF_mem, List.map_cons, List.mem_cons]
      constructor
      · rintro (h | h | h)
        · exact .inr (.inl h)
        · exact .inl h
        · exact .inr (.inr h)
      · rintro (h | h | h)
        · exact .inr (.inl h)
        · exact .inl h
        · exact .inr (.inr h)
theorem insF_nd {L : List Nat} {c : Nat} : ∀ {fs : List (List Nat × Nat)}, (fs.map (·.1)).Nodup → ((insF L c fs).map (·.1)).Nodup
  | [], _ => by simp [insF]
  | (N, v) :: r, h => by
    rw [List.map_cons] at h
    obtain ⟨h1, h2⟩ := List.nodup_cons.mp h
    unfold insF
    by_cases e : N = L
    · rw [if_pos e]
      exact h
    · rw [if_neg e, List.map_cons]
      refine List.nodup_cons.mpr ⟨fun hm => ?_, insF_nd h2⟩
      rcases insF_mem.mp hm with z | z
      · exact e z
      · exact h1 z
theorem dput_fD {L : List Nat} {c : Nat} : ∀ {fs : List (List Nat × Nat)}, (fs.map (·.1)).Nodup → dput (fD fs) (kT L) (.int ((getF L fs + c : Nat) : Int)) = fD (insF L c fs)
  | [], _ => by unfold getF insF; rw [Nat.zero_add]; rfl
  | (N, v) :: r, h => by
    rw [List.map_cons] at h
    obtain ⟨h1, h2⟩ := List.nodup_cons.mp h
    unfold getF insF
    by_cases e : N = L
    · subst e
      rw [if_pos rfl, if_pos rfl]
      show dput ((kT N, _) :: fD r) _ _ = _
      rw [dput_hd]
      · rfl
      · intro hm
        obtain ⟨q, hq, z⟩ := List.mem_map.mp hm
        obtain ⟨p, hp, rfl⟩ := List.mem_map.mp hq
        exact h1 (List.mem_map.mpr ⟨p, hp, kT_inj z⟩)
    · rw [if_neg e, if_neg e]
      show dput ((kT N, _) :: fD r) _ _ = _
      rw [dput_tl (fun z => e (kT_inj z)), dput_fD h2]; rfl
/-- the numbers of a dict, each by the weight of its lot -/
def wsum (W : List Nat → Nat) (fs : List (List Nat × Nat)) : Nat := (fs.map fun q => q.2 * W q.1).sum
theorem wsum_ins {W : List Nat → Nat} {L : List Nat} {c : Nat} : ∀ {fs : List (List Nat × Nat)}, wsum W (insF L c fs) = wsum W fs + c * W L
  | [] => by simp [wsum, insF]
  | (N, v) :: r => by
    unfold insF
    by_cases e : N = L
    · subst e
      rw [if_pos rfl]
      unfold wsum
      rw [List.map_cons, List.map_cons, List.sum_cons, List.sum_cons]
      show (v + c) * W N + _ = v * W N + _ + c * W N
      rw [Nat.add_mul]
      omega
    · rw [if_neg e]
      have := wsum_ins (W := W) (L := L) (c := c) (fs := r)
      unfold wsum at this ⊢
      rw [List.map_cons, List.map_cons, List.sum_cons, List.sum_cons, this]
      omega
theorem asc_erase_filter {L : List Nat} (hn : L.Nodup) {x : Int} (h : x ∈ natI L) : (natI L).filter (fun o => decide (o ≠ x)) = natI (L.erase x.toNat) := by
  obtain ⟨y, hy, rfl⟩ := List.mem_map.mp h
  rw [Int.toNat_natCast, List.Nodup.erase_eq_filter hn, List.filter_map]
  congr 1
  refine List.filter_congr fun z _ => ?_
  rw [Function.comp, Bool.eq_iff_iff, decide_eq_true_iff, bne_iff_ne]
  constructor
  · intro h e; exact h (by rw [e])
  · intro h e; exact h (by omega)
theorem fs_len {n : Nat} {fs : List (List Nat × Nat)} (hn : (fs.map (·.1)).Nodup) (h : ∀ L ∈ fs.map (·.1), Asc L ∧ ∀ i ∈ L, i < n) : fs.length ≤ 2 ^ n := by
  have h1 : ((fs.map (·.1)).map msk).Nodup := List.pairwise_map.mpr (hn.imp_of_mem fun {x y} hx hy hne e => hne (msk_inj (h x hx).1 (h y hy).1 e))
  have := nd_len (N := 2 ^ n) h1 fun q hq => by
    obtain ⟨L, hL, rfl⟩ := List.mem_map.mp hq
    exact msk_lt (h L hL).1 (h L hL).2
  rwa [List.length_map, List.length_map] at this
end DL

namespace k14
open PySem PySem.Spec PyProof.Rows L2 DL
/-! ### meanings -/
def tabT : Nat → Option Bool := fun c => if c = 0 then some false else if c = 1 then some false else if c = 2 then some false else none
def tabC_Table : Nat → Option Bool := fun c => if c = 0 then some true else if c = 1 then some true else if c = 2 then some false else none
def eqCl : List Nat := [0, 1]
def eqNf : Nat → Nat → Bool := fun c k => (c == 0 && k == 0) || (c == 0 && k == 2) || (c == 1 && k == 0) || (c == 1 && k == 1) || (c == 1 && k == 2)
def s_is_integer : G :=
    (gret (ov (vand (m1 (isiB "int" tabT) (rd 0)) (vnot (m1 (isiB "bool" tabT) (rd 0))))))
def fn_is_integer : Fn := runD 1 1 [] s_is_integer
def s_is_within : G :=
    (gret (ov (vand (fz (mcl fn_is_integer 1 (acons (rd 0) anil))) (pu (pch leD leD (pd 1) (pd 0) (pd 2))))))
def fn_is_within : Fn := runD 3 3 [] s_is_within
def s_is_pair : G :=
    (gret (ov (vand (m1 (isiB "tuple" tabT) (rd 0)) (m2 eqD (pu (plen (px 0))) (pu (pc (.int 2)))))))
def fn_is_pair : Fn := runD 1 1 [] s_is_pair
def s_is_listed : G :=
    (gret (ov (m1 (isiB2 "list" "tuple" tabT) (rd 0))))
def fn_is_listed : Fn := runD 1 1 [] s_is_listed
def C1e_are_ascending : M D := (pu (p2 ltD (pd 1) (pd 2)))
def s_are_ascending : G :=
    (gret (mcb (fun ds => (allB ds).map fun d => .fd (.val d)) (acons (fz (mlc 3 [1, 2] (itZ (acons (rd 0) (acons (msl (rd 0) (ptI (pc (.int 1))) (fun _ => some none)) anil))) (tgt (tgc (tgn 1) (tgc (tgn 2) tgz))) (mr true) C1e_are_ascending)) anil)))
def fn_are_ascending : Fn := runD 1 3 [] s_are_ascending
def C1e_is_lot_of : M D := (fz (mcl fn_is_within 3 (acons (rd 2) (acons (pu (pc (.int 0))) (acons (pu (p2 subD (pd 1) (pc (.int 1)))) anil)))))
def s_is_lot_of : G :=
    (gseq (gif (mor (mnot (tst (m1 (isiB "tuple" tabT) (rd 0)))) (mnot (tst (fz (mcb (fun ds => (allB ds).map fun d => .fd (.val d)) (acons (fz (mlc 3 [2] (itA (rd 0)) (tgn 2) (mr true) C1e_is_lot_of)) anil)))))) (gret (ov (pu (pc (.bl false))))) gnx)
    (gret (mcl fn_are_ascending 1 (acons (rd 0) anil))))
def fn_is_lot_of : Fn := runD 2 3 [] s_is_lot_of
def s_check_many : G :=
    (gif (put (tq (p2 gtD (pd 0) (pd 1)))) (fun _ => none) gnx)
def fn_check_many : Fn := runD 2 2 [] s_check_many
def s_Table_keep : G :=
    (gseq (gfs 0 "rows" [0, 1] (ov (rd 1)))
    (gfs 0 "size" [0, 1] (ov (pu (plen (px 1))))))
def fn_Table_keep : Fn := runD 2 2 [0] s_Table_keep
def L1_Table___init__ : G :=
    (gif (mnot (tst (fz (mcl fn_is_lot_of 2 (acons (rd 3) (acons (pu (plen (px 1))) anil)))))) (fun _ => none) gnx)
def s_Table___init__ : G :=
    (gseq (gif (mor (mnot (tst (m1 (isiB "tuple" tabT) (rd 1)))) (mnot (put (tq (pch leD leD (pc (.int 1)) (plen (px 1)) (pc (.int 12))))))) (fun _ => none) gnx)
    (gseq (gfor (itEA (rd 1)) (tgt (tgc (tgn 2) (tgc (tgn 3) tgz))) L1_Table___init__)
    (gex (fz (mmt "keep" 0 0 fn_Table_keep 2 (acons (rd 1) anil))))))
def fn_Table___init__ : Fn := runD 2 4 [0] s_Table___init__
def s_Table___eq__ : G :=
    (gret (ov (vand (m1 (isiC tabC_Table) (rd 1)) (m2 eqD (pu (pdf 0 "rows")) (pu (pdf 1 "rows"))))))
def fn_Table___eq__ : Fn := runD 2 2 [0] s_Table___eq__
def s_RawTable___init__ : G :=
    (gex (fz (mmt "keep" 1 0 fn_Table_keep 2 (acons (rd 1) anil))))
def fn_RawTable___init__ : Fn := runD 2 2 [0] s_RawTable___init__
def s_is_person : G :=
    (gret (mcl fn_is_within 3 (acons (rd 1) (acons (pu (pc (.int 0))) (acons (pu (p2 subD (pdf 0 "size") (pc (.int 1)))) anil)))))
def fn_is_person : Fn := runD 2 2 [] s_is_person
def s_check_person : G :=
    (gif (mnot (tst (fz (mcl fn_is_person 2 (acons (rd 0) (acons (rd 1) anil)))))) (fun _ => none) gnx)
def fn_check_person : Fn := runD 2 2 [] s_check_person
def s_check_thing : G :=
    (gif (mnot (tst (fz (mcl fn_is_person 2 (acons (rd 0) (acons (rd 1) anil)))))) (fun _ => none) gnx)
def fn_check_thing : Fn := runD 2 2 [] s_check_thing
def s_check_pair : G :=
    (gseq (gex (fz (mcl fn_check_person 2 (acons (rd 0) (acons (rd 1) anil)))))
    (gex (fz (mcl fn_check_thing 2 (acons (rd 0) (acons (rd 2) anil))))))
def fn_check_pair : Fn := runD 3 3 [] s_check_pair
def s_with_row : G :=
    (gret (mmk 1 fn_RawTable___init__ 2 (acons (m2 addD (m2 addD (msl (pu (pdf 0 "rows")) (fun _ => some none) (ptI (pd 1))) (mtup (acons (m1 tupB (rd 2)) anil))) (msl (pu (pdf 0 "rows")) (ptI (p2 addI (pd 1) (pc (.int 1)))) (fun _ => some none))) anil)))
def fn_with_row : Fn := runD 3 3 [] s_with_row
def C1t_with_tie : M Bool := (tst (m2 neD (rd 4) (rd 2)))
def C1e_with_tie : M D := (rd 4)
def s_with_tie : G :=
    (gseq (gex (fz (mcl fn_check_pair 3 (acons (rd 0) (acons (rd 1) (acons (rd 2) anil))))))
    (gseq (gst 3 (mlc 5 [4] (itA (pu (pix (pxf 0 "rows") (pd 1)))) (tgn 4) C1t_with_tie C1e_with_tie))
    (gret (mcl fn_with_row 3 (acons (rd 0) (acons (rd 1) (acons (fz (mcb sortB (acons (m2 addD (rd 3) (fz (mlst (acons (rd 2) anil)))) anil))) anil)))))))
def fn_with_tie : Fn := runD 3 5 [] s_with_tie
def C1t_without_tie : M Bool := (tst (m2 neD (rd 3) (rd 2)))
def C1e_without_tie : M D := (rd 3)
def s_without_tie : G :=
    (gseq (gex (fz (mcl fn_check_pair 3 (acons (rd 0) (acons (rd 1) (acons (rd 2) anil))))))
    (gret (mcl fn_with_row 3 (acons (rd 0) (acons (rd 1) (acons (fz (mlc 4 [3] (itA (pu (pix (pxf 0 "rows") (pd 1)))) (tgn 3) C1t_without_tie C1e_without_tie)) anil))))))
def fn_without_tie : Fn := runD 3 4 [] s_without_tie
def C1e_beside : M D := (m2 addD (rd 3) (pu (pdf 0 "size")))
def C2e_beside : M D := (m1 tupB (fz (mlc 5 [3] (itA (rd 4)) (tgn 3) (mr true) C1e_beside)))
def s_beside : G :=
    (gseq (gex (fz (mcl fn_check_many 2 (acons (m2 addD (pu (pdf 0 "size")) (pu (pdf 1 "size"))) (acons (pu (pc (.int 40))) anil)))))
    (gseq (gst 2 (mlc 5 [4] (itA (pu (pdf 1 "rows"))) (tgn 4) (mr true) C2e_beside))
    (gret (mmk 1 fn_RawTable___init__ 2 (acons (m2 addD (pu (pdf 0 "rows")) (m1 tupB (rd 2))) anil)))))
def fn_beside : Fn := runD 2 5 [] s_beside
def C1k_kept_in : M D := (rd 5)
def C1v_kept_in : M D := (rd 4)
def C2t_kept_in : M Bool := (put (tq (pdi false (px 3) (pd 5))))
def C2e_kept_in : M D := (pu (pdg (px 3) (pd 5)))
def C3e_kept_in : M D := (m1 tupB (fz (mlc 8 [5] (itA (pu (pix (pxf 0 "rows") (pd 7)))) (tgn 5) C2t_kept_in C2e_kept_in)))
def s_kept_in : G :=
    (gseq (gst 3 (mdc 8 [4, 5] (itEA (rd 2)) (tgt (tgc (tgn 4) (tgc (tgn 5) tgz))) (mr true) C1k_kept_in C1v_kept_in))
    (gseq (gst 6 (mlc 8 [7] (itA (rd 1)) (tgn 7) (mr true) C3e_kept_in))
    (gret (mmk 1 fn_RawTable___init__ 2 (acons (m1 tupB (rd 6)) anil)))))
def fn_kept_in : Fn := runD 3 8 [] s_kept_in
def s_check_some_of : G :=
    (gif (mor (mnot (tst (fz (mcl fn_is_lot_of 2 (acons (rd 1) (acons (pu (pdf 0 "size")) anil)))))) (tst (m2 eqD (pu (plen (px 1))) (pu (pc (.int 0)))))) (fun _ => none) gnx)
def fn_check_some_of : Fn := runD 2 2 [] s_check_some_of
def s_kept : G :=
    (gseq (gex (fz (mcl fn_check_some_of 2 (acons (rd 0) (acons (rd 1) anil)))))
    (gseq (gex (fz (mcl fn_check_some_of 2 (acons (rd 0) (acons (rd 2) anil)))))
    (gseq (gif (tst (m2 neD (pu (plen (px 1))) (pu (plen (px 2))))) (fun _ => none) gnx)
    (gret (mcl fn_kept_in 3 (acons (rd 0) (acons (rd 1) (acons (rd 2) anil))))))))
def fn_kept : Fn := runD 3 3 [] s_kept
def C1e_bits : M D := (pu (p2 shlD (pc (.int 1)) (pd 1)))
def s_bits : G :=
    (gret (mcb (fun ds => (sumB ds).map fun d => .fd (.val d)) (acons (fz (mlc 2 [1] (itA (rd 0)) (tgn 1) (mr true) C1e_bits)) anil)))
def fn_bits : Fn := runD 1 2 [] s_bits
def s_without : G :=
    (gret (ov (pu (p2 subD (pd 0) (p2 shlD (pc (.int 1)) (pd 1))))))
def fn_without : Fn := runD 2 2 [] s_without
def s_has : G :=
    (gret (ov (m2 eqD (pu (p2 andD (p2 shrD (pd 0) (pd 1)) (pc (.int 1)))) (pu (pc (.int 1))))))
def fn_has : Fn := runD 2 2 [] s_has
def s_least_of : G :=
    (gret (ov (pu (p2 subD (p1 bitsD (p2 andD (pd 0) (p1 negD (pd 0)))) (pc (.int 1))))))
def fn_least_of : Fn := runD 1 1 [] s_least_of
def s_Counter___init__ : G :=
    (gseq (gfs 0 "rows" [2] (ov (rd 1)))
    (gseq (gfs 0 "whole" [2] (ov (pu (p2 subD (p2 shlD (pc (.int 1)) (plen (px 1))) (pc (.int 1))))))
    (gfs 0 "known" [2] (mdd (mtup (acons (pu (pc (.int 0))) (acons (pu (pc (.int 0))) anil))) (pu (pc (.int 1)))))))
def fn_Counter___init__ : Fn := runD 2 2 [0] s_Counter___init__
def C1t_Counter_among : M Bool := (tst (fz (mcl fn_has 2 (acons (rd 2) (acons (rd 3) anil)))))
def C1e_Counter_among : M D := (rd 3)
def s_Counter_among : G :=
    (gret (mlc 4 [3] (itA (pu (pix (pxf 0 "rows") (pd 1)))) (tgn 3) C1t_Counter_among C1e_Counter_among))
def fn_Counter_among : Fn := runD 3 4 [0] s_Counter_among
def C1e_Counter_of (rf : Fn) : M D := (fz (mmt "of" 2 0 rf 3 (acons (rd 5) (acons (fz (mcl fn_without 2 (acons (rd 2) (acons (rd 6) anil)))) anil))))
def s_Counter_of (rf : Fn) : G :=
    (gseq (gst 3 (ov (mtup (acons (rd 1) (acons (rd 2) anil)))))
    (gseq (gif (put (tq (pdi true (pxf 0 "known") (pd 3)))) (gseq (gst 4 (mcl fn_least_of 1 (acons (rd 1) anil)))
    (gseq (gst 5 (mcl fn_without 2 (acons (rd 1) (acons (rd 4) anil))))
    (gdpF 0 "known" (pd 3) (fz (mcb (fun ds => (sumB ds).map fun d => .fd (.val d)) (acons (fz (mlc 7 [6] (itA (fz (mmt "among" 2 0 fn_Counter_among 3 (acons (rd 4) (acons (rd 2) anil))))) (tgn 6) (mr true) (C1e_Counter_of rf))) anil)))))) gnx)
    (gret (ov (pu (pdg (pxf 0 "known") (pd 3)))))))
def fn_Counter_of : Nat → Fn
  | 0 => runD 3 7 [0] fun _ => none
  | n + 1 => runD 3 7 [0] (s_Counter_of (fn_Counter_of n))
def s_Counter_total : G :=
    (gret (mmt "of" 2 0 (fn_Counter_of 30) 3 (acons (pu (pdf 0 "whole")) (acons (pu (pdf 0 "whole")) anil))))
def fn_Counter_total : Fn := runD 1 1 [0] s_Counter_total
def s_many_dealings : G :=
    (gret (mmtx "total" 2 (mmk 2 fn_Counter___init__ 2 (acons (pu (pdf 0 "rows")) anil)) fn_Counter_total 1 anil))
def fn_many_dealings : Fn := runD 1 1 [] s_many_dealings
def C1e_is_lot : M D := (fz (mcl fn_is_pair 1 (acons (rd 2) anil)))
def C2e_is_lot : M D := (vand (fz (mcl fn_is_person 2 (acons (rd 0) (acons (rd 3) anil)))) (fz (mcl fn_is_person 2 (acons (rd 0) (acons (rd 4) anil)))))
def s_is_lot : G :=
    (gseq (gif (mor (mnot (tst (fz (mcl fn_is_listed 1 (acons (rd 1) anil))))) (mnot (tst (fz (mcb (fun ds => (allB ds).map fun d => .fd (.val d)) (acons (fz (mlc 5 [2] (itA (rd 1)) (tgn 2) (mr true) C1e_is_lot)) anil)))))) (gret (ov (pu (pc (.bl false))))) gnx)
    (gret (mcb (fun ds => (allB ds).map fun d => .fd (.val d)) (acons (fz (mlc 5 [3, 4] (itA (rd 1)) (tgt (tgc (tgn 3) (tgc (tgn 4) tgz))) (mr true) C2e_is_lot)) anil))))
def fn_is_lot : Fn := runD 2 5 [] s_is_lot
def C1e_many_with : M D := (mtup (acons (rd 3) (acons (rd 4) anil)))
def C2e_many_with : M D := (rd 3)
def C3e_many_with : M D := (rd 4)
def C4e_many_with : M D := (pu (pin false (pd 4) (pval (pix (pxf 0 "rows") (pd 3)))))
def s_many_with : G :=
    (gseq (gif (mnot (tst (fz (mcl fn_is_lot 2 (acons (rd 0) (acons (rd 1) anil)))))) (fun _ => none) gnx)
    (gseq (gst 2 (mss (fz (mlc 8 [3, 4] (itA (rd 1)) (tgt (tgc (tgn 3) (tgc (tgn 4) tgz))) (mr true) C1e_many_with))))
    (gseq (gst 5 (mlc 8 [3, 4] (itA (rd 2)) (tgt (tgc (tgn 3) (tgc (tgn 4) tgz))) (mr true) C2e_many_with))
    (gseq (gst 6 (mlc 8 [3, 4] (itA (rd 2)) (tgt (tgc (tgn 3) (tgc (tgn 4) tgz))) (mr true) C3e_many_with))
    (gseq (gif (mor (tst (m2 ltD (m1 lenSetD (rd 5)) (pu (plen (px 2))))) (tst (m2 ltD (m1 lenSetD (rd 6)) (pu (plen (px 2)))))) (gret (ov (pu (pc (.int 0))))) gnx)
    (gseq (gif (mnot (tst (fz (mcb (fun ds => (allB ds).map fun d => .fd (.val d)) (acons (fz (mlc 8 [3, 4] (itA (rd 2)) (tgt (tgc (tgn 3) (tgc (tgn 4) tgz))) (mr true) C4e_many_with)) anil))))) (gret (ov (pu (pc (.int 0))))) gnx)
    (gseq (gst 7 (mmk 2 fn_Counter___init__ 2 (acons (pu (pdf 0 "rows")) anil)))
    (gret (mmt "of" 2 7 (fn_Counter_of 30) 3 (acons (m2 subD (pu (pdf 7 "whole")) (fz (mcl fn_bits 1 (acons (rd 5) anil)))) (acons (m2 subD (pu (pdf 7 "whole")) (fz (mcl fn_bits 1 (acons (rd 6) anil)))) anil)))))))))))
def fn_many_with : Fn := runD 2 8 [] s_many_with
def s__law_tape : G :=
    (gret (mlst (acons (fz (mcb listB (acons (rd 0) anil))) (acons (pu (pc (.int 0))) (acons (pu (pc (.int 0))) (acons (pu (pc (.int 1))) (acons (pu (pc (.int 0))) anil)))))))
def fn__law_tape : Fn := runD 1 1 [] s__law_tape
def s__law_pick : G :=
    (gseq (gif (put (tq (p2 gtD (pix (px 0) (pc (.int 2))) (pc (.int 1))))) (gseq (gst 2 (ov (pu (p2 modD (p1 int1D (pix (px 0) (pc (.int 2)))) (pd 1)))))
    (gseq (gsi 0 (pc (.int 2)) (pu (p2 divD (pix (px 0) (pc (.int 2))) (pd 1))))
    (gret (mv 2)))) gnx)
    (gseq (gsi 0 (pc (.int 4)) (pu (p2 addI (pix (px 0) (pc (.int 4))) (pc (.int 1)))))
    (gseq (gst 3 (ov (pu (pc (.int 0)))))
    (gseq (gif (put (tq (p2 ltD (pix (px 0) (pc (.int 1))) (plen (pval (pix (px 0) (pc (.int 0)))))))) (gseq (gst 3 (ov (pu (pix (pval (pix (px 0) (pc (.int 0)))) (pix (px 0) (pc (.int 1)))))))
    (gsi 0 (pc (.int 1)) (pu (p2 addI (pix (px 0) (pc (.int 1))) (pc (.int 1)))))) gnx)
    (gseq (gif (put (tq (p2 geD (pd 3) (p2 powD (pc (.int 10)) (pc (.int 18)))))) (gseq (gsi 0 (pc (.int 2)) (pu (p2 divD (pd 3) (pd 1))))
    (gret (ov (pu (p2 modD (p1 int1D (pd 3)) (pd 1)))))) gnx)
    (gseq (gst 4 (ov (pu (p2 modD (p1 int1D (p2 addI (p2 addI (p2 mulD (pix (px 0) (pc (.int 3))) (pc (.int 48271))) (p2 modD (p1 int1D (pd 3)) (pc (.int 2147483629)))) (p2 mulD (pix (px 0) (pc (.int 4))) (pc (.int 69621))))) (pc (.int 2147483647))))))
    (gseq (gst 4 (ov (pu (p2 modD (p1 int1D (p2 mulD (pd 4) (p2 addI (p2 divD (pd 4) (pc (.int 1009))) (pc (.int 40692))))) (pc (.int 2147483399))))))
    (gseq (gsi 0 (pc (.int 3)) (rd 4))
    (gret (ov (pu (p2 modD (p1 int1D (p2 divD (pd 4) (pc (.int 16)))) (pd 1)))))))))))))
def fn__law_pick : Fn := runD 2 5 [0] s__law_pick
def C1e__law_order : M D := (mme 2 popL (acons (fz (mcb1 0 fn__law_pick 2 (acons (pu (plen (px 2))) anil))) anil))
def s__law_order : G :=
    (gseq (gst 2 (mlrg (rg1 (rd 1))))
    (gret (mlc 4 [3] (itR1 (rd 1)) (tgn 3) (mr true) C1e__law_order)))
def fn__law_order : Fn := runD 2 4 [0] s__law_order
def C1t__law_loose : M Bool := (tst (m2 ltD (fz (mcb1 0 fn__law_pick 2 (acons (pu (pc (.int 5))) anil))) (rd 3)))
def C1e__law_loose : M D := (rd 8)
def L1__law_loose : G :=
    (gseq (gst 7 (mlc 9 [8] (itR1 (rd 1)) (tgn 8) C1t__law_loose C1e__law_loose))
    (gseq (gif (mand (tst (rd 4)) (put (tq (pin true (pix (px 2) (pd 6)) (px 7))))) (gex (mme 7 appL (acons (pu (pix (px 2) (pd 6))) anil))) gnx)
    (gex (mme 5 appL (acons (m1 tupB (fz (mcb sortB (acons (rd 7) anil)))) anil)))))
def s__law_loose : G :=
    (gseq (gst 2 (mcb1 0 fn__law_order 2 (acons (rd 1) anil)))
    (gseq (gst 3 (ov (m2 addD (pu (pc (.int 1))) (fz (mcb1 0 fn__law_pick 2 (acons (pu (pc (.int 4))) anil))))))
    (gseq (gst 4 (ov (m2 gtD (fz (mcb1 0 fn__law_pick 2 (acons (pu (pc (.int 4))) anil))) (pu (pc (.int 0))))))
    (gseq (gst 5 (mlst anil))
    (gseq (gfor (itR1 (rd 1)) (tgn 6) L1__law_loose)
    (gret (ov (m1 tupB (rd 5)))))))))
def fn__law_loose : Fn := runD 2 9 [0] s__law_loose
def C1t__law_blocks : M Bool := (tst (m2 neD (rd 8) (rd 6)))
def C1e__law_blocks : M D := (m2 addD (rd 3) (rd 8))
def C2t__law_blocks : M Bool := (tst (m2 eqD (fz (mcb1 0 fn__law_pick 2 (acons (pu (pc (.int 4))) anil))) (pu (pc (.int 0)))))
def C2e__law_blocks : M D := (rd 10)
def L2__law_blocks : G :=
    (gseq (gst 7 (mlrg (rg2 (rd 3) (m2 addD (rd 3) (rd 4)))))
    (gseq (gif (mand (tst (m2 eqD (rd 5) (pu (pc (.int 1))))) (put (tq (p2 gtD (pd 4) (pc (.int 2)))))) (gst 7 (mlst (acons (m2 addD (rd 3) (rd 6)) (acons (pu (p2 addI (pd 3) (p2 modD (p1 int1D (p2 addI (pd 6) (pc (.int 1)))) (pd 4)))) anil)))) gnx)
    (gseq (gif (mand (tst (m2 eqD (rd 5) (pu (pc (.int 2))))) (put (tq (p2 gtD (pd 4) (pc (.int 2)))))) (gst 7 (mlc 11 [8] (itR1 (rd 4)) (tgn 8) C1t__law_blocks C1e__law_blocks)) gnx)
    (gseq (gst 9 (mlc 11 [10] (itR1 (rd 3)) (tgn 10) C2t__law_blocks C2e__law_blocks))
    (gex (mme 2 appL (acons (m1 tupB (fz (mcb sortB (acons (m2 addD (rd 7) (rd 9)) anil)))) anil)))))))
def L1t__law_blocks : M Bool :=
    (mor (tst (m2 eqD (pu (plen (px 2))) (pu (pc (.int 0))))) (mand (put (tq (p2 ltD (plen (px 2)) (pd 1)))) (tst (m2 gtD (fz (mcb1 0 fn__law_pick 2 (acons (pu (pc (.int 3))) anil))) (pu (pc (.int 0)))))))
def L1__law_blocks : G :=
    (gseq (gst 3 (ov (pu (plen (px 2)))))
    (gseq (gst 4 (ov (m2 addD (pu (pc (.int 1))) (fz (mcb1 0 fn__law_pick 2 (acons (fz (mcb (fun ds => (minB ds).map fun d => .fd (.val d)) (acons (pu (pc (.int 4))) (acons (pu (p2 subD (pd 1) (pd 3))) anil)))) anil))))))
    (gseq (gst 5 (mcb1 0 fn__law_pick 2 (acons (pu (pc (.int 3))) anil)))
    (gfor (itR1 (rd 4)) (tgn 6) L2__law_blocks))))
def s__law_blocks : G :=
    (gseq (gst 2 (mlst anil))
    (gseq (whD L1t__law_blocks L1__law_blocks 1000)
    (gret (ov (m1 tupB (rd 2))))))
def fn__law_blocks : Fn := runD 2 11 [0] s__law_blocks
def C1e__law_moved : M D := (pu (pix (px 3) (pd 4)))
def C2e__law_moved : M D := (m1 tupB (fz (mcb sortB (acons (fz (mlc 6 [4] (itA (pu (pix (px 1) (pd 5)))) (tgn 4) (mr true) C1e__law_moved)) anil))))
def s__law_moved : G :=
    (gseq (gst 2 (mcb1 0 fn__law_order 2 (acons (pu (plen (px 1))) anil)))
    (gseq (gst 3 (mcb1 0 fn__law_order 2 (acons (pu (plen (px 1))) anil)))
    (gret (ov (m1 tupB (fz (mlc 6 [5] (itA (rd 2)) (tgn 5) (mr true) C2e__law_moved)))))))
def fn__law_moved : Fn := runD 2 6 [0] s__law_moved
def C1t__law_count : M Bool := (tst (m2 neD (rd 7) (rd 5)))
def C1e__law_count : M D := (rd 7)
def L3__law_count : G :=
    (gif (put (tq (pin false (pd 5) (px 4)))) (gseq (gst 6 (ov (m1 tupB (fz (mlc 8 [7] (itA (rd 4)) (tgn 7) C1t__law_count C1e__law_count)))))
    (gdp 3 (rd 6) (m2 addD (mdg2 3 (rd 6) (pu (pc (.int 0)))) (pu (pdg (px 1) (pd 4)))))) gnx)
def L2__law_count : G :=
    (gfor (itA (rd 2)) (tgn 5) L3__law_count)
def L1__law_count : G :=
    (gseq (gst 3 (mr (.fd (.dit []))))
    (gseq (gforK 1 (tgn 4) L2__law_count)
    (gst 1 (mv 3))))
def s__law_count : G :=
    (gseq (gst 1 (mdd (mtrg (rg1 (pu (plen (px 0))))) (pu (pc (.int 1)))))
    (gseq (gfor (itA (rd 0)) (tgn 2) L1__law_count)
    (gret (ov (mdg2 1 (mtup anil) (pu (pc (.int 0))))))))
def fn__law_count : Fn := runD 1 8 [] s__law_count
def C1e__law_drawn : M D := (mtrg (rg1 (rd 1)))
def C2t__law_drawn : M Bool := (tst (m2 neD (rd 4) (rd 3)))
def C2e__law_drawn : M D := (rd 4)
def C3e__law_drawn : M D := (m1 tupB (fz (mlc 5 [4] (itR1 (rd 1)) (tgn 4) C2t__law_drawn C2e__law_drawn)))
def s__law_drawn : G :=
    (gseq (gst 1 (ov (m2 addD (m2 addD (pu (pc (.int 7))) (fz (mcb1 0 fn__law_pick 2 (acons (pu (pc (.int 2))) anil)))) (m1 int1D (m2 eqD (fz (mcb1 0 fn__law_pick 2 (acons (pu (pc (.int 10))) anil))) (pu (pc (.int 0))))))))
    (gseq (gst 2 (mcb1 0 fn__law_pick 2 (acons (pu (pc (.int 4))) anil)))
    (gseq (gif (tst (m2 eqD (rd 2) (pu (pc (.int 0))))) (gret (ov (m1 tupB (fz (mlc 5 [3] (itR1 (rd 1)) (tgn 3) (mr true) C1e__law_drawn))))) gnx)
    (gseq (gif (tst (m2 eqD (rd 2) (pu (pc (.int 1))))) (gret (ov (m1 tupB (fz (mlc 5 [3] (itR1 (rd 1)) (tgn 3) (mr true) C3e__law_drawn))))) gnx)
    (gseq (gif (tst (m2 eqD (rd 2) (pu (pc (.int 2))))) (gret (mcb1 0 fn__law_moved 2 (acons (fz (mcb1 0 fn__law_blocks 2 (acons (pu (pc (.int 12))) anil))) anil))) gnx)
    (gret (mcb1 0 fn__law_loose 2 (acons (rd 1) anil))))))))
def fn__law_drawn : Fn := runD 1 5 [0] s__law_drawn
def C1t_law : M Bool := (tst (m2 (neA eqCl eqNf fn_Table___eq__) (rd 8) (rd 6)))
def C1e_law : M D := (rd 8)
def C2t_law : M Bool := (tst (m2 (neA eqCl eqNf fn_Table___eq__) (rd 8) (rd 10)))
def C2e_law : M D := (rd 8)
def L1_law : G :=
    (gseq (gst 11 (ov (pu (pc (.int 1)))))
    (gseq (gif (put (tq (p2 gtD (pd 4) (pc (.int 1))))) (gst 11 (mcl fn_many_dealings 1 (acons (fz (mcl fn_kept 3 (acons (rd 3) (acons (rd 7) (acons (m1 tupB (fz (mlc 13 [8] (itR1 (rd 4)) (tgn 8) C2t_law C2e_law))) anil))))) anil))) gnx)
    (gseq (gif (tst (m2 (neA eqCl eqNf fn_Table___eq__) (fz (mcl fn_many_with 2 (acons (rd 3) (acons (mtup (acons (mtup (acons (rd 6) (acons (rd 10) anil))) anil)) anil)))) (rd 11))) (gret (ov (pu (pc (.bl false))))) gnx)
    (gst 9 (ov (m2 addD (rd 9) (rd 11)))))))
def s_law : G :=
    (gseq (gst 1 (mcl fn__law_tape 1 (acons (rd 0) anil)))
    (gseq (gst 2 (mcb1 1 fn__law_drawn 1 anil))
    (gseq (gst 3 (mmk 0 fn_Table___init__ 2 (acons (rd 2) anil)))
    (gseq (gst 4 (ov (pu (plen (px 2)))))
    (gseq (gst 5 (mcl fn__law_count 1 (acons (rd 2) anil)))
    (gseq (gif (tst (m2 (neA eqCl eqNf fn_Table___eq__) (fz (mcl fn_many_dealings 1 (acons (rd 3) anil))) (rd 5))) (gret (ov (pu (pc (.bl false))))) gnx)
    (gseq (gst 6 (mcb1 1 fn__law_pick 2 (acons (rd 4) anil)))
    (gseq (gst 7 (ov (m1 tupB (fz (mlc 13 [8] (itR1 (rd 4)) (tgn 8) C1t_law C1e_law)))))
    (gseq (gst 9 (ov (pu (pc (.int 0)))))
    (gseq (gfor (itA (pu (pix (px 2) (pd 6)))) (tgn 10) L1_law)
    (gseq (gif (tst (m2 (neA eqCl eqNf fn_Table___eq__) (rd 9) (rd 5))) (gret (ov (pu (pc (.bl false))))) gnx)
    (gseq (gst 10 (mcb1 1 fn__law_pick 2 (acons (rd 4) anil)))
    (gseq (gst 12 (mcl fn_with_tie 3 (acons (rd 3) (acons (rd 6) (acons (rd 10) anil)))))
    (gseq (gif (tst (m2 (neA eqCl eqNf fn_Table___eq__) (fz (mcl fn_many_dealings 1 (acons (rd 12) anil))) (m2 addD (fz (mcl fn_many_dealings 1 (acons (fz (mcl fn_without_tie 3 (acons (rd 3) (acons (rd 6) (acons (rd 10) anil))))) anil))) (fz (mcl fn_many_with 2 (acons (rd 12) (acons (fz (mlst (acons (mtup (acons (rd 6) (acons (rd 10) anil))) anil))) anil))))))) (gret (ov (pu (pc (.bl false))))) gnx)
    (gret (ov (m2 (eqA eqCl eqNf fn_Table___eq__) (fz (mcl fn_many_dealings 1 (acons (fz (mcl fn_beside 2 (acons (rd 3) (acons (rd 3) anil)))) anil))) (pu (p2 mulD (pd 5) (pd 5))))))))))))))))))))
def fn_law : Fn := runD 1 13 [] s_law
end k14

namespace k14
open PySem PySem.Spec PyProof.Rows L2 DL
section
local macro_rules | `(tactic| walk_at "ev") => `(tactic| try simp -implicitDefEqProofs (disch := first | assumption | decide | omega | (simp only [List.length_map, List.length_append, List.length_cons, List.length_nil, DL.rgL_len, DL.rgN_len, List.length_range, List.length_take, List.length_drop, List.length_set, List.length_zip, List.length_zipIdx, List.length_singleton]; omega)) only [DL.runD_k, DL.rdk_nx, DL.rdk_rt, DL.mbk_some, DL.mb_k, DL.mo_s, DL.mr_s, DL.pu_s, DL.put_s, DL.ite_e, DL.iteG_e, DL.mif_k, DL.tst_k, DL.m1_k, DL.m2_k, DL.mch_k, DL.fz_k, DL.fzk_s, DL.ov_k, DL.ovk_s,
  DL.frz_v, DL.frz_l, DL.frz_k, DL.frz_t, DL.frz_o, DL.frzF_v, DL.frzF_l, DL.frzF_k, DL.frzF_t, DL.vand_k, DL.vor_k, DL.vnot_k, DL.mand_k, DL.mor_k, DL.mnot_k, DL.anil_s, DL.acons_k, DL.mtup_k, DL.mlst_k, DL.mcb_k, DL.mss_k, DL.mssI_k, DL.mclT_k, DL.mclTx_s, DL.mclTy_b, DL.lc2T_k, DL.lc2A_s, DL.lc2B_s, DL.lc2C_s, DL.mlc2_k, DL.lck2_s, DL.mix_k, DL.minx_k, DL.msl_k, DL.mslk_s,
  DL.rg1_k, DL.rg2_k, DL.mlrg_k, DL.mtrg_k, DL.itR1_k, DL.rngA_s, DL.rngB_s,  DL.itR2_k, DL.itA_k, DL.itEA_k, DL.itZ_k, DL.rd_k, DL.rdx_v, DL.rdx_l, DL.rdx_k, DL.rdx_t, DL.rdx_o, DL.mv_k, DL.mvx_s, DL.pd_k, DL.pdx_s, DL.px_k, DL.pxx_s, DL.ls_k, DL.lsx_s, DL.pxf_k, DL.pfx_o, DL.pfx_v, DL.pdf_k, DL.fdv_v,
  DL.pc_s, DL.pval_s, DL.p1_s, DL.p2_s, DL.pch_s, DL.tq_s, DL.pin_s, DL.pix_s, DL.plen_s, DL.ptI_s, DL.toB_s, DL.toI_s, DL.subD_s, DL.addI_s, DL.addD_i, DL.addD_t, DL.addD_l, DL.ltD_s, DL.leD_s, DL.gtD_s, DL.geD_s, DL.mulD_fm, DL.mulD_l, DL.mulD_r, DL.divD_s, DL.modD_s, DL.powD_s, DL.shlD_s, DL.shrD_s, DL.andD_s, DL.negD_s, DL.int1D_s, DL.int1D_b, DL.szc_s,
  DL.isnD_n, DL.isnD_i, DL.isnD_t, DL.nonD_n, DL.nonD_i, DL.nonD_t, DL.tupB_l, DL.tupB_t, DL.listB_l, DL.listB_t, DL.listB_s, DL.itF_vt, DL.itF_vl, DL.itF_l, DL.lenF_vt, DL.lenF_vl, DL.lenF_l, DL.slD_t, DL.slD_l, DL.fldD_s, DL.minB_s, DL.maxB_s, DL.absB_s,
  DL.gseq_k, DL.gk_nx, DL.gk_rt, DL.gk_bk, DL.gk_ct, DL.gnx_s, DL.gret_k, DL.grk_s, DL.gif_k, DL.gik_t, DL.gik_f, DL.gik_s, DL.gex_k, DL.gxk_s, DL.gst_k, DL.gsk_s, DL.gtg_k, DL.gtk_s, DL.tgn_s, DL.tgt_s, DL.tgc_s, DL.tgz_s, DL.gpar_k, DL.gpk_s, DL.gaug_k, DL.gak_s, DL.mme_k, DL.mek_s, DL.appL_s, DL.extL_s, DL.extT_l, DL.extT_t, DL.gsi_k, DL.sik_s, DL.gfor_k, DL.gfk_s, DL.mlc_k, DL.pdg_s, DL.pdi_s, DL.mdi_k, DL.mdg_k, DL.mdgx_s, DL.gdp_k, DL.gdpk_s, DL.gdpx_s, DL.gdpy_s, DL.dputO_k, DL.dpx_k, DL.dpx_t, DL.gdpF_k, DL.gfpk_s, DL.dputF_k, DL.dfx_s, DL.dputG_k, DL.dgx_k, DL.dgx_t, DL.toK_i, DL.toTK_2, DL.toTK_0, DL.toTK_n, DL.dgF_tn, DL.dgF_ln, DL.dgF_t0, DL.gforK_k, DL.gfkx_t, DL.mdg2_k, DL.dg2x_t, DL.dg2x_k, DL.dgF_k, DL.dgF_vk, DL.dgF_t, DL.dgF_vt, DL.mdd_k, DL.mrev_k, DL.revL_s, DL.mrevA_k, DL.revA_l, DL.revA_t, DL.bitsD_s, DL.lenSetD_s, DL.gtg2_k, DL.gt2k_s, DL.mmtx_k, DL.mddk_k, DL.mclx_k, DL.isBD_s, DL.thaw_l, DL.thaw_v, DL.onlyB_s, DL.pcL_s, DL.pisL_s, DL.mixS_k, DL.mixSx_s, DL.isB2_l, DL.isB2_t, DL.isiB_lt, DL.isiB_tl, DL.join_s, Option.isSome_some, Option.isSome_none,  DL.mapT_snoc2, DL.eqD_tp, DL.neD_tp,  DL.eqD_ti, DL.neD_ti, DL.eqD_li, DL.neD_li, DL.eqD_tt, DL.neD_tt, DL.eqD_lt, DL.neD_lt, DL.eqA_i, DL.eqA_t, DL.eqA_l, DL.eqA_n, DL.eqA_s, DL.eqA_b, DL.neA_i, DL.neA_t, DL.neA_l, DL.neA_n, DL.neA_s, DL.neA_b,  ← List.map_drop, ← List.map_take, DL.enD_eq,  DL.isiB_ii, DL.isiB_ib, DL.isiB_tt, DL.isiB_ll, DL.isiB_bb, DL.isiC_o, DL.zpD_int, DL.allB_m, DL.anyB_m, DL.cutD_1, DL.cutD_to, DL.cutD_from, DL.cutD_from1,  DL.mapI_snoc, DL.mapI_app, DL.mapT_snoc, DL.mapT_app,  DL.sortB_s, DL.inD_vl, DL.inD_l, DL.inD_vt, DL.inD_ti, DL.eqD_int, DL.neD_int,  DL.cbk_k, DL.cb2_s, DL.cbx_s, DL.clk_k, DL.clx_s, DL.mkk_k, DL.mkx_s,  DL.popL_s, DL.rgC_s,  DL.lck_s, DL.lc1_k, DL.lcA_s, DL.lcB_s, DL.lcC_s, DL.wipeE_nil, DL.wipeE_cons, DL.restE_nil, DL.restE_cons, DL.valOnly_k, DL.for1_k, DL.forA_s, DL.wh1_k, DL.whB_s, 
  DL.mcl_k, DL.mcb1_k, DL.c1k_s, DL.mmt_k, DL.mtk_s, DL.mmk_k, DL.gfs_k, DL.fsk_s, DL.ixF_l, DL.ixF_vl, DL.ixF_vt, DL.ixF_vs, DL.atI_n, DL.atI_s, DL.ixN_n, DL.ixN_s, DL.outA_k, DL.outB_nil, DL.outB_cons, DL.vox_v, DL.vox_l, DL.vox_o, DL.vox_n, DL.join_s, DL.vals_nil, DL.vals_cons, List.length_map, List.length_append,  DL.fsx_s, DL.putG_nil, DL.putG_ne, DL.putG_eq, DL.noM_o, DL.noM_v, DL.lk_nil, DL.lk_eq, DL.lk_ne, List.map_cons, List.map_nil, Option.isNone_none, Option.isNone_some, Bool.and_true, Bool.true_and, Bool.and_false, Bool.false_and, Bool.or_true, Bool.true_or, Bool.or_false, Bool.false_or, List.contains_cons, List.contains_nil, Nat.reduceBEq, Nat.reduceEqDiff, Nat.reduceLeDiff, and_true, true_and, and_self, eq_self, BEq.rfl, Bool.true_eq_false, Bool.false_eq_true, 
  Option.bind_some, Option.map_some, Option.bind_none, Option.map_none, List.cons_append, List.nil_append, List.length_cons, List.length_nil, List.getElem?_cons_zero, List.getElem?_cons_succ, List.getElem?_nil, List.set_cons_zero, List.set_cons_succ, List.replicate_succ, List.replicate_zero, Nat.reduceAdd, Int.reduceToNat, Int.toNat_natCast, Nat.reduceSub, Nat.reduceLT, if_true, if_false, decide_eq_true_eq, Bool.not_eq_true', decide_eq_false_iff_not, ite_not, not_false_eq_true, not_true_eq_false, Int.zero_add,  decide_true, decide_false, Bool.not_true, Bool.not_false, ite_true, ite_false, reduceCtorEq])

local macro_rules | `(tactic| walk_at "evc") => `(tactic| try simp -implicitDefEqProofs (disch := first | assumption | decide | omega | (simp only [List.length_map, List.length_append, List.length_cons, List.length_nil, DL.rgL_len, DL.rgN_len, List.length_range, List.length_take, List.length_drop, List.length_set, List.length_zip, List.length_zipIdx, List.length_singleton]; omega)) only [DL.runD_k, DL.rdk_nx, DL.rdk_rt, DL.mbk_some, DL.mb_k, DL.mo_s, DL.mr_s, DL.pu_s, DL.put_s, DL.ite_e, DL.iteG_e, DL.mif_k, DL.tst_k, DL.m1_k, DL.m2_k, DL.mch_k, DL.fz_k, DL.fzk_s, DL.ov_k, DL.ovk_s,
  DL.frz_v, DL.frz_l, DL.frz_k, DL.frz_t, DL.frz_o, DL.frzF_v, DL.frzF_l, DL.frzF_k, DL.frzF_t, DL.vand_k, DL.vor_k, DL.vnot_k, DL.mand_k, DL.mor_k, DL.mnot_k, DL.anil_s, DL.acons_k, DL.mtup_k, DL.mlst_k, DL.mcb_k, DL.mss_k, DL.mssI_k, DL.mclT_k, DL.mclTx_s, DL.mclTy_b, DL.lc2T_k, DL.lc2A_s, DL.lc2B_s, DL.lc2C_s, DL.mlc2_k, DL.lck2_s, DL.mix_k, DL.minx_k, DL.msl_k, DL.mslk_s,
  DL.rg1_k, DL.rg2_k, DL.mlrg_k, DL.mtrg_k, DL.itR1_k, DL.rngA_s, DL.rngB_s,  DL.itR2_k, DL.itA_k, DL.itEA_k, DL.itZ_k, DL.rd_k, DL.rdx_v, DL.rdx_l, DL.rdx_k, DL.rdx_t, DL.rdx_o, DL.mv_k, DL.mvx_s, DL.pd_k, DL.pdx_s, DL.px_k, DL.pxx_s, DL.ls_k, DL.lsx_s, DL.pxf_k, DL.pfx_o, DL.pfx_v, DL.pdf_k, DL.fdv_v,
  DL.pc_s, DL.pval_s, DL.p1_s, DL.p2_s, DL.pch_s, DL.tq_s, DL.pin_s, DL.pix_s, DL.plen_s, DL.ptI_s, DL.toB_s, DL.toI_s, DL.subD_s, DL.addI_s, DL.addD_i, DL.addD_t, DL.addD_l, DL.ltD_s, DL.leD_s, DL.gtD_s, DL.geD_s, DL.mulD_fm, DL.mulD_l, DL.mulD_r, DL.divD_s, DL.modD_s, DL.powD_s, DL.shlD_s, DL.shrD_s, DL.andD_s, DL.negD_s, DL.int1D_s, DL.int1D_b, DL.szc_s,
  DL.isnD_n, DL.isnD_i, DL.isnD_t, DL.nonD_n, DL.nonD_i, DL.nonD_t, DL.tupB_l, DL.tupB_t, DL.listB_l, DL.listB_t, DL.listB_s, DL.itF_vt, DL.itF_vl, DL.itF_l, DL.lenF_vt, DL.lenF_vl, DL.lenF_l, DL.slD_t, DL.slD_l, DL.fldD_s, DL.minB_s, DL.maxB_s, DL.absB_s,
  DL.gseq_k, DL.gk_nx, DL.gk_rt, DL.gk_bk, DL.gk_ct, DL.gnx_s, DL.gret_k, DL.grk_s, DL.gif_k, DL.gik_t, DL.gik_f, DL.gik_s, DL.gex_k, DL.gxk_s, DL.gst_k, DL.gsk_s, DL.gtg_k, DL.gtk_s, DL.tgn_s, DL.tgt_s, DL.tgc_s, DL.tgz_s, DL.gpar_k, DL.gpk_s, DL.gaug_k, DL.gak_s, DL.mme_k, DL.mek_s, DL.appL_s, DL.extL_s, DL.extT_l, DL.extT_t, DL.gsi_k, DL.sik_s, DL.gfor_k, DL.gfk_s, DL.mlc_k, DL.pdg_s, DL.pdi_s, DL.mdi_k, DL.mdg_k, DL.mdgx_s, DL.gdp_k, DL.gdpk_s, DL.gdpx_s, DL.gdpy_s, DL.dputO_k, DL.dpx_k, DL.dpx_t, DL.gdpF_k, DL.gfpk_s, DL.dputF_k, DL.dfx_s, DL.dputG_k, DL.dgx_k, DL.dgx_t, DL.toK_i, DL.toTK_2, DL.toTK_0, DL.toTK_n, DL.dgF_tn, DL.dgF_ln, DL.dgF_t0, DL.gforK_k, DL.gfkx_t, DL.mdg2_k, DL.dg2x_t, DL.dg2x_k, DL.dgF_k, DL.dgF_vk, DL.dgF_t, DL.dgF_vt, DL.mdd_k, DL.mrev_k, DL.revL_s, DL.mrevA_k, DL.revA_l, DL.revA_t, DL.bitsD_s, DL.lenSetD_s, DL.gtg2_k, DL.gt2k_s, DL.mmtx_k, DL.mddk_k, DL.mclx_k, DL.isBD_s, DL.thaw_l, DL.thaw_v, DL.onlyB_s, DL.pcL_s, DL.pisL_s, DL.mixS_k, DL.mixSx_s, DL.isB2_l, DL.isB2_t, DL.isiB_lt, DL.isiB_tl, DL.join_s, Option.isSome_some, Option.isSome_none,  DL.mapT_snoc2, DL.eqD_tp, DL.neD_tp,  DL.eqD_ti, DL.neD_ti, DL.eqD_li, DL.neD_li, DL.eqD_tt, DL.neD_tt, DL.eqD_lt, DL.neD_lt, DL.eqA_i, DL.eqA_t, DL.eqA_l, DL.eqA_n, DL.eqA_s, DL.eqA_b, DL.neA_i, DL.neA_t, DL.neA_l, DL.neA_n, DL.neA_s, DL.neA_b,  ← List.map_drop, ← List.map_take, DL.enD_eq,  DL.isiB_ii, DL.isiB_ib, DL.isiB_tt, DL.isiB_ll, DL.isiB_bb, DL.isiC_o, DL.zpD_int, DL.allB_m, DL.anyB_m, DL.cutD_1, DL.cutD_to, DL.cutD_from, DL.cutD_from1,  DL.mapI_snoc, DL.mapI_app, DL.mapT_snoc, DL.mapT_app,  DL.sortB_s, DL.inD_vl, DL.inD_l, DL.inD_vt, DL.inD_ti, DL.eqD_int, DL.neD_int,  DL.cbk_k, DL.cb2_s, DL.cbx_s, DL.clk_k, DL.clx_s, DL.mkk_k, DL.mkx_s,  DL.popL_s, DL.rgC_s,  DL.lck_s, DL.lc1_k, DL.lcA_s, DL.lcB_s, DL.lcC_s, DL.wipeE_nil, DL.wipeE_cons, DL.restE_nil, DL.restE_cons, DL.valOnly_k, DL.for1_k, DL.forA_s, DL.wh1_k, DL.whB_s, 
  DL.mcl_k, DL.mcb1_k, DL.c1k_s, DL.mmt_k, DL.mtk_s, DL.mmk_k, DL.gfs_k, DL.fsk_s, DL.ixF_l, DL.ixF_vl, DL.ixF_vt, DL.ixF_vs, DL.atI_n, DL.atI_s, DL.ixN_n, DL.ixN_s, DL.outA_k, DL.outB_nil, DL.outB_cons, DL.vox_v, DL.vox_l, DL.vox_o, DL.vox_n, DL.join_s, DL.vals_nil, DL.vals_cons, List.length_map, List.length_append,  DL.fsx_s, DL.putG_nil, DL.putG_ne, DL.putG_eq, DL.noM_o, DL.noM_v, DL.lk_nil, DL.lk_eq, DL.lk_ne, List.map_cons, List.map_nil, Option.isNone_none, Option.isNone_some, Bool.and_true, Bool.true_and, Bool.and_false, Bool.false_and, Bool.or_true, Bool.true_or, Bool.or_false, Bool.false_or, List.contains_cons, List.contains_nil, Nat.reduceBEq, Nat.reduceEqDiff, Nat.reduceLeDiff, and_true, true_and, and_self, eq_self, BEq.rfl, Bool.true_eq_false, Bool.false_eq_true, 
  Option.bind_some, Option.map_some, Option.bind_none, Option.map_none, List.cons_append, List.nil_append, List.length_cons, List.length_nil, List.getElem?_cons_zero, List.getElem?_cons_succ, List.getElem?_nil, List.set_cons_zero, List.set_cons_succ, List.replicate_succ, List.replicate_zero, Nat.reduceAdd, Int.reduceToNat, Int.toNat_natCast, Nat.reduceSub, Nat.reduceLT, if_true, if_false, decide_eq_true_eq, Bool.not_eq_true', decide_eq_false_iff_not, ite_not, not_false_eq_true, not_true_eq_false, Int.zero_add,  decide_true, decide_false, Bool.not_true, Bool.not_false, ite_true, ite_false, reduceCtorEq, if_pos, if_neg])

theorem tape_ok (ns : List Int) : fn__law_tape [vv (.scr ns)] = some (.fd (.lst (tapeD ns 0 0 1 0)), [vv (.scr ns)]) := by
  unfold fn__law_tape s__law_tape tapeD
  walk_at "ev"
theorem pick_ok {t : List D} {n : Int} (ht : Tape t) (h1 : 0 < n) (h2 : n < 1073741824) :
    ∃ r t', fn__law_pick [vl t, vv (.int n)] = some (.fd (.val (.int r)), [vl t', vv (.int n)]) ∧ Tape t' ∧ 0 ≤ r ∧ r < n := by
  obtain ⟨ns, a, b, c, d, rfl, ha⟩ := ht
  unfold fn__law_pick s__law_pick tapeD
  walk_at "ev"
  by_cases hb : 1 < b
  · refine ⟨b.fmod n, _, ?_, ⟨ns, a, b.fdiv n, c, d, rfl, ha⟩, Int.fmod_nonneg_of_pos _ h1, Int.fmod_lt_of_pos _ h1⟩
    walk_at "evc"
    rfl
  · walk_at "evc"
    by_cases hl : a < (ns.length : Int)
    · have hx : (ns.map D.int)[a.toNat]? = some (.int (ns[a.toNat]'(by omega))) := by
        rw [List.getElem?_map, List.getElem?_eq_getElem (by omega)]; rfl
      generalize ns[a.toNat]'(by omega) = x at hx
      walk_at "evc"
      rw [hx]
      walk_at "evc"
      by_cases hg : (10 : Int) ^ 18 ≤ x
      · refine ⟨x.fmod n, _, ?_, ⟨ns, a + 1, x.fdiv n, c, d + 1, rfl, by omega⟩, Int.fmod_nonneg_of_pos _ h1, Int.fmod_lt_of_pos _ h1⟩
        walk_at "evc"
        rfl
      · walk_at "evc"
        exact ⟨_, _, rfl, ⟨ns, a + 1, b, _, d + 1, rfl, by omega⟩, Int.fmod_nonneg_of_pos _ h1, Int.fmod_lt_of_pos _ h1⟩
    · walk_at "evc"
      exact ⟨_, _, rfl, ⟨ns, a, b, _, d + 1, rfl, ha⟩, Int.fmod_nonneg_of_pos _ h1, Int.fmod_lt_of_pos _ h1⟩

theorem order_ok {t : List D} {n : Nat} (ht : Tape t) (hn : n ≤ 1000) :
    ∃ (p : List Int) (t' : List D), fn__law_order [vl t, vv (.int (n : Int))] = some (.fd (.lst (p.map .int)), [vl t', vv (.int (n : Int))]) ∧ Tape t' ∧ p.Perm (rgL 0 n) := by
  unfold fn__law_order s__law_order
  walk_at "evc"
  obtain ⟨out, e', h, t', ys, xs, rfl, rfl, ht', hp, hl⟩ := lcD_inv (vs := [3]) (tg := tgn 3) (ft := mr true) (fe := C1e__law_order)
    (fun i acc e => ∃ t ys xs, e = [vl t, vv (.int (n : Int)), vl (xs.map .int), none] ∧ acc = ys.map D.int ∧ Tape t ∧ (ys ++ xs).Perm (rgL 0 n) ∧ ys.length = i)
    (ds := rgN 0 n) (e := [vl t, vv (.int (n : Int)), vl ((rgL 0 n).map .int), none]) ⟨t, [], rgL 0 n, rfl, rfl, ht, List.Perm.refl _, rfl⟩ (by rw [rgN_len]; omega) (by
    rintro i d acc e hd ⟨t, ys, xs, rfl, rfl, ht, hp, hl⟩
    obtain ⟨hi, rfl⟩ := rgN_at0 hd
    have hl2 : ys.length + xs.length = n := by
      have := hp.length_eq
      rw [List.length_append, rgL_len] at this
      omega
    obtain ⟨r, t', h1, ht', h2, h3⟩ := pick_ok (n := (xs.length : Int)) ht (by omega) (by omega)
    unfold C1e__law_order
    walk_at "evc"
    rw [h1]
    walk_at "evc"
    have hx : (xs.map D.int)[r.toNat]? = some (.int (xs[r.toNat]'(by omega))) := by
      rw [List.getElem?_map, List.getElem?_eq_getElem (by omega)]; rfl
    walk_at "evc"
    rw [hx]
    walk_at "evc"
    refine ⟨_, _, rfl, t', ys ++ [xs[r.toNat]'(by omega)], xs.eraseIdx r.toNat, by rw [DL.map_eraseIdx], by simp, ht', ?_, by simp [hl]⟩
    refine List.Perm.trans ?_ hp
    rw [List.append_assoc]
    refine List.Perm.append_left _ ?_
    exact perm_erase (by omega)
    )
  rw [h]
  walk_at "evc"
  refine ⟨ys, t', rfl, ht', ?_⟩
  rw [rgN_len] at hl
  have h2 := hp.length_eq
  rw [List.length_append, rgL_len] at h2
  have : xs = [] := List.length_eq_zero_iff.mp (by omega)
  rw [this, List.append_nil] at hp
  exact hp

theorem loose_ok {t : List D} {n : Nat} (ht : Tape t) (hn : n ≤ 100) :
    ∃ (rs : List (List Int)) (t' : List D), fn__law_loose [vl t, vv (.int (n : Int))] = some (.fd (.val (rowsD rs)), [vl t', vv (.int (n : Int))]) ∧ Tape t' ∧ rs.length = n ∧ Rows rs := by
  unfold fn__law_loose s__law_loose
  obtain ⟨p, t1, h1, ht1, hp⟩ := order_ok (n := n) ht (by omega)
  walk_at "evc"
  rw [h1]
  obtain ⟨k, t2, h2, ht2, hk0, hk1⟩ := pick_ok (n := 4) ht1 (by omega) (by omega)
  walk_at "evc"
  rw [h2]
  obtain ⟨k', t3, h3, ht3, hk0', hk1'⟩ := pick_ok (n := 4) ht2 (by omega) (by omega)
  walk_at "evc"
  rw [h3]
  walk_at "evc"
  obtain ⟨e', h, t4, rs, x, y, rfl, ht4, hl, hr⟩ := forD_go (tg := tgn 6) (body := L1__law_loose)
    (fun i e => ∃ t rs x y, e = [vl t, vv (.int (n : Int)), vl (p.map .int), vv (.int (1 + k)), vv (.bl (decide (0 < k'))), vl (rs.map tupI), x, y, none] ∧ Tape t ∧ rs.length = i ∧ ∀ r ∈ rs, Row n r)
    (ds := rgN 0 n) (e := [vl t3, vv (.int (n : Int)), vl (p.map .int), vv (.int (1 + k)), vv (.bl (decide (0 < k'))), vl [], none, none, none]) ⟨t3, [], none, none, rfl, ht3, rfl, fun r hr => absurd hr (by simp)⟩ (by
    rintro i d e hd ⟨t, rs, x, y, rfl, ht, hl, hr⟩
    obtain ⟨hi, rfl⟩ := rgN_at0 hd
    unfold L1__law_loose
    walk_at "evc"
    obtain ⟨out, e1, h4, t5, ys, rfl, rfl, ht5, hy1, hy2⟩ := lcD_inv (vs := [8]) (tg := tgn 8) (ft := C1t__law_loose) (fe := C1e__law_loose)
      (fun j acc e => ∃ (t : List D) (ys : List Int), e = [vl t, vv (.int (n : Int)), vl (p.map .int), vv (.int (1 + k)), vv (.bl (decide (0 < k'))), vl (rs.map tupI), vv (.int (i : Nat)), y, none] ∧ acc = ys.map D.int ∧ Tape t ∧ ys.Pairwise (· < ·) ∧ ∀ x ∈ ys, 0 ≤ x ∧ x < j)
      (ds := rgN 0 n) (e := [vl t, vv (.int (n : Int)), vl (p.map .int), vv (.int (1 + k)), vv (.bl (decide (0 < k'))), vl (rs.map tupI), vv (.int (i : Nat)), y, none]) ⟨t, [], rfl, rfl, ht, List.Pairwise.nil, fun x hx => absurd hx (by simp)⟩ (by rw [rgN_len]; omega) (by
      rintro j d acc e hd ⟨t, ys, rfl, rfl, ht, h1, h2⟩
      obtain ⟨hj, rfl⟩ := rgN_at0 hd
      obtain ⟨q, t', h3, ht', hq0, hq1⟩ := pick_ok (n := 5) ht (by omega) (by omega)
      unfold C1t__law_loose C1e__law_loose
      walk_at "evc"
      rw [h3]
      by_cases c : q < 1 + k
      · walk_at "evc"
        exact ⟨_, _, rfl, t', ys ++ [(j : Int)], rfl, by simp, ht', List.pairwise_append.mpr ⟨h1, List.pairwise_singleton _ _, fun a ha b hb => by simp at hb; have := h2 a ha; omega⟩, fun x hx => by
          rcases List.mem_append.mp hx with hx | hx
          · have := h2 x hx; omega
          · simp at hx; omega⟩
      · walk_at "evc"
        exact ⟨_, _, rfl, t', ys, rfl, by simp, ht', h1, fun x hx => by have := h2 x hx; omega⟩)
    rw [h4]
    rw [rgN_len] at hy2
    obtain ⟨hpl, hpn, hpm⟩ := perm_rg hp
    obtain ⟨q, hq, _, hqx⟩ := mapI_at (p := p) (i := i) (by omega)
    have hqb := (hpm q).mp hq
    have fin : ∀ zs : List Int, zs.Nodup → (∀ x ∈ zs, 0 ≤ x ∧ x < (n : Int)) → ∀ r ∈ rs ++ [isort zs], Row n r := fun zs h1 h2 r hx => by
      rcases List.mem_append.mp hx with hx | hx
      · exact hr r hx
      · rw [List.mem_singleton.mp hx]; exact row_sort h1 h2
    have ynd : ys.Nodup := hy1.imp fun h => by omega
    have yln : ys.length ≤ n := Row.len ⟨hy1, hy2⟩
    by_cases c1 : 0 < k'
    · walk_at "evc"
      rw [hqx]
      by_cases c2 : q ∈ ys
      · walk_at "evc"
        exact ⟨_, rfl, t5, rs ++ [isort ys], _, _, rfl, ht5, by simp [hl], fin ys ynd hy2⟩
      · walk_at "evc"
        rw [hqx]
        walk_at "evc"
        exact ⟨_, rfl, t5, rs ++ [isort (ys ++ [q])], _, _, rfl, ht5, by simp [hl], fin _ (List.nodup_append.mpr ⟨ynd, by simp, fun a ha b hb => by simp at hb; subst hb; exact fun e => c2 (e ▸ ha)⟩) fun x hx => by
          rcases List.mem_append.mp hx with hx | hx
          · exact hy2 x hx
          · rw [List.mem_singleton.mp hx]; exact hqb⟩
    · walk_at "evc"
      exact ⟨_, rfl, t5, rs ++ [isort ys], _, _, rfl, ht5, by simp [hl], fin ys ynd hy2⟩)
  rw [h]
  walk_at "evc"
  rw [rgN_len] at hl
  exact ⟨rs, t4, rfl, ht4, hl, ⟨by rw [hl]; exact hr⟩⟩

theorem blocks2 {t : List D} {most base size kind : Int} {rs : List (List Int)} {x6 x7 x9 : Option Od} (ht : Tape t) (hb0 : 0 ≤ base) (hb1 : base ≤ 1000) (hs0 : 1 ≤ size) (hs1 : size ≤ 4)
    (hl : (rs.length : Int) = base) (hr : ∀ r ∈ rs, r.Pairwise (· < ·) ∧ ∀ x ∈ r, 0 ≤ x ∧ x < base) :
    ∃ e', forD (tgn 6) L2__law_blocks (rgN 0 size.toNat) [vl t, vv (.int most), vl (rs.map tupI), vv (.int base), vv (.int size), vv (.int kind), x6, x7, none, x9, none] = some (.nx, e') ∧
      ∃ (t : List D) (rs : List (List Int)) (x6 x7 x9 : Option Od), e' = [vl t, vv (.int most), vl (rs.map tupI), vv (.int base), vv (.int size), vv (.int kind), x6, x7, none, x9, none] ∧ Tape t ∧ (rs.length : Int) = base + size ∧ ∀ r ∈ rs, r.Pairwise (· < ·) ∧ ∀ x ∈ r, 0 ≤ x ∧ x < base + size := by
  obtain ⟨e', h, t, rs, x6, x7, x9, rfl, ht, hl, hr⟩ := forD_go (tg := tgn 6) (body := L2__law_blocks)
    (fun i e => ∃ (t : List D) (rs : List (List Int)) (x6 x7 x9 : Option Od), e = [vl t, vv (.int most), vl (rs.map tupI), vv (.int base), vv (.int size), vv (.int kind), x6, x7, none, x9, none] ∧ Tape t ∧ (rs.length : Int) = base + i ∧ ∀ r ∈ rs, r.Pairwise (· < ·) ∧ ∀ x ∈ r, 0 ≤ x ∧ x < base + size)
    (ds := rgN 0 size.toNat) (e := [vl t, vv (.int most), vl (rs.map tupI), vv (.int base), vv (.int size), vv (.int kind), x6, x7, none, x9, none])
    ⟨t, rs, _, _, _, rfl, ht, by omega, fun r h => ⟨(hr r h).1, fun x hx => by have := (hr r h).2 x hx; omega⟩⟩ (by
    rintro i d e hd ⟨t, rs, x6, x7, x9, rfl, ht, hl, hr⟩
    obtain ⟨hi, rfl⟩ := rgN_at0 hd
    walk_at "ev"
    unfold L2__law_blocks
    rw [gseq_a3]
    refine gk_go (fun e => ∃ zs : List Int, e = [vl t, vv (.int most), vl (rs.map tupI), vv (.int base), vv (.int size), vv (.int kind), vv (.int (i : Nat)), vl (zs.map .int), none, x9, none] ∧ zs.Nodup ∧ ∀ x ∈ zs, base ≤ x ∧ x < base + size) ?_ ?_
    · by_cases c1 : kind = 1
      · by_cases c2 : 2 < size
        · walk_at "evc"
          have c3 : ¬ kind = 2 := by omega
          walk_at "evc"
          refine ⟨_, rfl, [base + (i : Int), base + ((i : Int) + 1).fmod size], rfl, ?_, ?_⟩
          · have h1 := Int.fmod_nonneg_of_pos ((i : Int) + 1) (show 0 < size by omega)
            have h2 := Int.fmod_lt_of_pos ((i : Int) + 1) (show 0 < size by omega)
            have h3 := Int.mul_fdiv_add_fmod ((i : Int) + 1) size
            refine List.nodup_cons.mpr ⟨fun h => ?_, by simp⟩
            have h := List.mem_singleton.mp h
            have h4 : ((i : Int) + 1).fmod size = i := by omega
            by_cases h5 : (i : Int) + 1 < size
            · rw [Int.fmod_eq_emod_of_nonneg _ (by omega), Int.emod_eq_of_lt (by omega) h5] at h4
              omega
            · have h6 : (i : Int) + 1 = size := by omega
              rw [h6, Int.fmod_self] at h4
              omega
          · intro x hx
            have h1 := Int.fmod_nonneg_of_pos ((i : Int) + 1) (show 0 < size by omega)
            have h2 := Int.fmod_lt_of_pos ((i : Int) + 1) (show 0 < size by omega)
            simp only [List.mem_cons, List.not_mem_nil, or_false] at hx
            omega
        · walk_at "evc"
          have c3 : ¬ kind = 2 := by omega
          walk_at "evc"
          exact ⟨_, rfl, _, rfl, rgL_nodup _ _, fun x hx => rgL_mem.mp hx⟩
      · walk_at "evc"
        by_cases c2 : kind = 2
        · by_cases c3 : 2 < size
          · walk_at "evc"
            rw [show rgN 0 size.toNat = (rgL 0 size).map D.int by rw [rgN_eq, show (0 + (size.toNat : Int)) = size by omega]]
            rw [lcD_map (f := fun j => if j = (i : Int) then none else some (.int (base + j))) (by rw [rgL_len]; omega) (fun x hx => by
              unfold C1t__law_blocks C1e__law_blocks
              by_cases c : x = (i : Int)
              · walk_at "evc"
              · walk_at "evc")]
            walk_at "evc"
            refine ⟨_, rfl, (rgL 0 size).filterMap fun j => if j = (i : Int) then none else some (base + j), ?_, ?_, ?_⟩
            · congr 11
              rw [List.map_filterMap]
              congr 1
              funext j
              by_cases c : j = (i : Int) <;> simp [c]
            · refine List.Pairwise.filterMap _ ?_ (rgL_nodup 0 size)
              intro a b hab x hx y hy
              by_cases c : a = (i : Int) <;> by_cases c' : b = (i : Int) <;> simp [c, c'] at hx hy
              omega
            · intro x hx
              obtain ⟨j, h1, h2⟩ := List.mem_filterMap.mp hx
              have := rgL_mem.mp h1
              by_cases c : j = (i : Int) <;> simp [c] at h2
              omega
          · walk_at "evc"
            exact ⟨_, rfl, _, rfl, rgL_nodup _ _, fun x hx => rgL_mem.mp hx⟩
        · walk_at "evc"
          exact ⟨_, rfl, _, rfl, rgL_nodup _ _, fun x hx => rgL_mem.mp hx⟩
    · rintro e ⟨zs, rfl, hz1, hz2⟩
      walk_at "evc"
      obtain ⟨out, e1, h4, t5, ys, rfl, rfl, ht5, hy1, hy2⟩ := lcD_inv (vs := [10]) (tg := tgn 10) (ft := C2t__law_blocks) (fe := C2e__law_blocks)
        (fun j acc e => ∃ (t : List D) (ys : List Int), e = [vl t, vv (.int most), vl (rs.map tupI), vv (.int base), vv (.int size), vv (.int kind), vv (.int (i : Nat)), vl (zs.map .int), none, x9, none] ∧ acc = ys.map D.int ∧ Tape t ∧ ys.Pairwise (· < ·) ∧ ∀ x ∈ ys, 0 ≤ x ∧ x < j)
        (ds := rgN 0 base.toNat) (e := [vl t, vv (.int most), vl (rs.map tupI), vv (.int base), vv (.int size), vv (.int kind), vv (.int (i : Nat)), vl (zs.map .int), none, x9, none]) ⟨t, [], rfl, rfl, ht, List.Pairwise.nil, fun x hx => absurd hx (by simp)⟩ (by rw [rgN_len]; omega) (by
        rintro j d acc e hd ⟨t, ys, rfl, rfl, ht, h1, h2⟩
        obtain ⟨hj, rfl⟩ := rgN_at0 hd
        obtain ⟨q, t', h3, ht', hq0, hq1⟩ := pick_ok (n := 4) ht (by omega) (by omega)
        unfold C2t__law_blocks C2e__law_blocks
        walk_at "evc"
        rw [h3]
        by_cases c : q = 0
        · walk_at "evc"
          exact ⟨_, _, rfl, t', ys ++ [(j : Int)], rfl, by simp, ht', List.pairwise_append.mpr ⟨h1, List.pairwise_singleton _ _, fun a ha b hb => by simp at hb; have := h2 a ha; omega⟩, fun x hx => by
            rcases List.mem_append.mp hx with hx | hx
            · have := h2 x hx; omega
            · simp at hx; omega⟩
        · walk_at "evc"
          exact ⟨_, _, rfl, t', ys, rfl, by simp, ht', h1, fun x hx => by have := h2 x hx; omega⟩)
      rw [h4]
      rw [rgN_len] at hy2
      have ynd : ys.Nodup := hy1.imp fun h => by omega
      have hyl := asc_len (n := base) (a := 0) hy1 fun x hx => by have := hy2 x hx; omega
      have hzl : (isort zs).length ≤ 1000 := by
        have := asc_len (n := base + size) (a := base) (r := isort zs) ((List.pairwise_and_iff.mpr ⟨isort_le zs, (isort_perm zs).nodup_iff.mpr hz1⟩).imp fun ⟨a, b⟩ => by omega) fun x hx => hz2 x ((isort_perm zs).mem_iff.mp hx)
        omega
      rw [(isort_perm zs).length_eq] at hzl
      walk_at "evc"
      have hrow := row_sort (n := (base + size).toNat) (ns := zs ++ ys) (List.nodup_append.mpr ⟨hz1, ynd, fun a ha b hb e => by subst e; have := hz2 a ha; have := hy2 a hb; omega⟩) (fun x hx => by
        rcases List.mem_append.mp hx with hx | hx
        · have := hz2 x hx; omega
        · have := hy2 x hx; omega)
      exact ⟨_, rfl, t5, rs ++ [isort (zs ++ ys)], _, _, _, rfl, ht5, by simp; omega, fun r hx => by
        rcases List.mem_append.mp hx with hx | hx
        · exact hr r hx
        · rw [List.mem_singleton.mp hx]
          exact ⟨hrow.lt, fun x hx => by have := hrow.bd x hx; omega⟩⟩)
  exact ⟨_, h, t, rs, x6, x7, x9, rfl, ht, by rw [rgN_len] at hl; omega, hr⟩

theorem blocks1 {t : List D} {n : Nat} {rs : List (List Int)} {x3 x4 x5 x6 x7 x9 : Option Od} (ht : Tape t) (hn : n ≤ 100) (hl : rs.length < n) (hr : ∀ r ∈ rs, Row rs.length r) :
    ∃ e', L1__law_blocks [vl t, vv (.int (n : Int)), vl (rs.map tupI), x3, x4, x5, x6, x7, none, x9, none] = some (.nx, e') ∧
      ∃ (t : List D) (qs : List (List Int)) (x3 x4 x5 x6 x7 x9 : Option Od), e' = [vl t, vv (.int (n : Int)), vl (qs.map tupI), x3, x4, x5, x6, x7, none, x9, none] ∧ Tape t ∧ rs.length < qs.length ∧ qs.length ≤ n ∧ ∀ r ∈ qs, Row qs.length r := by
  unfold L1__law_blocks
  have hm : (if (n : Int) - rs.length < 4 then (n : Int) - rs.length else 4) = min 4 ((n : Int) - rs.length) := by omega
  obtain ⟨q, t1, h1, ht1, hq0, hq1⟩ := pick_ok (n := min 4 ((n : Int) - rs.length)) ht (by omega) (by omega)
  obtain ⟨q', t2, h2, ht2, hq0', hq1'⟩ := pick_ok (n := 3) ht1 (by omega) (by omega)
  walk_at "ev"
  rw [hm, h1]
  walk_at "evc"
  rw [h2]
  walk_at "evc"
  obtain ⟨e', h, t3, qs, x6, x7, x9, rfl, ht3, hl3, hr3⟩ := blocks2 (most := n) (base := rs.length) (size := 1 + q) (kind := q') (x6 := x6) (x7 := x7) (x9 := x9) (rs := rs) ht2 (by omega) (by omega) (by omega) (by omega) rfl (fun r hx => ⟨(hr r hx).lt, (hr r hx).bd⟩)
  refine ⟨_, h, t3, qs, _, _, _, _, _, _, rfl, ht3, by omega, by omega, fun r hx => ⟨(hr3 r hx).1, fun x hx2 => by have := (hr3 r hx).2 x hx2; omega⟩⟩
def Bst (n k : Nat) (e : DL.Env) : Prop := ∃ (t : List D) (rs : List (List Int)) (x3 x4 x5 x6 x7 x9 : Option Od), e = [vl t, vv (.int (n : Int)), vl (rs.map tupI), x3, x4, x5, x6, x7, none, x9, none] ∧ Tape t ∧ rs.length + k = n ∧ ∀ r ∈ rs, Row rs.length r
theorem blocks_ok {t : List D} {n : Nat} (ht : Tape t) (h0 : 1 ≤ n) (hn : n ≤ 100) :
    ∃ (rs : List (List Int)) (t' : List D), fn__law_blocks [vl t, vv (.int (n : Int))] = some (.fd (.val (rowsD rs)), [vl t', vv (.int (n : Int))]) ∧ Tape t' ∧ 1 ≤ rs.length ∧ rs.length ≤ n ∧ Rows rs := by
  unfold fn__law_blocks s__law_blocks
  walk_at "evc"
  obtain ⟨o, e', h, rfl, k, hk, t', rs, x3, x4, x5, x6, x7, x9, rfl, ht', hl, hr⟩ := whD_inv (c := L1t__law_blocks) (body := L1__law_blocks) (Bst n) (fun o e => o = .nx ∧ ∃ k, k < n ∧ Bst n k e)
    (by
      rintro k e ⟨t, rs, x3, x4, x5, x6, x7, x9, rfl, ht, hl, hr⟩
      have go : ∀ (Q : Out → DL.Env → Prop) (t : List D), Tape t → rs.length < n → ∃ o e', L1__law_blocks [vl t, vv (.int (n : Int)), vl (rs.map tupI), x3, x4, x5, x6, x7, none, x9, none] = some (o, e') ∧ FS (fun _ e => ∃ k', k' < k ∧ Bst n k' e) Q 0 e' o := fun Q t ht hl => by
        obtain ⟨e', h, t3, qs, y3, y4, y5, y6, y7, y9, rfl, ht3, h1, h2, h3⟩ := blocks1 (x3 := x3) (x4 := x4) (x5 := x5) (x6 := x6) (x7 := x7) (x9 := x9) ht hn hl hr
        exact ⟨_, _, h, n - qs.length, by omega, t3, qs, y3, y4, y5, y6, y7, y9, rfl, ht3, by omega, h3⟩
      rw [wh1_k]
      unfold L1t__law_blocks
      by_cases c1 : (rs.length : Int) = 0
      · walk_at "evc"
        exact go _ t ht (by omega)
      · by_cases c2 : (rs.length : Int) < n
        · obtain ⟨q, t1, h1, ht1, hq0, hq1⟩ := pick_ok (n := 3) ht (by omega) (by omega)
          walk_at "evc"
          rw [h1]
          by_cases c3 : 0 < q
          · walk_at "evc"
            exact go _ t1 ht1 (by omega)
          · walk_at "evc"
            exact ⟨_, _, rfl, rfl, k, by omega, t1, rs, _, _, _, _, _, _, rfl, ht1, hl, hr⟩
        · walk_at "evc"
          exact ⟨_, _, rfl, rfl, k, by omega, t, rs, _, _, _, _, _, _, rfl, ht, hl, hr⟩) 1000 n _ (by omega) ⟨t, [], none, none, none, none, none, none, rfl, ht, by simp, fun r hr => absurd hr (by simp)⟩
  rw [show ([] : List D) = ([] : List (List Int)).map tupI from rfl, h]
  walk_at "evc"
  exact ⟨rs, t', rfl, ht', by omega, by omega, ⟨hr⟩⟩

theorem moved_ok {t : List D} {rs : List (List Int)} (ht : Tape t) (hn : rs.length ≤ 100) (hr : Rows rs) :
    ∃ (qs : List (List Int)) (t' : List D), fn__law_moved [vl t, vv (rowsD rs)] = some (.fd (.val (rowsD qs)), [vl t', vv (rowsD rs)]) ∧ Tape t' ∧ qs.length = rs.length ∧ Rows qs := by
  unfold fn__law_moved s__law_moved rowsD
  obtain ⟨p, t1, h1, ht1, hp⟩ := order_ok (n := rs.length) ht (by omega)
  obtain ⟨p2, t2, h2, ht2, hp2⟩ := order_ok (n := rs.length) ht1 (by omega)
  obtain ⟨hpl, hpn, hpm⟩ := perm_rg hp
  obtain ⟨hpl2, hpn2, hpm2⟩ := perm_rg hp2
  walk_at "evc"
  rw [h1]
  walk_at "evc"
  rw [h2]
  walk_at "evc"
  have e : (fun x : Int => tupI (isort ((rs.getD x.toNat []).map fun y => p2.getD y.toNat 0))) = tupI ∘ (fun x : Int => isort ((rs.getD x.toNat []).map fun y => p2.getD y.toNat 0)) := rfl
  rw [lcD_mapS (f := fun x => tupI (isort ((rs.getD x.toNat []).map fun y => p2.getD y.toNat 0))) (by omega) (fun x hx => by
    have hx := (hpm x).mp hx
    have e1 := rowsD_at (rs := rs) (i := x.toNat) (by omega)
    have hrow := hr.get (i := x.toNat) (by omega)
    have hlen := hrow.len
    generalize rs.getD x.toNat [] = r at *
    unfold C2e__law_moved
    walk_at "evc"
    rw [e1]
    unfold tupI
    walk_at "evc"
    rw [lcD_mapS (f := fun y => .int (p2.getD y.toNat 0)) (by omega) (fun y hy => by
      have hy := hrow.bd y hy
      have e2 := mapI_getD (p := p2) (i := y.toNat) (by omega)
      unfold C1e__law_moved
      walk_at "evc"
      rw [e2]
      walk_at "evc")]
    rw [show r.map (fun y => D.int (p2.getD y.toNat 0)) = (r.map fun y => p2.getD y.toNat 0).map .int by rw [List.map_map]; rfl]
    walk_at "evc")]
  walk_at "evc"
  refine ⟨p.map fun x => isort ((rs.getD x.toNat []).map fun y => p2.getD y.toNat 0), t2, by rw [e, List.map_map], ht2, by rw [List.length_map, hpl], ⟨?_⟩⟩
  intro q hq
  rw [List.length_map, hpl]
  obtain ⟨x, hx, rfl⟩ := List.mem_map.mp hq
  have hx := (hpm x).mp hx
  have hrow := hr.get (i := x.toNat) (by omega)
  refine row_sort ?_ ?_
  · refine List.pairwise_map.mpr (hrow.lt.imp_of_mem fun {a b} ha hb h => ?_)
    have ha := hrow.bd a ha
    have hb := hrow.bd b hb
    intro h2
    have := getD_inj hpn2 (by omega) (by omega) h2
    omega
  · intro y hy
    obtain ⟨z, hz, rfl⟩ := List.mem_map.mp hy
    have hz := hrow.bd z hz
    exact (hpm2 _).mp (gD_mem (by omega))

theorem is_integer_i {i : Int} : fn_is_integer [vv (.int i)] = some (.fd (.val (.bl true)), [vv (.int i)]) := by
  unfold fn_is_integer s_is_integer
  walk_at "evc"
theorem is_within_i {i a b : Int} : fn_is_within [vv (.int i), vv (.int a), vv (.int b)] = some (.fd (.val (.bl (decide (a ≤ i ∧ i ≤ b)))), [vv (.int i), vv (.int a), vv (.int b)]) := by
  unfold fn_is_within s_is_within
  walk_at "evc"
  rw [is_integer_i]
  by_cases c : a ≤ i
  · walk_at "evc"
    simp [c]
  · walk_at "evc"
    simp [c]
theorem are_ascending_i {xs : List Int} (hl : xs.length ≤ 1000) : fn_are_ascending [vv (tupI xs)] = some (.fd (.val (.bl (decide (xs.Pairwise (· < ·))))), [vv (tupI xs)]) := by
  unfold fn_are_ascending s_are_ascending
  walk_at "evc"
  rw [lcD_mapS (f := fun p => .bl (decide (p.1 < p.2))) (by rw [List.length_zip]; omega) (fun p hp => by
    unfold C1e_are_ascending prI
    walk_at "evc")]
  walk_at "evc"
  congr 5
  rw [Bool.eq_iff_iff, decide_eq_true_iff]
  exact asc_zip
theorem is_lot_i {xs : List Int} {n : Nat} (hl : xs.length ≤ 1000) : fn_is_lot_of [vv (tupI xs), vv (.int (n : Int))] = some (.fd (.val (.bl (decide (∀ x ∈ xs, 0 ≤ x ∧ x < (n : Int)) && decide (xs.Pairwise (· < ·))))), [vv (tupI xs), vv (.int (n : Int))]) := by
  unfold fn_is_lot_of s_is_lot_of
  walk_at "evc"
  rw [lcD_mapS (f := fun x => .bl (decide (0 ≤ x ∧ x ≤ (n : Int) - 1))) (by omega) (fun x hx => by
    unfold C1e_is_lot_of
    walk_at "evc"
    rw [is_within_i]
    walk_at "evc")]
  have e : (xs.all fun x => decide (0 ≤ x ∧ x ≤ (n : Int) - 1)) = decide (∀ x ∈ xs, 0 ≤ x ∧ x < (n : Int)) := by
    rw [Bool.eq_iff_iff, List.all_eq_true, decide_eq_true_iff]
    exact ⟨fun h x hx => by have := of_decide_eq_true (h x hx); omega, fun h x hx => decide_eq_true (by have := h x hx; omega)⟩
  by_cases c : ∀ x ∈ xs, 0 ≤ x ∧ x < (n : Int)
  · walk_at "evc"
    rw [e]
    walk_at "evc"
    rw [are_ascending_i hl]
    walk_at "evc"
    simp [c]
    exact fun _ => c
  · walk_at "evc"
    rw [e]
    walk_at "evc"
    simp [c]
theorem is_lot_row {xs : List Int} {n : Nat} (h : Row n xs) (hn : n ≤ 1000) : fn_is_lot_of [vv (tupI xs), vv (.int (n : Int))] = some (.fd (.val (.bl true)), [vv (tupI xs), vv (.int (n : Int))]) := by
  have := h.len
  rw [is_lot_i (by omega)]
  have h1 := h.bd
  have h2 := h.lt
  rw [decide_eq_true h1, decide_eq_true h2]; rfl
theorem keep_ok {c : Nat} {rs : List (List Int)} (hc : c = 0 ∨ c = 1) (hl : rs.length ≤ 1000) : fn_Table_keep [some (.obj c []), vv (rowsD rs)] = some (.fd (.val .non), [some (tabO c rs), vv (rowsD rs)]) := by
  unfold fn_Table_keep s_Table_keep
  rcases hc with rfl | rfl <;> walk_at "evc"
theorem Table_ok {rs : List (List Int)} (h : Rows rs) (h1 : 1 ≤ rs.length) (h2 : rs.length ≤ 12) : fn_Table___init__ [some (.obj 0 []), vv (rowsD rs)] = some (.fd (.val .non), [some (tabO 0 rs), vv (rowsD rs)]) := by
  unfold fn_Table___init__ s_Table___init__
  walk_at "evc"
  obtain ⟨e', h3, x, y, rfl⟩ := forD_go (tg := tgt (tgc (tgn 2) (tgc (tgn 3) tgz))) (body := L1_Table___init__) (fun i e => ∃ x y, e = [some (.obj 0 []), vv (rowsD rs), x, y])
    (ds := (rs.zipIdx 0).map fun p => .tup [.int (p.2 : Nat), tupI p.1]) (e := [some (.obj 0 []), vv (rowsD rs), none, none]) ⟨_, _, rfl⟩ (by
    rintro i d e hd ⟨x, y, rfl⟩
    rw [List.getElem?_map] at hd
    obtain ⟨p, hp, rfl⟩ := map_some hd
    have hm := h.row p.1 (List.fst_mem_of_mem_zipIdx (List.mem_of_getElem? hp))
    unfold L1_Table___init__
    walk_at "evc"
    rw [is_lot_row hm (by omega)]
    walk_at "evc"
    exact ⟨_, rfl, _, _, rfl⟩)
  rw [h3]
  walk_at "evc"
  rw [keep_ok (.inl rfl) (by omega)]
  walk_at "evc"
theorem RawTable_ok {rs : List (List Int)} (hl : rs.length ≤ 1000) : fn_RawTable___init__ [some (.obj 1 []), vv (rowsD rs)] = some (.fd (.val .non), [some (tabO 1 rs), vv (rowsD rs)]) := by
  unfold fn_RawTable___init__ s_RawTable___init__
  walk_at "evc"
  rw [keep_ok (.inr rfl) (by omega)]
  walk_at "evc"
theorem is_person_i {c : Nat} {rs : List (List Int)} {i : Int} : fn_is_person [vv (tabD c rs), vv (.int i)] = some (.fd (.val (.bl (decide (0 ≤ i ∧ i ≤ (rs.length : Int) - 1)))), [vv (tabD c rs), vv (.int i)]) := by
  unfold fn_is_person s_is_person
  walk_at "evc"
  rw [is_within_i]
  walk_at "evc"
theorem check_person_i {c : Nat} {rs : List (List Int)} {i : Int} (h : 0 ≤ i ∧ i < rs.length) : fn_check_person [vv (tabD c rs), vv (.int i)] = some (.fd (.val .non), [vv (tabD c rs), vv (.int i)]) := by
  have h2 : 0 ≤ i ∧ i ≤ (rs.length : Int) - 1 := by omega
  unfold fn_check_person s_check_person
  walk_at "evc"
  rw [is_person_i]
  walk_at "evc"
theorem check_thing_i {c : Nat} {rs : List (List Int)} {i : Int} (h : 0 ≤ i ∧ i < rs.length) : fn_check_thing [vv (tabD c rs), vv (.int i)] = some (.fd (.val .non), [vv (tabD c rs), vv (.int i)]) := by
  have h2 : 0 ≤ i ∧ i ≤ (rs.length : Int) - 1 := by omega
  unfold fn_check_thing s_check_thing
  walk_at "evc"
  rw [is_person_i]
  walk_at "evc"
theorem check_pair_i {c : Nat} {rs : List (List Int)} {i j : Int} (h : 0 ≤ i ∧ i < rs.length) (h2 : 0 ≤ j ∧ j < rs.length) : fn_check_pair [vv (tabD c rs), vv (.int i), vv (.int j)] = some (.fd (.val .non), [vv (tabD c rs), vv (.int i), vv (.int j)]) := by
  unfold fn_check_pair s_check_pair
  walk_at "evc"
  rw [check_person_i h]
  walk_at "evc"
  rw [check_thing_i h2]
  walk_at "evc"

theorem bits_ok {s : List Nat} (hl : s.length ≤ 1000) (hb : ∀ i ∈ s, i ≤ 1000) : fn_bits [vv (.lst (s.map fun i => .int (i : Nat)))] = some (.fd (.val (.int ((msk s : Nat) : Int))), [vv (.lst (s.map fun i => .int (i : Nat)))]) := by
  unfold fn_bits s_bits
  walk_at "evc"
  rw [lcD_mapS (enc := fun i : Nat => D.int (i : Nat)) (f := fun i => .int (((2 ^ i : Nat) : Nat) : Int)) (by omega) (fun i hi => by
    have := hb i hi
    have hp : powC 1 (i : Int) = true := by unfold powC; exact decide_eq_true (by omega)
    unfold C1e_bits
    walk_at "evc"
    congr 3
    rw [Int.one_mul]
    simp)]
  walk_at "evc"
  rw [show (s.map fun i => D.int (((2 ^ i : Nat) : Nat) : Int)) = (s.map fun i => (((2 ^ i : Nat) : Nat) : Int)).map .int by rw [List.map_map]; rfl, sumB_s]
  walk_at "evc"
  congr 5
  unfold msk
  clear hl hb
  induction s with
  | nil => rfl
  | cons i s ih => simp only [List.map_cons, List.sum_cons, ih]; omega
theorem without_ok {s : List Nat} {i : Nat} (h : i ∈ s) (hi : i ≤ 1000) : fn_without [vv (.int ((msk s : Nat) : Int)), vv (.int (i : Nat))] = some (.fd (.val (.int ((msk (s.erase i) : Nat) : Int))), [vv (.int ((msk s : Nat) : Int)), vv (.int (i : Nat))]) := by
  have hp : powC 1 (i : Int) = true := by unfold powC; exact decide_eq_true (by omega)
  have e := msk_erase h
  unfold fn_without s_without
  walk_at "evc"
  congr 5
  rw [Int.one_mul, show ((2 : Int) ^ i) = ((2 ^ i : Nat) : Int) by simp]
  omega
theorem has_ok {s : List Nat} {i : Nat} (h : Asc s) : fn_has [vv (.int ((msk s : Nat) : Int)), vv (.int (i : Nat))] = some (.fd (.val (.bl (decide (i ∈ s)))), [vv (.int ((msk s : Nat) : Int)), vv (.int (i : Nat))]) := by
  unfold fn_has s_has
  walk_at "evc"
  rw [has_int h]
  by_cases c : i ∈ s
  · rw [if_pos c]; simp [c]
  · rw [if_neg c]; simp [c]
theorem least_ok {p : Nat} {s : List Nat} (h : Asc (p :: s)) : fn_least_of [vv (.int ((msk (p :: s) : Nat) : Int))] = some (.fd (.val (.int (p : Nat))), [vv (.int ((msk (p :: s) : Nat) : Int))]) := by
  unfold fn_least_of s_least_of
  walk_at "evc"
  rw [low_bit h, bits_pow]
  congr 5
  omega
theorem counter_ok {rs : List (List Int)} (hl : rs.length ≤ 1000) : fn_Counter___init__ [some (.obj 2 []), vv (rowsD rs)] = some (.fd (.val .non), [some (cntO rs [([.inl 0, .inl 0], .int 1)]), vv (rowsD rs)]) := by
  have hp : powC 1 (rs.length : Int) = true := by unfold powC; exact decide_eq_true (by omega)
  have e := msk_range rs.length
  have e2 : (1 : Int) * 2 ^ rs.length - 1 = ((msk (List.range rs.length) : Nat) : Int) := by
    rw [Int.one_mul, show ((2 : Int) ^ rs.length) = ((2 ^ rs.length : Nat) : Int) by simp]
    omega
  unfold fn_Counter___init__ s_Counter___init__
  walk_at "evc"
  rw [e2]
theorem among_ok {rs : List (List Int)} {ks : List (List L2.Key × D)} {p : Nat} {ts : List Nat} (hr : Rows rs) (hl : rs.length ≤ 1000) (hp : p < rs.length) (ht : Asc ts) :
    fn_Counter_among [some (cntO rs ks), vv (.int (p : Nat)), vv (.int ((msk ts : Nat) : Int))] = some (.fd (.lst (((rs.getD p []).filter fun x => decide (x.toNat ∈ ts)).map .int)), [some (cntO rs ks), vv (.int (p : Nat)), vv (.int ((msk ts : Nat) : Int))]) := by
  have hrow := hr.get hp
  have hlen := hrow.len
  unfold fn_Counter_among s_Counter_among
  walk_at "evc"
  rw [rowsD_at hp]
  walk_at "evc"
  rw [lcD_filt (p := fun x => decide (x.toNat ∈ ts)) (f := .int) (by omega) (fun x hx => by
    have hb := hrow.bd x hx
    have e := has_ok (i := x.toNat) ht
    rw [show ((x.toNat : Nat) : Int) = x by omega] at e
    unfold C1t_Counter_among C1e_Counter_among
    walk_at "evc"
    rw [e]
    by_cases c : x.toNat ∈ ts
    · walk_at "evc"
    · walk_at "evc")]
  walk_at "evc"
theorem of_okP {rs : List (List Int)} {P : List Nat} (hr : Rows rs) (hl : rs.length ≤ 24) (hP : Asc P) (hPb : ∀ i ∈ P, i < rs.length) : ∀ (k : Nat) (j : Nat) (ps ts : List Nat) (ks : List (List L2.Key × D)), j ≤ P.length → ps = P.drop j → ps.length < k → ps.length = ts.length → Asc ts → (∀ i ∈ ts, i < rs.length) → MemoW rs rs.length P ks →
    ∃ ks', fn_Counter_of k [some (cntO rs ks), vv (.int ((msk ps : Nat) : Int)), vv (.int ((msk ts : Nat) : Int))] = some (.fd (.val (.int ((ways rs ps ts : Nat) : Int))), [some (cntO rs ks'), vv (.int ((msk ps : Nat) : Int)), vv (.int ((msk ts : Nat) : Int))]) ∧ MemoW rs rs.length P ks' ∧ (∀ k0, dget ks k0 = none → (∀ (j' : Nat) (b : L2.Key), j ≤ j' → k0 ≠ [.inl ((msk (P.drop j') : Nat) : Int), b]) → dget ks' k0 = none)
  | 0, j, ps, ts, ks, _, _, h, _, _, _, _ => absurd h (Nat.not_lt_zero _)
  | k + 1, j, ps, ts, ks, hj, hps, hk, hpt, ht, htb, hm => by
    have hp : Asc ps := by rw [hps]; exact hP.sublist (List.drop_sublist _ _)
    have hpb : ∀ i ∈ ps, i < rs.length := fun i hi => hPb i (by rw [hps] at hi; exact List.mem_of_mem_drop hi)
    have htl : ts.length = P.length - j := by rw [← hpt, hps, List.length_drop]
    unfold fn_Counter_of s_Counter_of
    cases q : dget ks [.inl ((msk ps : Nat) : Int), .inl ((msk ts : Nat) : Int)] with
    | some d =>
      have e := hm.ok ps ts d hp ht q
      subst e
      walk_at "evc"
      rw [q]
      walk_at "evc"
      rw [q]
      walk_at "evc"
      exact ⟨ks, rfl, hm, fun _ h _ => h⟩
    | none =>
      cases ps with
      | nil =>
        have : ts = [] := List.length_eq_zero_iff.mp (by rw [← hpt]; rfl)
        subst this
        have e : dget ks [.inl ((msk [] : Nat) : Int), .inl ((msk [] : Nat) : Int)] = some (.int 1) := hm.z
        rw [e] at q; cases q
      | cons p ps =>
        have hj1 : j < P.length := by
          have := congrArg List.length hps
          rw [List.length_drop, List.length_cons] at this
          omega
        have hps1 : ps = P.drop (j + 1) := by
          have := congrArg List.tail hps
          rw [List.tail_drop] at this
          exact this
        obtain ⟨hp1, hp2⟩ := List.pairwise_cons.mp hp
        have hpn := hpb p List.mem_cons_self
        walk_at "evc"
        rw [q]
        walk_at "evc"
        rw [least_ok hp]
        walk_at "evc"
        rw [without_ok (s := p :: ps) List.mem_cons_self (by omega), show (p :: ps).erase p = ps by simp]
        walk_at "evc"
        rw [among_ok hr (by omega) hpn ht]
        walk_at "evc"
        have hrow := hr.get hpn
        have hlen := hrow.len
        obtain ⟨out, e', h, ks', rfl, hm', hno, hacc⟩ := lcD_inv (vs := [6]) (tg := tgn 6) (ft := mr true) (fe := C1e_Counter_of (fn_Counter_of k))
          (fun i acc e => ∃ ks', e = [some (cntO rs ks'), vv (.int ((msk (p :: ps) : Nat) : Int)), vv (.int ((msk ts : Nat) : Int)), vv (.tup [.int ((msk (p :: ps) : Nat) : Int), .int ((msk ts : Nat) : Int)]), vv (.int (p : Nat)), vv (.int ((msk ps : Nat) : Int)), none] ∧ MemoW rs rs.length P ks' ∧ (∀ k0, dget ks k0 = none → (∀ (j' : Nat) (b : L2.Key), j + 1 ≤ j' → k0 ≠ [.inl ((msk (P.drop j') : Nat) : Int), b]) → dget ks' k0 = none) ∧
            acc = (((((rs.getD p []).filter fun x => decide (x.toNat ∈ ts)).take i).map fun x => ((ways rs ps (ts.erase x.toNat) : Nat) : Int)).map D.int))
          (ds := ((rs.getD p []).filter fun x => decide (x.toNat ∈ ts)).map D.int) (e := [some (cntO rs ks), vv (.int ((msk (p :: ps) : Nat) : Int)), vv (.int ((msk ts : Nat) : Int)), vv (.tup [.int ((msk (p :: ps) : Nat) : Int), .int ((msk ts : Nat) : Int)]), vv (.int (p : Nat)), vv (.int ((msk ps : Nat) : Int)), none])
          ⟨ks, rfl, hm, fun _ h _ => h, rfl⟩ (by rw [List.length_map]; have := List.length_filter_le (fun x : Int => decide (x.toNat ∈ ts)) (rs.getD p []); omega) (by
          rintro i d acc e hd ⟨ks', rfl, hm', hno, rfl⟩
          rw [List.getElem?_map] at hd
          obtain ⟨x, hx, rfl⟩ := map_some hd
          have hxm := List.mem_filter.mp (List.mem_of_getElem? hx)
          have hxt := of_decide_eq_true hxm.2
          have hxb := hrow.bd x hxm.1
          have e1 := without_ok hxt (by omega)
          rw [show ((x.toNat : Nat) : Int) = x by omega] at e1
          obtain ⟨ks2, e2, hm2, hno2⟩ := of_okP hr hl hP hPb k (j + 1) ps (ts.erase x.toNat) ks' (by omega) hps1 (by simp at hk; omega) (by rw [List.length_erase_of_mem hxt]; simp at hpt; omega) (asc_erase ht) (fun i hi => htb i (List.mem_of_mem_erase hi)) hm'
          unfold C1e_Counter_of
          walk_at "evc"
          rw [e1]
          walk_at "evc"
          rw [e2]
          walk_at "evc"
          refine ⟨_, _, rfl, ks2, rfl, hm2, fun k0 h1 h2 => hno2 k0 (hno k0 h1 h2) h2, ?_⟩
          rw [List.take_succ, hx, List.map_append, List.map_append]
          rfl)
        rw [List.length_map, List.take_length] at hacc
        rw [h, hacc]
        walk_at "evc"
        rw [sumB_s]
        have hs : ((((rs.getD p []).filter fun x => decide (x.toNat ∈ ts)).map fun x => ((ways rs ps (ts.erase x.toNat) : Nat) : Int))).sum = ((ways rs (p :: ps) ts : Nat) : Int) := by
          show _ = (((((((rs.getD p []).filter fun x => decide (x.toNat ∈ ts)).map fun x => ways rs ps (ts.erase x.toNat))).sum : Nat)) : Int)
          generalize (rs.getD p []).filter (fun x => decide (x.toNat ∈ ts)) = xs
          induction xs with
          | nil => rfl
          | cons x xs ih => simp only [List.map_cons, List.sum_cons, ih]; omega
        rw [hs]
        have hput := hm'.put hP hj ht htl htb
        rw [← hps] at hput
        have hlt : ks'.length < 16777216 := by
          have h2 := hno _ q fun j' b hj' e => by
            have e := Int.ofNat.inj (Sum.inl.inj (List.cons.inj e).1)
            have e2 := msk_inj hp (hP.sublist (List.drop_sublist j' P)) e
            have := congrArg List.length e2
            rw [hps, List.length_drop, List.length_drop] at this
            omega
          exact hm'.room hl hj ht htl htb (by rw [← hps]; exact h2)
        walk_at "evc"
        rw [dget_put, if_pos rfl]
        walk_at "evc"
        refine ⟨_, rfl, hput, fun k0 h1 h2 => ?_⟩
        rw [dget_put, if_neg (fun e => h2 j _ (Nat.le_refl _) (by rw [← e, hps]))]
        exact hno k0 h1 fun j' b hj' => h2 j' b (by omega)
theorem total_ok {rs : List (List Int)} (hr : Rows rs) (hl : rs.length ≤ 24) : ∃ r, fn_Counter_total [some (cntO rs [([.inl 0, .inl 0], .int 1)])] = some (.fd (.val (.int ((ways rs (List.range rs.length) (List.range rs.length) : Nat) : Int))), r) := by
  obtain ⟨ks', h, hm, _⟩ := of_okP (P := List.range rs.length) hr hl List.pairwise_lt_range (fun i hi => List.mem_range.mp hi) 30 0 (List.range rs.length) (List.range rs.length) [([.inl 0, .inl 0], .int 1)] (Nat.zero_le _) rfl (by rw [List.length_range]; omega) rfl List.pairwise_lt_range (fun i hi => List.mem_range.mp hi) memoW0
  unfold fn_Counter_total s_Counter_total
  walk_at "evc"
  rw [h]
  walk_at "evc"
  exact ⟨_, rfl⟩
theorem many_dealings_ok {c : Nat} {rs : List (List Int)} (hr : Rows rs) (hl : rs.length ≤ 24) : fn_many_dealings [vv (tabD c rs)] = some (.fd (.val (.int ((ways rs (List.range rs.length) (List.range rs.length) : Nat) : Int))), [vv (tabD c rs)]) := by
  obtain ⟨r, h⟩ := total_ok hr hl
  unfold fn_many_dealings s_many_dealings
  walk_at "evc"
  rw [counter_ok (by omega)]
  walk_at "evc"
  rw [h]
  walk_at "evc"

theorem is_pair_i {a b : Int} : fn_is_pair [vv (tupI [a, b])] = some (.fd (.val (.bl true)), [vv (tupI [a, b])]) := by
  unfold fn_is_pair s_is_pair
  walk_at "evc"
  rfl
theorem is_listed_l {xs : List D} : fn_is_listed [vv (.lst xs)] = some (.fd (.val (.bl true)), [vv (.lst xs)]) := by
  unfold fn_is_listed s_is_listed
  walk_at "evc"
theorem is_listed_t {xs : List D} : fn_is_listed [vv (.tup xs)] = some (.fd (.val (.bl true)), [vv (.tup xs)]) := by
  unfold fn_is_listed s_is_listed
  walk_at "evc"
theorem is_lot_ok {c : Nat} {rs : List (List Int)} {lot : List (Nat × Nat)} {d : D} (hd : d = .lst (lotD lot) ∨ d = .tup (lotD lot)) (hb : Lot rs.length lot) (hn : rs.length ≤ 1000) (hl : lot.length ≤ 1000) : fn_is_lot [vv (tabD c rs), vv d] = some (.fd (.val (.bl true)), [vv (tabD c rs), vv d]) := by
  have e2 : (lot.all fun _ => true) = true := by simp
  unfold fn_is_lot s_is_lot
  rcases hd with rfl | rfl
  · walk_at "evc"
    rw [is_listed_l]
    walk_at "evc"
    rw [lcD_mapS (f := fun _ => .bl true) (by omega) (fun q hq => by
      unfold C1e_is_lot
      walk_at "evc"
      rw [is_pair_i]
      walk_at "evc")]
    walk_at "evc"
    rw [e2]
    walk_at "evc"
    rw [lcD_mapS (f := fun _ => .bl true) (by omega) (fun q hq => by
      have h1 := hb q hq
      have h2 : (0 : Int) ≤ q.1 ∧ (q.1 : Int) ≤ (rs.length : Int) - 1 := by omega
      have h3 : (0 : Int) ≤ q.2 ∧ (q.2 : Int) ≤ (rs.length : Int) - 1 := by omega
      unfold C2e_is_lot
      walk_at "evc"
      rw [is_person_i]
      walk_at "evc"
      rw [is_person_i, decide_eq_true h3]
      walk_at "evc")]
    walk_at "evc"
    rw [e2]
  · walk_at "evc"
    rw [is_listed_t]
    walk_at "evc"
    rw [lcD_mapS (f := fun _ => .bl true) (by omega) (fun q hq => by
      unfold C1e_is_lot
      walk_at "evc"
      rw [is_pair_i]
      walk_at "evc")]
    walk_at "evc"
    rw [e2]
    walk_at "evc"
    rw [lcD_mapS (f := fun _ => .bl true) (by omega) (fun q hq => by
      have h1 := hb q hq
      have h2 : (0 : Int) ≤ q.1 ∧ (q.1 : Int) ≤ (rs.length : Int) - 1 := by omega
      have h3 : (0 : Int) ≤ q.2 ∧ (q.2 : Int) ≤ (rs.length : Int) - 1 := by omega
      unfold C2e_is_lot
      walk_at "evc"
      rw [is_person_i]
      walk_at "evc"
      rw [is_person_i, decide_eq_true h3]
      walk_at "evc")]
    walk_at "evc"
    rw [e2]
theorem lenSetD_n {s : List Nat} (h : s.length ≤ 4000) : lenSetD (.lst (s.map fun i => .int ((i : Nat) : Int))) = some (.int ((metI (s.map fun i : Nat => (i : Int))).length : Nat)) := by
  have e : (s.map fun i : Nat => D.int ((i : Nat) : Int)) = (s.map fun i : Nat => (i : Int)).map .int := by rw [List.map_map]; rfl
  rw [e, lenSetD_s (by rw [List.length_map]; exact h)]
theorem cast_nodup {s : List Nat} : (s.map fun i : Nat => (i : Int)).Nodup ↔ s.Nodup := by
  constructor
  · intro h
    exact (List.pairwise_map.mp h).imp fun h e => h (by rw [e])
  · intro h
    exact List.pairwise_map.mpr (List.Pairwise.imp (fun h e => h (by omega)) h)
theorem many_with_ok {c : Nat} {rs : List (List Int)} {lot : List (Nat × Nat)} {d : D} (hr : Rows rs) (hd : d = .lst (lotD lot) ∨ d = .tup (lotD lot)) (hb : Lot rs.length lot) (hn : rs.length ≤ 12) (hl : lot.length < 64) : fn_many_with [vv (tabD c rs), vv d] = some (.fd (.val (.int ((lotN rs lot : Nat) : Int))), [vv (tabD c rs), vv d]) := by
  have e1 := sset_lot hb (by omega) hl
  have hul : (lset rs.length lot).length ≤ 144 := by
    refine Nat.le_trans (List.length_filter_le _ _) ?_
    have := flat_len (f := fun p => (List.range rs.length).map fun t => (p, t)) (m := 12) (xs := List.range rs.length) (fun p _ => by rw [List.length_map, List.length_range]; omega)
    rw [List.length_range] at this
    unfold grid; omega
  have hus : ∀ q ∈ lset rs.length lot, q.1 < rs.length ∧ q.2 < rs.length := fun q h => hb q ((lset_mem hb).mp h)
  have hgood := lot_good (lot := lot) hr hb
  have hbad := lot_bad (lot := lot) (rs := rs) hb
  generalize hU : lset rs.length lot = us at e1 hul hus hgood hbad
  have m1 : (us.map fun q => D.int ((q.1 : Nat) : Int)) = (us.map (·.1)).map fun i => D.int ((i : Nat) : Int) := by rw [List.map_map]; rfl
  have m2 : (us.map fun q => D.int ((q.2 : Nat) : Int)) = (us.map (·.2)).map fun i => D.int ((i : Nat) : Int) := by rw [List.map_map]; rfl
  have n1 := met_nodup (ns := (us.map (·.1)).map fun i : Nat => (i : Int))
  have n2 := met_nodup (ns := (us.map (·.2)).map fun i : Nat => (i : Int))
  rw [cast_nodup, List.length_map, List.length_map] at n1 n2
  unfold fn_many_with s_many_with
  rcases hd with rfl | rfl
  all_goals
    walk_at "evc"
    rw [is_lot_ok (by first | exact .inl rfl | exact .inr rfl) hb (by omega) (by omega)]
    walk_at "evc"
    rw [lcD_mapS (f := fun q => tupI (pr q)) (by omega) (fun q hq => by
      unfold C1e_many_with
      walk_at "evc"
      first | done | rfl)]
    walk_at "evc"
    rw [e1]
    walk_at "evc"
    rw [lcD_mapS (f := fun q => .int ((q.1 : Nat) : Int)) (by omega) (fun q hq => by
      unfold C2e_many_with
      walk_at "evc")]
    walk_at "evc"
    rw [lcD_mapS (f := fun q => .int ((q.2 : Nat) : Int)) (by omega) (fun q hq => by
      unfold C3e_many_with
      walk_at "evc")]
    rw [m1, m2]
    walk_at "evc"
    rw [lenSetD_n (by rw [List.length_map]; omega)]
    walk_at "evc"
    by_cases c1 : (metI ((us.map (·.1)).map fun i : Nat => (i : Int))).length < us.length
    · have c1' : (((metI ((us.map (·.1)).map fun i : Nat => (i : Int))).length : Nat) : Int) < ((us.length : Nat) : Int) := by omega
      rw [hbad fun g => n1.mpr g.1 c1]
      walk_at "evc"
      first | done | rfl
    · have c1' : ¬ (((metI ((us.map (·.1)).map fun i : Nat => (i : Int))).length : Nat) : Int) < ((us.length : Nat) : Int) := by omega
      walk_at "evc"
      rw [lenSetD_n (by rw [List.length_map]; omega)]
      by_cases c2 : (metI ((us.map (·.2)).map fun i : Nat => (i : Int))).length < us.length
      · have c2' : (((metI ((us.map (·.2)).map fun i : Nat => (i : Int))).length : Nat) : Int) < ((us.length : Nat) : Int) := by omega
        rw [hbad fun g => n2.mpr g.2.1 c2]
        walk_at "evc"
        first | done | rfl
      · have c2' : ¬ (((metI ((us.map (·.2)).map fun i : Nat => (i : Int))).length : Nat) : Int) < ((us.length : Nat) : Int) := by omega
        walk_at "evc"
        rw [lcD_mapS (f := fun q => .bl (decide ((q.2 : Int) ∈ rs.getD q.1 []))) (by omega) (fun q hq => by
          have h1 := hus q hq
          unfold C4e_many_with
          walk_at "evc"
          rw [rowsD_at h1.1]
          walk_at "evc")]
        walk_at "evc"
        by_cases c3 : ∀ q ∈ us, (q.2 : Int) ∈ rs.getD q.1 []
        · have e3 : (us.all fun q => decide ((q.2 : Int) ∈ rs.getD q.1 [])) = true := List.all_eq_true.mpr fun q hq => decide_eq_true (c3 q hq)
          have g1 := n1.mp c1
          have g2 := n2.mp c2
          rw [hgood ⟨g1, g2, c3⟩]
          rw [e3]
          walk_at "evc"
          rw [counter_ok (by omega)]
          walk_at "evc"
          rw [bits_ok (by rw [List.length_map]; omega) (fun i hi => by obtain ⟨q, hq, rfl⟩ := List.mem_map.mp hi; have := hus q hq; omega)]
          walk_at "evc"
          rw [bits_ok (by rw [List.length_map]; omega) (fun i hi => by obtain ⟨q, hq, rfl⟩ := List.mem_map.mp hi; have := hus q hq; omega)]
          walk_at "evc"
          have b1 : ∀ i ∈ us.map (·.1), i < rs.length := fun i hi => by obtain ⟨q, hq, rfl⟩ := List.mem_map.mp hi; exact (hus q hq).1
          have b2 : ∀ i ∈ us.map (·.2), i < rs.length := fun i hi => by obtain ⟨q, hq, rfl⟩ := List.mem_map.mp hi; exact (hus q hq).2
          have k1 := range_comp g1 b1
          have k2 := range_comp g2 b2
          have l1 := comp_len g1 b1
          have l2 := comp_len g2 b2
          rw [List.length_map] at l1 l2
          rw [show ((msk (List.range rs.length) : Nat) : Int) - ((msk (us.map fun x => x.1) : Nat) : Int) = ((msk ((List.range rs.length).filter fun i => decide (i ∉ us.map (·.1))) : Nat) : Int) by omega, show ((msk (List.range rs.length) : Nat) : Int) - ((msk (us.map fun x => x.2) : Nat) : Int) = ((msk ((List.range rs.length).filter fun i => decide (i ∉ us.map (·.2))) : Nat) : Int) by omega]
          obtain ⟨ks', hof, _⟩ := of_okP (P := (List.range rs.length).filter fun i => decide (i ∉ us.map (·.1))) hr (by omega) (List.pairwise_lt_range.filter _) (fun i hi => List.mem_range.mp (List.mem_filter.mp hi).1) 30 0 ((List.range rs.length).filter fun i => decide (i ∉ us.map (·.1))) ((List.range rs.length).filter fun i => decide (i ∉ us.map (·.2))) [([.inl 0, .inl 0], .int 1)] (Nat.zero_le _) rfl (by omega) (by omega) (List.pairwise_lt_range.filter _) (fun i hi => List.mem_range.mp (List.mem_filter.mp hi).1) memoW0
          rw [hof]
          walk_at "evc"
          first | done | rfl
        · have e3 : (us.all fun q => decide ((q.2 : Int) ∈ rs.getD q.1 [])) = false := by
            rw [← Bool.not_eq_true, List.all_eq_true]
            exact fun h => c3 fun q hq => of_decide_eq_true (h q hq)
          rw [e3, hbad fun g => c3 g.2.2]
          walk_at "evc"
          first | done | rfl

theorem with_row_ok {c p : Nat} {rs : List (List Int)} {r : List Int} (hl : rs.length ≤ 100) (hp : p < rs.length) : fn_with_row [vv (tabD c rs), vv (.int (p : Int)), vv (.lst (r.map .int))] = some (tabO 1 (rs.set p r), [vv (tabD c rs), vv (.int (p : Int)), vv (.lst (r.map .int))]) := by
  have e : rs.take p ++ [r] ++ rs.drop (p + 1) = rs.set p r := by rw [List.append_assoc]; exact set_cut hp
  unfold fn_with_row s_with_row
  walk_at "evc"
  rw [e, RawTable_ok (by rw [List.length_set]; omega)]
  walk_at "evc"
theorem with_tie_ok {c p : Nat} {x : Int} {rs : List (List Int)} (h : Rows rs) (hl : rs.length ≤ 100) (hp : p < rs.length) (hx : 0 ≤ x ∧ x < rs.length) :
    fn_with_tie [vv (tabD c rs), vv (.int (p : Int)), vv (.int x)] = some (tabO 1 (withT rs p x), [vv (tabD c rs), vv (.int (p : Int)), vv (.int x)]) := by
  have hr := (h.get hp).len
  unfold fn_with_tie s_with_tie
  walk_at "evc"
  rw [check_pair_i (by omega) hx]
  walk_at "evc"
  rw [rowsD_at hp]
  walk_at "evc"
  rw [lcD_filt (p := fun o => decide (o ≠ x)) (f := .int) (by omega) (fun o ho => by
    unfold C1t_with_tie C1e_with_tie
    by_cases c : o = x
    · walk_at "evc"
    · walk_at "evc")]
  have hf := List.length_filter_le (fun o => decide (o ≠ x)) (rs.getD p [])
  walk_at "evc"
  rw [with_row_ok hl hp]
  walk_at "evc"
  rfl
theorem without_tie_ok {c p : Nat} {x : Int} {rs : List (List Int)} (h : Rows rs) (hl : rs.length ≤ 100) (hp : p < rs.length) (hx : 0 ≤ x ∧ x < rs.length) :
    fn_without_tie [vv (tabD c rs), vv (.int (p : Int)), vv (.int x)] = some (tabO 1 (lessT rs p x), [vv (tabD c rs), vv (.int (p : Int)), vv (.int x)]) := by
  have hr := (h.get hp).len
  unfold fn_without_tie s_without_tie
  walk_at "evc"
  rw [check_pair_i (by omega) hx]
  walk_at "evc"
  rw [rowsD_at hp]
  walk_at "evc"
  rw [lcD_filt (p := fun o => decide (o ≠ x)) (f := .int) (by omega) (fun o ho => by
    unfold C1t_without_tie C1e_without_tie
    by_cases c : o = x
    · walk_at "evc"
    · walk_at "evc")]
  have hf := List.length_filter_le (fun o => decide (o ≠ x)) (rs.getD p [])
  walk_at "evc"
  rw [with_row_ok hl hp]
  walk_at "evc"
  rfl

theorem check_many_i {a b : Int} (h : a ≤ b) : fn_check_many [vv (.int a), vv (.int b)] = some (.fd (.val .non), [vv (.int a), vv (.int b)]) := by
  have h2 : ¬ b < a := by omega
  unfold fn_check_many s_check_many
  walk_at "evc"
theorem shift_D {n : Nat} {b : List (List Int)} : (shiftR n b).map tupI = b.map fun r => tupI (r.map fun x => x + (n : Int)) := by
  unfold shiftR; rw [List.map_map]; rfl
theorem beside_ok {c c2 : Nat} {a b : List (List Int)} (hb : Rows b) (hl : a.length + b.length ≤ 40) : fn_beside [vv (tabD c a), vv (tabD c2 b)] = some (tabO 1 (besideR a b), [vv (tabD c a), vv (tabD c2 b)]) := by
  have hc : ((a.length : Nat) : Int) + ((b.length : Nat) : Int) ≤ 40 := by omega
  unfold fn_beside s_beside
  walk_at "evc"
  rw [check_many_i hc]
  walk_at "evc"
  rw [lcD_mapS (f := fun r => tupI (r.map fun x => x + (a.length : Int))) (by omega) (fun r hr => by
    have hrow := hb.row r hr
    have hlen := hrow.len
    unfold C2e_beside
    walk_at "evc"
    rw [lcD_mapS (f := fun x => .int (x + (a.length : Int))) (by omega) (fun x hx => by
      unfold C1e_beside
      walk_at "evc")]
    rw [show r.map (fun x => D.int (x + (a.length : Int))) = (r.map fun x => x + (a.length : Int)).map .int by rw [List.map_map]; rfl]
    walk_at "evc")]
  rw [← shift_D]
  walk_at "evc"
  rw [addD_t (by rw [List.length_map, List.length_map]; unfold shiftR; rw [List.length_map]; omega), ← List.map_append]
  walk_at "evc"
  rw [show a ++ shiftR a.length b = besideR a b from rfl, RawTable_ok (by rw [beside_len]; omega)]
  walk_at "evc"

theorem natI_row {P : List Nat} {n : Nat} (hP : Asc P) (hb : ∀ p ∈ P, p < n) : Row n (natI P) := by
  refine ⟨List.pairwise_map.mpr (hP.imp fun h => by omega), fun x hx => ?_⟩
  obtain ⟨p, hp, rfl⟩ := List.mem_map.mp hx
  have := hb p hp
  omega
theorem asc_nat_len {P : List Nat} {n : Nat} (hP : Asc P) (hb : ∀ p ∈ P, p < n) : P.length ≤ n := by
  have := (natI_row hP hb).len
  rwa [List.length_map] at this
theorem check_some_ok {c : Nat} {rs : List (List Int)} {P : List Nat} (hP : Asc P) (hb : ∀ p ∈ P, p < rs.length) (h1 : 1 ≤ P.length) (hl : rs.length ≤ 100) : fn_check_some_of [vv (tabD c rs), vv (tupI (natI P))] = some (.fd (.val .non), [vv (tabD c rs), vv (tupI (natI P))]) := by
  have hlen := asc_nat_len hP hb
  have hne : ¬ ((P.length : Nat) : Int) = 0 := by omega
  unfold fn_check_some_of s_check_some_of
  walk_at "evc"
  rw [is_lot_row (natI_row hP hb) (by omega)]
  unfold natI tupI
  walk_at "evc"
abbrev plc (T : List Nat) : List (L2.Key × D) := T.zipIdx.map fun q => (kI q.1, D.int ((q.2 : Nat) : Int))
theorem plc_nd {T : List Nat} (hT : Asc T) : (T.zipIdx.map fun q : Nat × Nat => kI q.1).Nodup := by
  have : (T.zipIdx.map fun q : Nat × Nat => kI q.1) = T.map kI := by
    rw [show (fun q : Nat × Nat => kI q.1) = kI ∘ Prod.fst from rfl, ← List.map_map, List.zipIdx_map_fst]
  rw [this]
  exact kI_nd (asc_nodup hT)
theorem plc_get {T : List Nat} (hT : Asc T) {x : Int} (h0 : 0 ≤ x) : dget (plc T) (.inl x) = if x.toNat ∈ T then some (.int ((T.idxOf x.toNat : Nat) : Int)) else none := by
  by_cases c : x.toNat ∈ T
  · rw [if_pos c]
    have hl := List.idxOf_lt_length_of_mem c
    have hm : (x.toNat, T.idxOf x.toNat) ∈ T.zipIdx := by
      refine List.mem_of_getElem? (i := T.idxOf x.toNat) ?_
      rw [List.getElem?_zipIdx, List.getElem?_eq_getElem hl]
      simp
    have := dget_map (kf := fun q : Nat × Nat => kI q.1) (vf := fun q => D.int ((q.2 : Nat) : Int)) (plc_nd hT) hm
    dsimp only at this
    rw [show (kI x.toNat : L2.Key) = .inl x by show Sum.inl _ = _; rw [show ((x.toNat : Nat) : Int) = x by omega]] at this
    exact this
  · rw [if_neg c]
    cases q : dget (plc T) (.inl x) with
    | none => rfl
    | some d =>
      have hm := dget_mem q
      obtain ⟨⟨k, v⟩, h1, h2⟩ := List.mem_map.mp hm
      obtain ⟨⟨a, b⟩, h3, h4⟩ := List.mem_map.mp h1
      cases h4
      have h2 : (kI a : L2.Key) = .inl x := h2
      have e : ((a : Nat) : Int) = x := Sum.inl.inj h2
      have : a ∈ T := (List.mem_zipIdx' h3).2 ▸ List.getElem_mem _
      exact absurd (by rw [← e]; exact this) c
theorem renR_len {T : List Nat} {r : List Int} : (renR T r).length ≤ r.length := by
  unfold renR; rw [List.length_map]; exact List.length_filter_le _ _
theorem kept_in_ok {c : Nat} {rs : List (List Int)} {P T : List Nat} (hr : Rows rs) (hP : Asc P) (hT : Asc T) (hPb : ∀ p ∈ P, p < rs.length) (hTb : ∀ p ∈ T, p < rs.length) (hl : rs.length ≤ 100) :
    fn_kept_in [vv (tabD c rs), vv (tupI (natI P)), vv (tupI (natI T))] = some (tabO 1 (P.map fun p => renR T (rs.getD p [])), [vv (tabD c rs), vv (tupI (natI P)), vv (tupI (natI T))]) := by
  have hpl := asc_nat_len hP hPb
  have htl := asc_nat_len hT hTb
  unfold fn_kept_in s_kept_in
  rw [show tupI (natI P) = .tup (P.map fun p => D.int ((p : Nat) : Int)) by unfold natI tupI; rw [List.map_map]; rfl, show tupI (natI T) = .tup (T.map fun p => D.int ((p : Nat) : Int)) by unfold natI tupI; rw [List.map_map]; rfl]
  walk_at "evc"
  rw [mdc_k]
  walk_at "evc"
  rw [dcD_filt (p := fun _ => true) (kf := fun q : Nat × Nat => kI q.1) (vf := fun q => D.int ((q.2 : Nat) : Int)) (by rw [List.length_zipIdx]; simp; omega) (fun q hq => by
    unfold dc1 C1k_kept_in C1v_kept_in
    walk_at "evc") (plc_nd hT) (fun q hq => absurd hq (by simp)), List.filter_eq_self.mpr fun _ _ => rfl, List.nil_append]
  walk_at "evc"
  rw [lcD_mapS (f := fun p => tupI (renR T (rs.getD p []))) (by omega) (fun p hp => by
    have hp := hPb p hp
    have hrow := hr.get hp
    have hlen := hrow.len
    have e0 := rowsD_at (rs := rs) hp
    generalize rs.getD p [] = r at *
    unfold C3e_kept_in
    walk_at "evc"
    rw [e0]
    walk_at "evc"
    rw [lcD_filt (p := fun x => decide (x.toNat ∈ T)) (f := fun x => .int ((T.idxOf x.toNat : Nat) : Int)) (by omega) (fun x hx => by
      have hb := hrow.bd x hx
      have e1 := plc_get hT hb.1
      unfold C2t_kept_in C2e_kept_in
      by_cases c : x.toNat ∈ T
      · rw [if_pos c] at e1
        walk_at "evc"
        rw [e1]
        walk_at "evc"
      · rw [if_neg c] at e1
        walk_at "evc"
        rw [e1]
        walk_at "evc")]
    rw [show (r.filter fun x => decide (x.toNat ∈ T)).map (fun x => D.int ((T.idxOf x.toNat : Nat) : Int)) = (renR T r).map .int by unfold renR; rw [List.map_map]; rfl]
    walk_at "evc")]
  walk_at "evc"
  rw [show P.map (fun p => tupI (renR T (rs.getD p []))) = (P.map fun p => renR T (rs.getD p [])).map tupI by rw [List.map_map]; rfl, RawTable_ok (by rw [List.length_map]; omega)]
  walk_at "evc"
theorem kept_ok {c : Nat} {rs : List (List Int)} {P T : List Nat} (hr : Rows rs) (hP : Asc P) (hT : Asc T) (hPb : ∀ p ∈ P, p < rs.length) (hTb : ∀ p ∈ T, p < rs.length) (hpt : P.length = T.length) (h1 : 1 ≤ P.length) (hl : rs.length ≤ 100) :
    fn_kept [vv (tabD c rs), vv (tupI (natI P)), vv (tupI (natI T))] = some (tabO 1 (P.map fun p => renR T (rs.getD p [])), [vv (tabD c rs), vv (tupI (natI P)), vv (tupI (natI T))]) := by
  have hpt2 : ¬ (((P.length : Nat) : Int) ≠ ((T.length : Nat) : Int)) := by omega
  unfold fn_kept s_kept
  walk_at "evc"
  rw [check_some_ok hP hPb h1 hl]
  walk_at "evc"
  rw [check_some_ok hT hTb (by omega) hl]
  walk_at "evc"
  rw [kept_in_ok hr hP hT hPb hTb hl]
  walk_at "evc"

theorem mem_natI {L : List Nat} {x : Int} (h0 : 0 ≤ x) : x ∈ natI L ↔ x.toNat ∈ L := by
  constructor
  · intro h
    obtain ⟨y, hy, rfl⟩ := List.mem_map.mp h
    simpa using hy
  · intro h
    exact List.mem_map.mpr ⟨_, h, by omega⟩
/-- one thing of a row: where it is left, the ways go on without it -/
theorem count3 {rs : List (List Int)} {r : List Int} {n : Nat} {found fs : List (List Nat × Nat)} {L : List Nat} {c : Nat} {x : Int} {x6 : Option Od} (hx : 0 ≤ x) (hL : Asc L) (hLb : ∀ i ∈ L, i < n) (hn : n ≤ 12)
    (hnd : (found.map (·.1)).Nodup) (hc : (L, c) ∈ found) (hfn : (fs.map (·.1)).Nodup) (hfb : ∀ M ∈ fs.map (·.1), Asc M ∧ ∀ i ∈ M, i < n) :
    ∃ (fs' : List (List Nat × Nat)) (x6' : Option Od), L3__law_count [vv (rowsD rs), vv (.lit (fD found)), vv (tupI r), some (.fd (.dit (fD fs))), vv (tupI (natI L)), vv (.int x), x6, none] = some (.nx, [vv (rowsD rs), vv (.lit (fD found)), vv (tupI r), some (.fd (.dit (fD fs'))), vv (tupI (natI L)), vv (.int x), x6', none]) ∧
      (fs'.map (·.1)).Nodup ∧ (∀ M ∈ fs'.map (·.1), M ∈ fs.map (·.1) ∨ x.toNat ∈ L ∧ M = L.erase x.toNat) ∧ ∀ W, wsum W fs' = wsum W fs + (if x.toNat ∈ L then c * W (L.erase x.toNat) else 0) := by
  have hLn := asc_nodup hL
  have hlen := asc_nat_len hL hLb
  unfold L3__law_count
  by_cases h : x.toNat ∈ L
  · have hm := (mem_natI hx).mpr h
    walk_at "evc"
    rw [lcD_filt (p := fun o => decide (o ≠ x)) (f := .int) (by rw [List.length_map]; omega) (fun o ho => by
      unfold C1t__law_count C1e__law_count
      by_cases e : o = x
      · walk_at "evc"
      · walk_at "evc")]
    rw [asc_erase_filter hLn hm]
    have e0 := dget_fDs hnd hc
    have e1 := dget_fD (L := L.erase x.toNat) (fs := fs)
    have hlt := fs_len hfn hfb
    have h2n : 2 ^ n ≤ 2 ^ 12 := Nat.pow_le_pow_right (by omega) hn
    have hsz : (fD fs).length < 16777216 := by rw [List.length_map]; omega
    have e2 := dput_fD (L := L.erase x.toNat) (c := c) hfn
    walk_at "evc"
    rw [e0]
    walk_at "evc"
    rw [e1]
    walk_at "evc"
    rw [show ((getF (L.erase x.toNat) fs : Nat) : Int) + ((c : Nat) : Int) = ((getF (L.erase x.toNat) fs + c : Nat) : Int) by omega]
    walk_at "evc"
    rw [e2]
    refine ⟨_, _, rfl, insF_nd hfn, fun M hM => ?_, fun W => ?_⟩
    · rcases insF_mem.mp hM with z | z
      · exact .inr ⟨h, z⟩
      · exact .inl z
    · rw [wsum_ins]
  · have hm : ¬ x ∈ natI L := fun z => h ((mem_natI hx).mp z)
    walk_at "evc"
    exact ⟨fs, x6, rfl, hfn, fun M hM => .inl hM, fun W => rfl⟩

/-- the ways on from a lot of things, by the rows' things -/
def onW (W : List Nat → Nat) (L : List Nat) (r : List Int) : Nat := ((r.filter fun x => decide (x.toNat ∈ L)).map fun x => W (L.erase x.toNat)).sum
theorem onW_snoc {W : List Nat → Nat} {L : List Nat} {r : List Int} {x : Int} : onW W L (r ++ [x]) = onW W L r + if x.toNat ∈ L then W (L.erase x.toNat) else 0 := by
  unfold onW
  rw [List.filter_append, List.map_append, List.sum_append]
  by_cases h : x.toNat ∈ L
  · rw [if_pos h, List.filter_cons, if_pos (decide_eq_true h)]; simp
  · rw [if_neg h, List.filter_cons, if_neg (by simpa using h)]; simp
theorem count2 {rs : List (List Int)} {r : List Int} {n : Nat} {found fs : List (List Nat × Nat)} {L : List Nat} {c : Nat} {x5 x6 : Option Od} (hr : Row n r) (hL : Asc L) (hLb : ∀ i ∈ L, i < n) (hn : n ≤ 12)
    (hnd : (found.map (·.1)).Nodup) (hc : (L, c) ∈ found) (hfn : (fs.map (·.1)).Nodup) (hfb : ∀ M ∈ fs.map (·.1), Asc M ∧ ∀ i ∈ M, i < n) :
    ∃ (fs' : List (List Nat × Nat)) (x5' x6' : Option Od), L2__law_count [vv (rowsD rs), vv (.lit (fD found)), vv (tupI r), some (.fd (.dit (fD fs))), vv (tupI (natI L)), x5, x6, none] = some (.nx, [vv (rowsD rs), vv (.lit (fD found)), vv (tupI r), some (.fd (.dit (fD fs'))), vv (tupI (natI L)), x5', x6', none]) ∧
      (fs'.map (·.1)).Nodup ∧ (∀ M ∈ fs'.map (·.1), M ∈ fs.map (·.1) ∨ ∃ x ∈ L, M = L.erase x) ∧ ∀ W, wsum W fs' = wsum W fs + c * onW W L r := by
  obtain ⟨e', h, fs', x5', x6', rfl, h1, h2, h3⟩ := forD_go (tg := tgn 5) (body := L3__law_count)
    (fun i e => ∃ (fs' : List (List Nat × Nat)) (x5' x6' : Option Od), e = [vv (rowsD rs), vv (.lit (fD found)), vv (tupI r), some (.fd (.dit (fD fs'))), vv (tupI (natI L)), x5', x6', none] ∧
      (fs'.map (·.1)).Nodup ∧ (∀ M ∈ fs'.map (·.1), M ∈ fs.map (·.1) ∨ ∃ x ∈ L, M = L.erase x) ∧ ∀ W, wsum W fs' = wsum W fs + c * onW W L (r.take i))
    (ds := r.map .int) (e := [vv (rowsD rs), vv (.lit (fD found)), vv (tupI r), some (.fd (.dit (fD fs))), vv (tupI (natI L)), x5, x6, none]) ⟨fs, x5, x6, rfl, hfn, fun M h => .inl h, fun W => by simp [onW]⟩ (by
    rintro i d e hd ⟨fs', x5', x6', rfl, h1, h2, h3⟩
    rw [List.getElem?_map] at hd
    obtain ⟨x, hx, rfl⟩ := map_some hd
    have hxb := hr.bd x (List.mem_of_getElem? hx)
    obtain ⟨fs2, x62, e2, h4, h5, h6⟩ := count3 (rs := rs) (r := r) (x6 := x6') (fs := fs') hxb.1 hL hLb hn hnd hc h1 (fun M hM => by
      rcases h2 M hM with z | ⟨y, _, rfl⟩
      · exact hfb M z
      · exact ⟨asc_erase hL, fun i hi => hLb i (List.mem_of_mem_erase hi)⟩)
    walk_at "evc"
    rw [e2]
    refine ⟨_, rfl, fs2, _, _, rfl, h4, fun M hM => ?_, fun W => ?_⟩
    · rcases h5 M hM with z | ⟨z, rfl⟩
      · exact h2 M z
      · exact .inr ⟨_, z, rfl⟩
    · rw [h6 W, h3 W, List.take_succ, hx]
      show _ = wsum W fs + c * onW W L (r.take i ++ [x])
      rw [onW_snoc, Nat.mul_add]
      by_cases h : x.toNat ∈ L
      · rw [if_pos h, if_pos h]; omega
      · rw [if_neg h, if_neg h]; omega)
  rw [List.length_map, List.take_length] at h3
  unfold L2__law_count
  walk_at "evc"
  rw [h]
  exact ⟨fs', x5', x6', rfl, h1, h2, h3⟩
theorem count1 {rs : List (List Int)} {r : List Int} {n : Nat} {found : List (List Nat × Nat)} {x3 x4 x5 x6 : Option Od} (hr : Row n r) (hn : n ≤ 12) (hnd : (found.map (·.1)).Nodup) (hb : ∀ M ∈ found.map (·.1), Asc M ∧ ∀ i ∈ M, i < n) :
    ∃ (fs : List (List Nat × Nat)) (x4' x5' x6' : Option Od), L1__law_count [vv (rowsD rs), some (.fd (.dit (fD found))), vv (tupI r), x3, x4, x5, x6, none] = some (.nx, [vv (rowsD rs), some (.fd (.dit (fD fs))), vv (tupI r), none, x4', x5', x6', none]) ∧
      (fs.map (·.1)).Nodup ∧ (∀ M ∈ fs.map (·.1), ∃ L ∈ found.map (·.1), ∃ x ∈ L, M = L.erase x) ∧ ∀ W, wsum W fs = wsum (fun L => onW W L r) found := by
  have hbM : ∀ {fs : List (List Nat × Nat)}, (∀ M ∈ fs.map (·.1), ∃ L ∈ found.map (·.1), ∃ x ∈ L, M = L.erase x) → ∀ M ∈ fs.map (·.1), Asc M ∧ ∀ i ∈ M, i < n := fun h M hM => by
    obtain ⟨L, hL, x, _, rfl⟩ := h M hM
    have := hb L hL
    exact ⟨asc_erase this.1, fun i hi => this.2 i (List.mem_of_mem_erase hi)⟩
  obtain ⟨e', h, fs', x4', x5', x6', rfl, h1, h2, h3⟩ := forD_go (tg := tgn 4) (body := L2__law_count)
    (fun i e => ∃ (fs' : List (List Nat × Nat)) (x4' x5' x6' : Option Od), e = [vv (rowsD rs), vv (.lit (fD found)), vv (tupI r), some (.fd (.dit (fD fs'))), x4', x5', x6', none] ∧
      (fs'.map (·.1)).Nodup ∧ (∀ M ∈ fs'.map (·.1), ∃ L ∈ found.map (·.1), ∃ x ∈ L, M = L.erase x) ∧ ∀ W, wsum W fs' = wsum (fun L => onW W L r) (found.take i))
    (ds := (fD found).map fun q => .tup (q.1.map kD)) (e := [vv (rowsD rs), vv (.lit (fD found)), vv (tupI r), some (.fd (.dit (fD []))), x4, x5, x6, none]) ⟨[], x4, x5, x6, rfl, by simp, fun M h => absurd h (by simp), fun W => by simp [wsum]⟩ (by
    rintro i d e hd ⟨fs', x4', x5', x6', rfl, h1, h2, h3⟩
    rw [List.map_map, List.getElem?_map] at hd
    obtain ⟨⟨L, c⟩, hx, rfl⟩ := map_some hd
    have hm := List.mem_of_getElem? hx
    have hLm : L ∈ found.map (·.1) := List.mem_map.mpr ⟨_, hm, rfl⟩
    obtain ⟨fs2, x52, x62, e2, h4, h5, h6⟩ := count2 (rs := rs) (x5 := x5') (x6 := x6') (fs := fs') hr (hb L hLm).1 (hb L hLm).2 hn hnd hm h1 (hbM h2)
    have ek : (((fun q : List L2.Key × D => D.tup (q.1.map kD)) ∘ fun q : List Nat × Nat => (kT q.1, D.int ((q.2 : Nat) : Int))) (L, c)) = tupI (natI L) := by
      show D.tup ((kT L).map kD) = _
      rw [kT_D]
    rw [ek]
    walk_at "evc"
    rw [e2]
    refine ⟨_, rfl, fs2, _, _, _, rfl, h4, fun M hM => ?_, fun W => ?_⟩
    · rcases h5 M hM with z | ⟨y, z, rfl⟩
      · exact h2 M z
      · exact ⟨L, hLm, y, z, rfl⟩
    · rw [h6 W, h3 W, List.take_succ, hx]
      unfold wsum
      rw [List.map_append, List.sum_append]
      simp)
  rw [List.length_map, List.length_map, List.take_length] at h3
  unfold L1__law_count
  walk_at "evc"
  have h' : forD (tgn 4) L2__law_count ((fD found).map fun q => .tup (q.1.map kD)) [vv (rowsD rs), vv (.lit (fD found)), vv (tupI r), some (.fd (.dit [])), x4, x5, x6, none] = _ := h
  rw [h']
  walk_at "evc"
  exact ⟨fs', _, _, _, rfl, h1, h2, h3⟩

theorem dls_bd {rs : List (List Int)} {d : List Int} (hr : Rows rs) (h : d ∈ dls rs) : d.length = rs.length ∧ ∀ p, p < rs.length → 0 ≤ d.getD p 0 ∧ d.getD p 0 < rs.length ∧ d.getD p 0 ∈ rs.getD p [] := by
  obtain ⟨h1, _, h3⟩ := dls_mem.mp h
  refine ⟨h1, fun p hp => ?_⟩
  have e : d[p]? = some (d.getD p 0) := by rw [List.getD_eq_getElem?_getD, List.getElem?_eq_getElem (by omega)]; rfl
  have hm := h3 p _ (rs.getD p []) e (by rw [List.getD_eq_getElem?_getD, List.getElem?_eq_getElem hp]; rfl)
  have := (hr.get hp).bd _ hm
  exact ⟨this.1, this.2, hm⟩
theorem rgN0 {n : Nat} : rgN 0 n = (List.range n).map fun i => D.int ((i : Nat) : Int) := by
  unfold rgN
  exact List.map_congr_left fun i _ => by rw [Int.zero_add]
theorem sum_add {α : Type} {f g : α → Nat} : ∀ {xs : List α}, (xs.map fun x => f x + g x).sum = (xs.map f).sum + (xs.map g).sum
  | [] => rfl
  | x :: xs => by
    rw [List.map_cons, List.sum_cons, sum_add, List.map_cons, List.sum_cons, List.map_cons, List.sum_cons]
    omega
theorem sum_ind {k : Nat} : ∀ {n : Nat}, ((List.range n).map fun x => if k = x then 1 else 0).sum = if k < n then 1 else 0
  | 0 => rfl
  | n + 1 => by
    rw [List.range_succ, List.map_append, List.sum_append, sum_ind]
    show _ + ((if k = n then 1 else 0) + 0) = _
    by_cases c : k = n
    · rw [if_pos c, if_neg (by omega), if_pos (by omega)]; first | done | rfl
    · rw [if_neg c]
      by_cases c2 : k < n
      · rw [if_pos c2, if_pos (by omega)]; first | done | rfl
      · rw [if_neg c2, if_neg (by omega)]; first | done | rfl
theorem sum_part {α : Type} {f : α → Nat} {n : Nat} : ∀ {ds : List α}, (∀ d ∈ ds, f d < n) → ((List.range n).map fun x => (ds.filter fun d => decide (f d = x)).length).sum = ds.length
  | [], _ => sum_zero fun _ _ => rfl
  | d :: ds, h => by
    have ih := sum_part (f := f) (n := n) (ds := ds) fun y hy => h y (List.mem_cons_of_mem _ hy)
    have e : (fun x => ((d :: ds).filter fun d => decide (f d = x)).length) = fun x => (if f d = x then 1 else 0) + (ds.filter fun d => decide (f d = x)).length := by
      funext x
      rw [List.filter_cons]
      by_cases c : f d = x
      · rw [if_pos (decide_eq_true c), if_pos c, List.length_cons]; omega
      · rw [if_neg (by rw [decide_eq_true_iff]; exact c), if_neg c]; omega
    rw [e, sum_add, ih, sum_ind, if_pos (h d List.mem_cons_self), List.length_cons]
    omega
theorem lotN_one {rs : List (List Int)} {p : Nat} (hr : Rows rs) (hp : p < rs.length) : ((List.range rs.length).map fun x => lotN rs [(p, x)]).sum = (dls rs).length := by
  rw [← sum_part (f := fun d : List Int => (d.getD p 0).toNat) (n := rs.length) (ds := dls rs) fun d hd => by
    have := (dls_bd hr hd).2 p hp
    show (d.getD p 0).toNat < _
    omega]
  congr 1
  refine List.map_congr_left fun x _ => ?_
  unfold lotN
  congr 1
  refine List.filter_congr fun d hd => ?_
  have := (dls_bd hr hd).2 p hp
  rw [Bool.eq_iff_iff, List.all_eq_true, decide_eq_true_iff]
  constructor
  · intro h
    have := beq_iff_eq.mp (h (p, x) (List.mem_singleton.mpr rfl))
    show (d.getD p 0).toNat = x
    have e2 : d.getD p 0 = (x : Int) := this
    omega
  · intro h q hq
    rw [List.mem_singleton.mp hq]
    refine beq_iff_eq.mpr ?_
    show d.getD p 0 = (x : Int)
    have h : (d.getD p 0).toNat = x := h
    omega

theorem rgL_natI {n : Nat} : rgL 0 (n : Int) = natI (List.range n) := by
  unfold rgL
  rw [show ((n : Int) - 0).toNat = n by omega]
  exact List.map_congr_left fun i _ => by omega
theorem wsum_end {fs : List (List Nat × Nat)} {W : List Nat → Nat} (hn : (fs.map (·.1)).Nodup) (h : ∀ M ∈ fs.map (·.1), M.length = 0) (hW : W [] = 1) : getF [] fs = wsum W fs := by
  match fs, hn, h with
  | [], _, _ => rfl
  | [(M, v)], _, h =>
    have : M = [] := List.length_eq_zero_iff.mp (h M (by simp))
    subst this
    unfold getF wsum
    rw [if_pos rfl]
    show v = v * W [] + 0
    rw [hW]; omega
  | (M, v) :: (N, w) :: r, hn, h =>
    have e1 : M = [] := List.length_eq_zero_iff.mp (h M (by simp))
    have e2 : N = [] := List.length_eq_zero_iff.mp (h N (by simp))
    subst e1; subst e2
    simp at hn
theorem count_ok {rs : List (List Int)} (hr : Rows rs) (hl : rs.length ≤ 12) : fn__law_count [vv (rowsD rs)] = some (.fd (.val (.int ((ways rs (List.range rs.length) (List.range rs.length) : Nat) : Int))), [vv (rowsD rs)]) := by
  unfold fn__law_count s__law_count
  walk_at "evc"
  rw [rgL_natI]
  walk_at "evc"
  obtain ⟨e', h, fs, x2, x3, x4, x5, x6, rfl, h1, h2, h3⟩ := forD_go (tg := tgn 2) (body := L1__law_count)
    (fun i e => ∃ (fs : List (List Nat × Nat)) (x2 x3 x4 x5 x6 : Option Od), e = [vv (rowsD rs), some (.fd (.dit (fD fs))), x2, x3, x4, x5, x6, none] ∧
      (fs.map (·.1)).Nodup ∧ (∀ M ∈ fs.map (·.1), (Asc M ∧ ∀ j ∈ M, j < rs.length) ∧ M.length + i = rs.length) ∧ wsum (ways rs (List.range' i (rs.length - i))) fs = ways rs (List.range rs.length) (List.range rs.length))
    (ds := rs.map tupI) (e := [vv (rowsD rs), some (.fd (.dit (fD [(List.range rs.length, 1)]))), none, none, none, none, none, none])
    ⟨_, none, none, none, none, none, rfl, by simp, fun M hM => by
      rw [List.map_singleton, List.mem_singleton] at hM
      subst hM
      exact ⟨⟨List.pairwise_lt_range, fun j hj => List.mem_range.mp hj⟩, by simp⟩, by
      unfold wsum
      rw [Nat.sub_zero, ← List.range_eq_range']
      simp⟩ (by
    rintro i d e hd ⟨fs, x2, x3, x4, x5, x6, rfl, h1, h2, h3⟩
    rw [List.getElem?_map] at hd
    obtain ⟨r, hx, rfl⟩ := map_some hd
    obtain ⟨hi, hri⟩ := List.getElem?_eq_some_iff.mp hx
    have hrow := hr.row r (List.mem_of_getElem? hx)
    have hg : rs.getD i [] = r := by rw [List.getD_eq_getElem?_getD, hx]; rfl
    obtain ⟨fs2, x42, x52, x62, e2, h4, h5, h6⟩ := count1 (rs := rs) (x3 := x3) (x4 := x4) (x5 := x5) (x6 := x6) hrow hl h1 (fun M hM => (h2 M hM).1)
    walk_at "evc"
    rw [e2]
    refine ⟨_, rfl, fs2, _, _, _, _, _, rfl, h4, fun M hM => ?_, ?_⟩
    · obtain ⟨L, hL, x, hxL, rfl⟩ := h5 M hM
      have h7 := h2 L hL
      have := List.length_pos_of_mem hxL
      exact ⟨⟨asc_erase h7.1.1, fun j hj => h7.1.2 j (List.mem_of_mem_erase hj)⟩, by rw [List.length_erase_of_mem hxL]; omega⟩
    · rw [h6, ← h3, show rs.length - i = (rs.length - (i + 1)) + 1 by omega, List.range'_succ]
      refine congrArg List.sum (List.map_congr_left fun q _ => ?_)
      congr 1
      show onW _ _ _ = (((rs.getD i []).filter fun x => decide (x.toNat ∈ q.1)).map fun x => ways rs (List.range' (i + 1) (rs.length - (i + 1))) (q.1.erase x.toNat)).sum
      rw [hg]
      rfl)
  have h' : forD (tgn 2) L1__law_count (rs.map tupI) [vv (rowsD rs), some (.fd (.dit [((natI (List.range rs.length)).map .inl, .int 1)])), none, none, none, none, none, none] = _ := h
  rw [h']
  rw [List.length_map] at h2 h3
  rw [Nat.sub_self] at h3
  walk_at "evc"
  have e1 := dget_fD (L := []) (fs := fs)
  have e1 : (dget (fD fs) []).getD (.int 0) = _ := e1
  rw [e1, wsum_end (W := ways rs (List.range' rs.length 0)) h1 (fun M hM => by have := (h2 M hM).2; omega) rfl, h3]
  walk_at "evc"
theorem pick_nat {t : List D} {n : Nat} (ht : Tape t) (h1 : 0 < n) (h2 : n < 1073741824) :
    ∃ (r : Nat) (t' : List D), fn__law_pick [vl t, vv (.int (n : Nat))] = some (.fd (.val (.int (r : Nat))), [vl t', vv (.int (n : Nat))]) ∧ Tape t' ∧ r < n := by
  obtain ⟨r, t', h, ht', h3, h4⟩ := pick_ok (n := (n : Int)) ht (by omega) (by omega)
  refine ⟨r.toNat, t', ?_, ht', by omega⟩
  rw [show ((r.toNat : Nat) : Int) = r by omega]; exact h
theorem drawn_ok {t : List D} (ht : Tape t) : ∃ (rs : List (List Int)) (t' : List D), fn__law_drawn [vl t] = some (.fd (.val (rowsD rs)), [vl t']) ∧ Tape t' ∧ 1 ≤ rs.length ∧ rs.length ≤ 12 ∧ Rows rs := by
  obtain ⟨a, t1, e1, ht1, ha⟩ := pick_nat (n := 2) ht (by decide) (by decide)
  obtain ⟨b, t2, e2, ht2, hb⟩ := pick_nat (n := 10) ht1 (by decide) (by decide)
  obtain ⟨k, t3, e3, ht3, hk⟩ := pick_nat (n := 4) ht2 (by decide) (by decide)
  have e1 : fn__law_pick [vl t, vv (.int 2)] = _ := e1
  have e2 : fn__law_pick [vl t1, vv (.int 10)] = _ := e2
  have e3 : fn__law_pick [vl t2, vv (.int 4)] = _ := e3
  obtain ⟨n, hn1, hn2, hn3⟩ : ∃ n : Nat, 7 + ((a : Nat) : Int) + (if ((b : Nat) : Int) = 0 then 1 else 0) = ((n : Nat) : Int) ∧ 7 ≤ n ∧ n ≤ 9 := by
    by_cases c : ((b : Nat) : Int) = 0
    · exact ⟨7 + a + 1, by rw [if_pos c]; omega, by omega, by omega⟩
    · exact ⟨7 + a, by rw [if_neg c]; omega, by omega, by omega⟩
  unfold fn__law_drawn s__law_drawn
  walk_at "evc"
  rw [e1]
  walk_at "evc"
  rw [e2]
  walk_at "evc"
  rw [hn1, e3]
  walk_at "evc"
  by_cases c0 : ((k : Nat) : Int) = 0
  · walk_at "evc"
    rw [rgN0, lcD_mapS (f := fun _ => tupI (natI (List.range n))) (by rw [List.length_range]; omega) (fun p hp => by
      unfold C1e__law_drawn
      walk_at "evc"
      rw [rgL_natI])]
    walk_at "evc"
    refine ⟨(List.range n).map fun _ => natI (List.range n), t3, by unfold rowsD; rw [List.map_map]; rfl, ht3, by simp; omega, by simp; omega, ⟨fun r hr => ?_⟩⟩
    obtain ⟨_, _, rfl⟩ := List.mem_map.mp hr
    rw [List.length_map, List.length_range]
    exact natI_row List.pairwise_lt_range fun p hp => List.mem_range.mp hp
  · by_cases c1 : ((k : Nat) : Int) = 1
    · walk_at "evc"
      rw [rgN0, lcD_mapS (f := fun p => tupI (natI ((List.range n).filter fun q => decide (q ≠ p)))) (by rw [List.length_range]; omega) (fun p hp => by
        unfold C3e__law_drawn
        walk_at "evc"
        rw [rgN0, lcD_filt (p := fun q => decide (q ≠ p)) (f := fun q => .int ((q : Nat) : Int)) (by rw [List.length_range]; omega) (fun q hq => by
          unfold C2t__law_drawn C2e__law_drawn
          by_cases e : q = p
          · have e2 : ((q : Nat) : Int) = (p : Nat) := by omega
            walk_at "evc"
          · have e2 : ¬ ((q : Nat) : Int) = (p : Nat) := by omega
            walk_at "evc")]
        rw [show ((List.range n).filter fun q => decide (q ≠ p)).map (fun q => D.int ((q : Nat) : Int)) = (natI ((List.range n).filter fun q => decide (q ≠ p))).map .int by rw [List.map_map]; rfl]
        walk_at "evc")]
      walk_at "evc"
      refine ⟨(List.range n).map fun p => natI ((List.range n).filter fun q => decide (q ≠ p)), t3, by unfold rowsD; rw [List.map_map]; rfl, ht3, by simp; omega, by simp; omega, ⟨fun r hr => ?_⟩⟩
      obtain ⟨p, _, rfl⟩ := List.mem_map.mp hr
      rw [List.length_map, List.length_range]
      exact natI_row (List.pairwise_lt_range.filter _) fun p hp => List.mem_range.mp (List.mem_filter.mp hp).1
    · by_cases c2 : ((k : Nat) : Int) = 2
      · obtain ⟨rs, t4, e4, ht4, hr1, hr2, hr⟩ := blocks_ok (n := 12) ht3 (by decide) (by decide)
        have e4 : fn__law_blocks [vl t3, vv (.int 12)] = _ := e4
        obtain ⟨qs, t5, e5, ht5, hq, hqr⟩ := moved_ok ht4 (by omega) hr
        walk_at "evc"
        rw [e4]
        walk_at "evc"
        rw [e5]
        walk_at "evc"
        exact ⟨qs, t5, rfl, ht5, by omega, by omega, hqr⟩
      · obtain ⟨rs, t4, e4, ht4, hr1, hr⟩ := loose_ok (n := n) ht3 (by omega)
        walk_at "evc"
        rw [e4]
        walk_at "evc"
        exact ⟨rs, t4, rfl, ht4, by omega, by omega, hr⟩

abbrev exc (n p : Nat) : List Nat := (List.range n).filter fun q => decide (q ≠ p)
theorem exc_asc {n p : Nat} : Asc (exc n p) := List.pairwise_lt_range.filter _
theorem exc_bd {n p : Nat} : ∀ q ∈ exc n p, q < n := fun q h => List.mem_range.mp (List.mem_filter.mp h).1
theorem exc_len {n p : Nat} (h : p < n) : (exc n p).length + 1 = n := by
  have := comp_len (n := n) (s := [p]) (by simp) (by simpa using h)
  rw [show ((List.range n).filter fun i => decide (i ∉ [p])) = exc n p from List.filter_congr fun q _ => by simp] at this
  simp at this; omega
theorem lset_one {n p t : Nat} (hp : p < n) (ht : t < n) : lset n [(p, t)] = [(p, t)] := by
  have hb : Lot n [(p, t)] := fun q hq => by rw [List.mem_singleton.mp hq]; exact ⟨hp, ht⟩
  have h1 := lset_lex (n := n) (lot := [(p, t)])
  have h2 : ∀ q, q ∈ lset n [(p, t)] ↔ q ∈ [(p, t)] := fun q => lset_mem hb
  exact asc_ext (r := lexn) (fun x h => by rcases h with h | h <;> omega) (fun x y h h' => by rcases h with h | h <;> rcases h' with h' | h' <;> omega) h1 (List.pairwise_singleton _ _) h2
theorem lot1_in {rs : List (List Int)} (hr : Rows rs) {p t : Nat} (hp : p < rs.length) (ht : t < rs.length) (h : (t : Int) ∈ rs.getD p []) : lotN rs [(p, t)] = ways rs (exc rs.length p) (exc rs.length t) := by
  have hb : Lot rs.length [(p, t)] := fun q hq => by rw [List.mem_singleton.mp hq]; exact ⟨hp, ht⟩
  have hs := lset_one hp ht
  rw [lot_good hr hb (by rw [hs]; exact ⟨by simp, by simp, fun q hq => by rw [List.mem_singleton.mp hq]; exact h⟩), hs]
  congr 1 <;> exact List.filter_congr fun q _ => by simp
theorem lot1_out {rs : List (List Int)} {p t : Nat} (hp : p < rs.length) (ht : t < rs.length) (h : ¬ (t : Int) ∈ rs.getD p []) : lotN rs [(p, t)] = 0 := by
  have hb : Lot rs.length [(p, t)] := fun q hq => by rw [List.mem_singleton.mp hq]; exact ⟨hp, ht⟩
  refine lot_bad hb fun g => h ?_
  rw [lset_one hp ht] at g
  exact g.2.2 (p, t) (List.mem_singleton.mpr rfl)
theorem lot1_sum {rs : List (List Int)} (hr : Rows rs) {p : Nat} (hp : p < rs.length) : ((rs.getD p []).map fun x => lotN rs [(p, x.toNat)]).sum = (dls rs).length := by
  have hrow := hr.get hp
  rw [← lotN_one hr hp]
  have h1 : ((rs.getD p []).map Int.toNat).Perm ((List.range rs.length).filter fun i => decide ((i : Int) ∈ rs.getD p [])) := by
    refine (List.perm_ext_iff_of_nodup (List.pairwise_map.mpr (hrow.lt.imp_of_mem fun {a b} ha hb h => ?_)) (List.nodup_range.filter _)).mpr fun i => ?_
    · have := hrow.bd a ha; have := hrow.bd b hb
      omega
    · rw [List.mem_filter, List.mem_range, decide_eq_true_iff, List.mem_map]
      constructor
      · rintro ⟨x, hx, rfl⟩
        have := hrow.bd x hx
        rw [show ((x.toNat : Nat) : Int) = x by omega]
        exact ⟨by omega, hx⟩
      · rintro ⟨_, h⟩
        exact ⟨_, h, by simp⟩
  have h2 := (h1.map fun i => lotN rs [(p, i)]).sum_nat
  rw [List.map_map] at h2
  have h3 := sum_filt (f := fun i => lotN rs [(p, i)]) (P := fun i => decide (i < rs.length)) (Q := fun i => decide ((i : Int) ∈ rs.getD p [])) (xs := List.range rs.length) (fun i h3 h4 => lot1_out hp (of_decide_eq_true h3) (of_decide_eq_false h4))
  rw [List.filter_eq_self.mpr fun i hi => decide_eq_true (List.mem_range.mp hi)] at h3
  rw [h3]
  refine h2.trans ?_
  congr 2
  exact List.filter_congr fun i hi => by rw [decide_eq_true (List.mem_range.mp hi), Bool.true_and]
theorem dls_nd {rs : List (List Int)} (hr : Rows rs) : (dls rs).Nodup := by
  rw [dls_eq]; exact asgL_nodup fun r h => (hr.row r h).nodup
theorem len_split {α : Type} {q : α → Bool} : ∀ {l : List α}, l.length = (l.filter q).length + (l.filter fun x => !q x).length
  | [] => rfl
  | x :: l => by
    rw [List.length_cons, len_split (q := q) (l := l), List.filter_cons, List.filter_cons]
    cases q x <;> simp <;> omega
theorem tie_sum {rs : List (List Int)} (hr : Rows rs) {p t : Nat} (hp : p < rs.length) (ht : t < rs.length) : (dls (withT rs p t)).length = (dls (lessT rs p t)).length + lotN (withT rs p t) [(p, t)] := by
  have hb : 0 ≤ (t : Int) ∧ (t : Int) < rs.length := ⟨by omega, by omega⟩
  have hw := withT_rows hr hp hb
  have hl := lessT_rows (x := (t : Int)) hr hp
  have h1 := len_split (l := dls (withT rs p t)) (q := fun d => [(p, t)].all fun q => d.getD q.1 0 == (q.2 : Int))
  have h2 : (dls (lessT rs p t)).Perm ((dls (withT rs p t)).filter fun d => !([(p, t)].all fun q => d.getD q.1 0 == (q.2 : Int))) := by
    refine (List.perm_ext_iff_of_nodup (dls_nd hl) ((dls_nd hw).filter _)).mpr fun d => ?_
    rw [List.mem_filter, dls_mem, dls_mem, lessT_len, withT_len]
    have hrow : ∀ (rs' : List (List Int)), rs'.length = rs.length → ((∀ (i : Nat) (x : Int) (r : List Int), d[i]? = some x → rs'[i]? = some r → x ∈ r) ↔ ∀ (i : Nat) (x : Int), i < rs.length → d[i]? = some x → x ∈ rs'.getD i []) := fun rs' hl => by
      constructor
      · intro h i x hi hd
        exact h i x _ hd (by rw [List.getD_eq_getElem?_getD, List.getElem?_eq_getElem (by omega)]; rfl)
      · intro h i x r hd hr
        have hi := (List.getElem?_eq_some_iff.mp hr).1
        have := h i x (by omega) hd
        rw [List.getD_eq_getElem?_getD, hr] at this
        exact this
    rw [hrow _ lessT_len, hrow _ withT_len]
    have hg : ∀ {i : Nat} {x : Int}, d[i]? = some x → d.getD i 0 = x := fun {i x} e => by rw [List.getD_eq_getElem?_getD, e]; rfl
    have e1 : (!([(p, t)].all fun q => d.getD q.1 0 == (q.2 : Int))) = true ↔ d.getD p 0 ≠ (t : Int) := by simp
    rw [e1]
    unfold lessT withT
    constructor
    · rintro ⟨a, b, c⟩
      refine ⟨⟨a, b, fun i x hi hd => ?_⟩, fun e => ?_⟩
      · have := c i x hi hd
        rw [getD_set hp] at this ⊢
        by_cases h : p = i
        · subst h
          rw [if_pos rfl] at this ⊢
          exact addR_mem.mpr (.inl (delR_mem.mp this).1)
        · rw [if_neg h] at this ⊢; exact this
      · have := c p _ hp (by rw [List.getElem?_eq_getElem (by omega)])
        rw [getD_set hp, if_pos rfl, ← hg (by rw [List.getElem?_eq_getElem (by omega)] : d[p]? = some d[p]), e] at this
        exact (delR_mem.mp this).2 rfl
    · rintro ⟨⟨a, b, c⟩, e⟩
      refine ⟨a, b, fun i x hi hd => ?_⟩
      have := c i x hi hd
      rw [getD_set hp] at this ⊢
      by_cases h : p = i
      · subst h
        rw [if_pos rfl] at this ⊢
        have hx : x ≠ (t : Int) := fun z => e (by rw [hg hd, z])
        exact delR_mem.mpr ⟨(addR_mem.mp this).resolve_right hx, hx⟩
      · rw [if_neg h] at this ⊢; exact this
  rw [h1, h2.length_eq]
  unfold lotN
  exact Nat.add_comm _ _

theorem rng_nat {n : Nat} : rgN 0 n = (List.range n).map fun i => D.int ((i : Nat) : Int) := rgN0
theorem exc_tup {n p : Nat} : D.tup ((exc n p).map fun q => D.int ((q : Nat) : Int)) = tupI (natI (exc n p)) := by
  unfold tupI; rw [List.map_map]; rfl
theorem renR_row {n : Nat} {T : List Nat} {r : List Int} (hT : Asc T) (hr : Row n r) : Row T.length (renR T r) := by
  unfold renR
  refine ⟨List.pairwise_map.mpr ((hr.lt.filter _).imp_of_mem fun {a b} ha hb h => ?_), fun x hx => ?_⟩
  · have h1 := of_decide_eq_true (List.mem_filter.mp ha).2
    have h2 := of_decide_eq_true (List.mem_filter.mp hb).2
    have b1 := hr.bd a (List.mem_filter.mp ha).1
    have b2 := hr.bd b (List.mem_filter.mp hb).1
    have g1 := getD_idx h1
    have g2 := getD_idx h2
    rcases Nat.lt_trichotomy (T.idxOf a.toNat) (T.idxOf b.toNat) with z | z | z
    · omega
    · rw [z] at g1; omega
    · have := asc_getD_lt hT z (List.idxOf_lt_length_of_mem h1)
      omega
  · obtain ⟨y, hy, rfl⟩ := List.mem_map.mp hx
    have h1 := of_decide_eq_true (List.mem_filter.mp hy).2
    have := List.idxOf_lt_length_of_mem h1
    omega
theorem kept_rows {rs : List (List Int)} {P T : List Nat} (hr : Rows rs) (hT : Asc T) (hPb : ∀ p ∈ P, p < rs.length) (hpt : P.length = T.length) : Rows (P.map fun q => renR T (rs.getD q [])) := by
  refine ⟨fun r h => ?_⟩
  obtain ⟨q, hq, rfl⟩ := List.mem_map.mp h
  rw [List.length_map, hpt]
  exact renR_row hT (hr.get (hPb q hq))
theorem dls_small {rs : List (List Int)} (hr : Rows rs) (hl : rs.length ≤ 12) : (dls rs).length ≤ 8916100448256 := by
  have key : ∀ (rows : List (List Int)) (found : List (List Int)) (a : Nat), found.length ≤ a → (rows.foldl dstep found).length ≤ capA a rows := by
    intro rows
    induction rows with
    | nil => intro found a h; exact h
    | cons r rows ih =>
      intro found a h
      refine ih _ _ ?_
      have : (dstep found r).length ≤ found.length * r.length := by
        unfold dstep
        exact flat_len fun x _ => by
          rw [List.length_map]
          exact List.length_filter_le _ _
      exact Nat.le_trans this (Nat.mul_le_mul_right _ h)
  have h1 := key rs [[]] 1 (Nat.le_refl _)
  have h2 := capA_pow (m := 12) (l := rs) (a := 1) fun r h => by have := (hr.row r h).len; omega
  have h3 : 12 ^ rs.length ≤ 12 ^ 12 := Nat.pow_le_pow_right (by decide) hl
  have h4 : (dls rs).length = (rs.foldl dstep [[]]).length := rfl
  omega
theorem law_true (ns : List Int) (hn : ns.length ≤ 63) : ∃ env, fn_law [some (.fd (.val (.scr ns)))] = some (.fd (.val (.bl true)), env) := by
  unfold fn_law s_law
  obtain ⟨rs, t, h1, ht, hl1, hl2, hr⟩ := drawn_ok (t := tapeD ns 0 0 1 0) ⟨ns, 0, 0, 1, 0, rfl, Int.le_refl 0⟩
  have hdue := many_dealings_ok (c := 0) hr (by omega)
  rw [dls_ways hr] at hdue
  have hcnt := count_ok hr hl2
  rw [dls_ways hr] at hcnt
  obtain ⟨p, t2, hp, ht2, hpn⟩ := pick_nat (n := rs.length) ht (by omega) (by omega)
  walk_at "evc"
  rw [tape_ok]
  walk_at "evc"
  rw [h1]
  walk_at "evc"
  rw [Table_ok hr hl1 hl2]
  walk_at "evc"
  rw [hcnt]
  walk_at "evc"
  rw [hdue]
  walk_at "evc"
  rw [hp]
  walk_at "evc"
  rw [rng_nat, lcD_filt (p := fun q => decide (q ≠ p)) (f := fun q => .int ((q : Nat) : Int)) (by rw [List.length_range]; omega) (fun q hq => by
    unfold C1t_law C1e_law
    by_cases e : q = p
    · have e2 : ((q : Nat) : Int) = (p : Nat) := by omega
      walk_at "evc"
    · have e2 : ¬ ((q : Nat) : Int) = (p : Nat) := by omega
      walk_at "evc")]
  walk_at "evc"
  rw [exc_tup, rowsD_at hpn]
  walk_at "evc"
  have hrow := hr.get hpn
  have hwk : ∀ x : Int, x ∈ rs.getD p [] → x.toNat < rs.length ∧ ((x.toNat : Nat) : Int) = x ∧ lotN rs [(p, x.toNat)] = ways rs (exc rs.length p) (exc rs.length x.toNat) := fun x hx => by
    have hb := hrow.bd x hx
    have e : ((x.toNat : Nat) : Int) = x := by omega
    exact ⟨by omega, e, lot1_in hr hpn (by omega) (by rw [e]; exact hx)⟩
  obtain ⟨e', h, x10, x11, rfl⟩ := forD_go (tg := tgn 10) (body := L1_law)
    (fun i e => ∃ x10 x11, e = [vv (.scr ns), vl t2, vv (rowsD rs), vv (tabD 0 rs), vv (.int (rs.length : Nat)), vv (.int ((dls rs).length : Nat)), vv (.int (p : Nat)), vv (tupI (natI (exc rs.length p))), none, vv (.int (((((rs.getD p []).take i).map fun x => lotN rs [(p, x.toNat)]).sum : Nat) : Int)), x10, x11, none])
    (ds := (rs.getD p []).map .int) (e := [vv (.scr ns), vl t2, vv (rowsD rs), vv (tabD 0 rs), vv (.int (rs.length : Nat)), vv (.int ((dls rs).length : Nat)), vv (.int (p : Nat)), vv (tupI (natI (exc rs.length p))), none, vv (.int 0), none, none, none])
    ⟨none, none, rfl⟩ (by
    rintro i d e hd ⟨x10, x11, rfl⟩
    rw [List.getElem?_map] at hd
    obtain ⟨x, hx, rfl⟩ := map_some hd
    obtain ⟨hxb, hxe, hw⟩ := hwk x (List.mem_of_getElem? hx)
    have hmw := many_with_ok (c := 0) (lot := [(p, x.toNat)]) hr (.inr rfl) (fun q hq => by rw [List.mem_singleton.mp hq]; exact ⟨hpn, hxb⟩) hl2 (by simp)
    have hmw : fn_many_with [vv (tabD 0 rs), vv (.tup [.tup [.int ((p : Nat) : Int), .int ((x.toNat : Nat) : Int)]])] = _ := hmw
    rw [hxe] at hmw
    have hsum : (((((rs.getD p []).take i).map fun x => lotN rs [(p, x.toNat)]).sum : Nat) : Int) + ((lotN rs [(p, x.toNat)] : Nat) : Int) = (((((rs.getD p []).take (i + 1)).map fun x => lotN rs [(p, x.toNat)]).sum : Nat) : Int) := by
      rw [List.take_succ, hx, List.map_append, List.sum_append]
      simp
    unfold L1_law
    by_cases c : (1 : Int) < ((rs.length : Nat) : Int)
    · have hP := exc_len hpn
      have hT := exc_len hxb
      have hk := kept_ok (c := 0) hr (exc_asc (n := rs.length) (p := p)) (exc_asc (n := rs.length) (p := x.toNat)) exc_bd exc_bd (by omega) (by omega) (by omega)
      have hK := ways_kept (rs := rs) (K := (exc rs.length p).map fun q => renR (exc rs.length x.toNat) (rs.getD q [])) (P := exc rs.length p) (T := exc rs.length x.toNat) exc_asc (by rw [List.length_map]) (by omega) fun i q hq => by
        rw [List.getD_eq_getElem?_getD, List.getElem?_map, hq]; rfl
      have hm := many_dealings_ok (c := 1) (kept_rows (P := exc rs.length p) (T := exc rs.length x.toNat) hr exc_asc exc_bd (by omega)) (by rw [List.length_map]; omega)
      rw [hK, ← hw] at hm
      simp only [tabD, List.length_map] at hm
      walk_at "evc"
      rw [rng_nat, lcD_filt (p := fun q => decide (q ≠ x.toNat)) (f := fun q => .int ((q : Nat) : Int)) (by rw [List.length_range]; omega) (fun q hq => by
        unfold C2t_law C2e_law
        by_cases e : q = x.toNat
        · have e2 : ((q : Nat) : Int) = x := by omega
          walk_at "evc"
        · have e2 : ¬ ((q : Nat) : Int) = x := by omega
          walk_at "evc")]
      walk_at "evc"
      rw [exc_tup, hk]
      walk_at "evc"
      rw [hm]
      walk_at "evc"
      rw [hmw]
      walk_at "evc"
      rw [hsum]
      exact ⟨_, rfl, _, _, rfl⟩
    · have hn1 : rs.length = 1 := by omega
      have hone : lotN rs [(p, x.toNat)] = 1 := by
        have hP := exc_len hpn
        have : exc rs.length p = [] := List.length_eq_zero_iff.mp (by omega)
        rw [hw, this]; rfl
      rw [hone] at hmw hsum
      have hsum : (((((rs.getD p []).take i).map fun x => lotN rs [(p, x.toNat)]).sum : Nat) : Int) + 1 = _ := hsum
      have hmw : fn_many_with [vv (tabD 0 rs), vv (.tup [.tup [.int ((p : Nat) : Int), .int x]])] = some (.fd (.val (.int 1)), _) := hmw
      walk_at "evc"
      rw [hmw]
      walk_at "evc"
      rw [hsum]
      exact ⟨_, rfl, _, _, rfl⟩)
  rw [List.length_map, List.take_length, lot1_sum hr hpn] at h
  rw [h]
  obtain ⟨q, t3, hq, ht3, hqn⟩ := pick_nat (n := rs.length) ht2 (by omega) (by omega)
  have hb : 0 ≤ ((q : Nat) : Int) ∧ ((q : Nat) : Int) < rs.length := ⟨by omega, by omega⟩
  have hW := withT_rows hr hpn hb
  have hL := lessT_rows (x := ((q : Nat) : Int)) hr hpn
  have hwl := withT_len (rs := rs) (p := p) (x := ((q : Nat) : Int))
  have hll := lessT_len (rs := rs) (p := p) (x := ((q : Nat) : Int))
  have m1 := many_dealings_ok (c := 1) hW (by omega)
  have m2 := many_dealings_ok (c := 1) hL (by omega)
  rw [dls_ways hW] at m1
  rw [dls_ways hL] at m2
  have m3 := many_with_ok (c := 1) (lot := [(p, q)]) hW (.inl rfl) (fun z hz => by rw [List.mem_singleton.mp hz, hwl]; exact ⟨hpn, hqn⟩) (by omega) (by simp)
  have m3 : fn_many_with [vv (tabD 1 (withT rs p q)), vv (.lst [.tup [.int ((p : Nat) : Int), .int ((q : Nat) : Int)]])] = _ := m3
  have hts := tie_sum hr hpn hqn
  have m4 := many_dealings_ok (c := 1) (beside_rows hr hr) (by rw [beside_len]; omega)
  rw [ways_beside hr hr, dls_ways hr] at m4
  have hadd : (((dls (lessT rs p q)).length : Nat) : Int) + ((lotN (withT rs p q) [(p, q)] : Nat) : Int) = (((dls (withT rs p q)).length : Nat) : Int) := by omega
  walk_at "evc"
  rw [hq]
  walk_at "evc"
  rw [with_tie_ok hr (by omega) hpn hb]
  walk_at "evc"
  rw [m1]
  walk_at "evc"
  rw [without_tie_ok hr (by omega) hpn hb]
  walk_at "evc"
  rw [m2]
  walk_at "evc"
  rw [m3]
  walk_at "evc"
  rw [beside_ok hr (by omega)]
  walk_at "evc"
  rw [m4]
  have hsm := dls_small hr hl2
  have hz1 : -(2 ^ 64 : Int) < (((dls rs).length : Nat) : Int) := by omega
  have hz2 : (((dls rs).length : Nat) : Int) < (2 ^ 64 : Int) := by omega
  walk_at "evc"
  rw [show (((dls rs).length * (dls rs).length : Nat) : Int) = (((dls rs).length : Nat) : Int) * (((dls rs).length : Nat) : Int) from Int.natCast_mul _ _, decide_eq_true rfl]
  exact ⟨_, rfl⟩

end
end k14
namespace k14
open PySem PySem.Spec PyProof.Rows L2 DL
/-! ### the text -/
def topS (i : Nat) : Stmt := PySem.Challenge.pw_fullorring_k14_whole_great_numbers_of_de.main.body.getD i (.Pass ⟨0, 0, 0, 0⟩)
abbrev st_is_integer : Stmt := topS 9
abbrev N_is_integer : List Str := ["thing"]
theorem sc_is_integer : FnScope N_is_integer ["thing"] (defScope st_is_integer) := ⟨rfl, rfl, rfl, by decide +kernel, rfl, by decide +kernel, by decide +kernel⟩
abbrev st_is_within : Stmt := topS 10
abbrev N_is_within : List Str := ["thing", "least", "most"]
theorem sc_is_within : FnScope N_is_within ["thing", "least", "most"] (defScope st_is_within) := ⟨rfl, rfl, rfl, by decide +kernel, rfl, by decide +kernel, by decide +kernel⟩
abbrev st_is_pair : Stmt := topS 11
abbrev N_is_pair : List Str := ["thing"]
theorem sc_is_pair : FnScope N_is_pair ["thing"] (defScope st_is_pair) := ⟨rfl, rfl, rfl, by decide +kernel, rfl, by decide +kernel, by decide +kernel⟩
abbrev st_is_listed : Stmt := topS 12
abbrev N_is_listed : List Str := ["thing"]
theorem sc_is_listed : FnScope N_is_listed ["thing"] (defScope st_is_listed) := ⟨rfl, rfl, rfl, by decide +kernel, rfl, by decide +kernel, by decide +kernel⟩
abbrev st_are_ascending : Stmt := topS 13
abbrev N_are_ascending : List Str := ["things", "one", "other"]
theorem sc_are_ascending : FnScope N_are_ascending ["things"] (defScope st_are_ascending) := ⟨rfl, rfl, rfl, by decide +kernel, rfl, by decide +kernel, by decide +kernel⟩
abbrev st_is_lot_of : Stmt := topS 14
abbrev N_is_lot_of : List Str := ["thing", "many", "one"]
theorem sc_is_lot_of : FnScope N_is_lot_of ["thing", "many"] (defScope st_is_lot_of) := ⟨rfl, rfl, rfl, by decide +kernel, rfl, by decide +kernel, by decide +kernel⟩
abbrev st_check_many : Stmt := topS 15
abbrev N_check_many : List Str := ["number", "most"]
theorem sc_check_many : FnScope N_check_many ["number", "most"] (defScope st_check_many) := ⟨rfl, rfl, rfl, by decide +kernel, rfl, by decide +kernel, by decide +kernel⟩
abbrev st_Table___init__ : Stmt := inClass (topS 19) 0
abbrev N_Table___init__ : List Str := ["self", "rows", "person", "row"]
theorem sc_Table___init__ : FnScope N_Table___init__ ["self", "rows"] (defScope st_Table___init__) := ⟨rfl, rfl, rfl, by decide +kernel, rfl, by decide +kernel, by decide +kernel⟩
abbrev st_Table_keep : Stmt := inClass (topS 19) 1
abbrev N_Table_keep : List Str := ["self", "rows"]
theorem sc_Table_keep : FnScope N_Table_keep ["self", "rows"] (defScope st_Table_keep) := ⟨rfl, rfl, rfl, by decide +kernel, rfl, by decide +kernel, by decide +kernel⟩
abbrev st_Table___eq__ : Stmt := inClass (topS 19) 2
abbrev N_Table___eq__ : List Str := ["self", "other"]
theorem sc_Table___eq__ : FnScope N_Table___eq__ ["self", "other"] (defScope st_Table___eq__) := ⟨rfl, rfl, rfl, by decide +kernel, rfl, by decide +kernel, by decide +kernel⟩
abbrev st_RawTable___init__ : Stmt := inClass (topS 20) 0
abbrev N_RawTable___init__ : List Str := ["self", "rows"]
theorem sc_RawTable___init__ : FnScope N_RawTable___init__ ["self", "rows"] (defScope st_RawTable___init__) := ⟨rfl, rfl, rfl, by decide +kernel, rfl, by decide +kernel, by decide +kernel⟩
abbrev st_is_person : Stmt := topS 21
abbrev N_is_person : List Str := ["table", "thing"]
theorem sc_is_person : FnScope N_is_person ["table", "thing"] (defScope st_is_person) := ⟨rfl, rfl, rfl, by decide +kernel, rfl, by decide +kernel, by decide +kernel⟩
abbrev st_check_person : Stmt := topS 22
abbrev N_check_person : List Str := ["table", "thing"]
theorem sc_check_person : FnScope N_check_person ["table", "thing"] (defScope st_check_person) := ⟨rfl, rfl, rfl, by decide +kernel, rfl, by decide +kernel, by decide +kernel⟩
abbrev st_check_thing : Stmt := topS 23
abbrev N_check_thing : List Str := ["table", "thing"]
theorem sc_check_thing : FnScope N_check_thing ["table", "thing"] (defScope st_check_thing) := ⟨rfl, rfl, rfl, by decide +kernel, rfl, by decide +kernel, by decide +kernel⟩
abbrev st_check_pair : Stmt := topS 24
abbrev N_check_pair : List Str := ["table", "person", "thing"]
theorem sc_check_pair : FnScope N_check_pair ["table", "person", "thing"] (defScope st_check_pair) := ⟨rfl, rfl, rfl, by decide +kernel, rfl, by decide +kernel, by decide +kernel⟩
abbrev st_with_row : Stmt := topS 25
abbrev N_with_row : List Str := ["table", "person", "row"]
theorem sc_with_row : FnScope N_with_row ["table", "person", "row"] (defScope st_with_row) := ⟨rfl, rfl, rfl, by decide +kernel, rfl, by decide +kernel, by decide +kernel⟩
abbrev st_with_tie : Stmt := topS 26
abbrev N_with_tie : List Str := ["table", "person", "thing", "others", "other"]
theorem sc_with_tie : FnScope N_with_tie ["table", "person", "thing"] (defScope st_with_tie) := ⟨rfl, rfl, rfl, by decide +kernel, rfl, by decide +kernel, by decide +kernel⟩
abbrev st_without_tie : Stmt := topS 27
abbrev N_without_tie : List Str := ["table", "person", "thing", "other"]
theorem sc_without_tie : FnScope N_without_tie ["table", "person", "thing"] (defScope st_without_tie) := ⟨rfl, rfl, rfl, by decide +kernel, rfl, by decide +kernel, by decide +kernel⟩
abbrev st_beside : Stmt := topS 28
abbrev N_beside : List Str := ["one", "other", "later", "thing", "row"]
theorem sc_beside : FnScope N_beside ["one", "other"] (defScope st_beside) := ⟨rfl, rfl, rfl, by decide +kernel, rfl, by decide +kernel, by decide +kernel⟩
abbrev st_kept_in : Stmt := topS 29
abbrev N_kept_in : List Str := ["table", "people", "things", "place", "number", "thing", "rows", "person"]
theorem sc_kept_in : FnScope N_kept_in ["table", "people", "things"] (defScope st_kept_in) := ⟨rfl, rfl, rfl, by decide +kernel, rfl, by decide +kernel, by decide +kernel⟩
abbrev st_check_some_of : Stmt := topS 30
abbrev N_check_some_of : List Str := ["table", "thing"]
theorem sc_check_some_of : FnScope N_check_some_of ["table", "thing"] (defScope st_check_some_of) := ⟨rfl, rfl, rfl, by decide +kernel, rfl, by decide +kernel, by decide +kernel⟩
abbrev st_kept : Stmt := topS 31
abbrev N_kept : List Str := ["table", "people", "things"]
theorem sc_kept : FnScope N_kept ["table", "people", "things"] (defScope st_kept) := ⟨rfl, rfl, rfl, by decide +kernel, rfl, by decide +kernel, by decide +kernel⟩
abbrev st_bits : Stmt := topS 33
abbrev N_bits : List Str := ["numbers", "number"]
theorem sc_bits : FnScope N_bits ["numbers"] (defScope st_bits) := ⟨rfl, rfl, rfl, by decide +kernel, rfl, by decide +kernel, by decide +kernel⟩
abbrev st_without : Stmt := topS 34
abbrev N_without : List Str := ["lot", "number"]
theorem sc_without : FnScope N_without ["lot", "number"] (defScope st_without) := ⟨rfl, rfl, rfl, by decide +kernel, rfl, by decide +kernel, by decide +kernel⟩
abbrev st_has : Stmt := topS 35
abbrev N_has : List Str := ["lot", "number"]
theorem sc_has : FnScope N_has ["lot", "number"] (defScope st_has) := ⟨rfl, rfl, rfl, by decide +kernel, rfl, by decide +kernel, by decide +kernel⟩
abbrev st_least_of : Stmt := topS 36
abbrev N_least_of : List Str := ["lot"]
theorem sc_least_of : FnScope N_least_of ["lot"] (defScope st_least_of) := ⟨rfl, rfl, rfl, by decide +kernel, rfl, by decide +kernel, by decide +kernel⟩
abbrev st_Counter___init__ : Stmt := inClass (topS 37) 0
abbrev N_Counter___init__ : List Str := ["self", "rows"]
theorem sc_Counter___init__ : FnScope N_Counter___init__ ["self", "rows"] (defScope st_Counter___init__) := ⟨rfl, rfl, rfl, by decide +kernel, rfl, by decide +kernel, by decide +kernel⟩
abbrev st_Counter_of : Stmt := inClass (topS 37) 1
abbrev N_Counter_of : List Str := ["self", "people", "things", "key", "person", "rest", "one"]
theorem sc_Counter_of : FnScope N_Counter_of ["self", "people", "things"] (defScope st_Counter_of) := ⟨rfl, rfl, rfl, by decide +kernel, rfl, by decide +kernel, by decide +kernel⟩
abbrev st_Counter_among : Stmt := inClass (topS 37) 2
abbrev N_Counter_among : List Str := ["self", "person", "things", "thing"]
theorem sc_Counter_among : FnScope N_Counter_among ["self", "person", "things"] (defScope st_Counter_among) := ⟨rfl, rfl, rfl, by decide +kernel, rfl, by decide +kernel, by decide +kernel⟩
abbrev st_Counter_total : Stmt := inClass (topS 37) 3
abbrev N_Counter_total : List Str := ["self"]
theorem sc_Counter_total : FnScope N_Counter_total ["self"] (defScope st_Counter_total) := ⟨rfl, rfl, rfl, by decide +kernel, rfl, by decide +kernel, by decide +kernel⟩
abbrev st_many_dealings : Stmt := topS 38
abbrev N_many_dealings : List Str := ["table"]
theorem sc_many_dealings : FnScope N_many_dealings ["table"] (defScope st_many_dealings) := ⟨rfl, rfl, rfl, by decide +kernel, rfl, by decide +kernel, by decide +kernel⟩
abbrev st_is_lot : Stmt := topS 39
abbrev N_is_lot : List Str := ["table", "thing", "pair", "person", "one"]
theorem sc_is_lot : FnScope N_is_lot ["table", "thing"] (defScope st_is_lot) := ⟨rfl, rfl, rfl, by decide +kernel, rfl, by decide +kernel, by decide +kernel⟩
abbrev st_many_with : Stmt := topS 40
abbrev N_many_with : List Str := ["table", "lot", "pairs", "person", "thing", "people", "things", "counter"]
theorem sc_many_with : FnScope N_many_with ["table", "lot"] (defScope st_many_with) := ⟨rfl, rfl, rfl, by decide +kernel, rfl, by decide +kernel, by decide +kernel⟩
abbrev st__law_tape : Stmt := topS 42
abbrev N__law_tape : List Str := ["_law_script"]
theorem sc__law_tape : FnScope N__law_tape ["_law_script"] (defScope st__law_tape) := ⟨rfl, rfl, rfl, by decide +kernel, rfl, by decide +kernel, by decide +kernel⟩
abbrev st__law_pick : Stmt := topS 43
abbrev N__law_pick : List Str := ["_law_tape_here", "_law_size", "_law_digit", "_law_cell", "_law_mixed"]
theorem sc__law_pick : FnScope N__law_pick ["_law_tape_here", "_law_size"] (defScope st__law_pick) := ⟨rfl, rfl, rfl, by decide +kernel, rfl, by decide +kernel, by decide +kernel⟩
abbrev st__law_order : Stmt := topS 44
abbrev N__law_order : List Str := ["_law_tape_here", "_law_many", "_law_left", "_law_k"]
theorem sc__law_order : FnScope N__law_order ["_law_tape_here", "_law_many"] (defScope st__law_order) := ⟨rfl, rfl, rfl, by decide +kernel, rfl, by decide +kernel, by decide +kernel⟩
abbrev st__law_loose : Stmt := topS 45
abbrev N__law_loose : List Str := ["_law_tape_here", "_law_many", "_law_order_here", "_law_thick", "_law_planted", "_law_found", "_law_person", "_law_row", "_law_thing"]
theorem sc__law_loose : FnScope N__law_loose ["_law_tape_here", "_law_many"] (defScope st__law_loose) := ⟨rfl, rfl, rfl, by decide +kernel, rfl, by decide +kernel, by decide +kernel⟩
abbrev st__law_blocks : Stmt := topS 46
abbrev N__law_blocks : List Str := ["_law_tape_here", "_law_most", "_law_found", "_law_base", "_law_size", "_law_kind", "_law_k", "_law_row", "_law_j", "_law_ahead", "_law_thing"]
theorem sc__law_blocks : FnScope N__law_blocks ["_law_tape_here", "_law_most"] (defScope st__law_blocks) := ⟨rfl, rfl, rfl, by decide +kernel, rfl, by decide +kernel, by decide +kernel⟩
abbrev st__law_moved : Stmt := topS 47
abbrev N__law_moved : List Str := ["_law_tape_here", "_law_rows_here", "_law_people", "_law_things", "_law_thing", "_law_person"]
theorem sc__law_moved : FnScope N__law_moved ["_law_tape_here", "_law_rows_here"] (defScope st__law_moved) := ⟨rfl, rfl, rfl, by decide +kernel, rfl, by decide +kernel, by decide +kernel⟩
abbrev st__law_count : Stmt := topS 49
abbrev N__law_count : List Str := ["_law_rows_here", "_law_found", "_law_row", "_law_later", "_law_left", "_law_thing", "_law_key", "_law_other"]
theorem sc__law_count : FnScope N__law_count ["_law_rows_here"] (defScope st__law_count) := ⟨rfl, rfl, rfl, by decide +kernel, rfl, by decide +kernel, by decide +kernel⟩
abbrev st__law_drawn : Stmt := topS 50
abbrev N__law_drawn : List Str := ["_law_tape_here", "_law_many", "_law_kind", "_law_k", "_law_thing"]
theorem sc__law_drawn : FnScope N__law_drawn ["_law_tape_here"] (defScope st__law_drawn) := ⟨rfl, rfl, rfl, by decide +kernel, rfl, by decide +kernel, by decide +kernel⟩
abbrev st_law : Stmt := topS 51
abbrev N_law : List Str := ["_law_script", "_law_tape_here", "_law_rows_here", "_law_table", "_law_many", "_law_due", "_law_person", "_law_others", "_law_k", "_law_total", "_law_thing", "_law_part", "_law_more"]
theorem sc_law : FnScope N_law ["_law_script"] (defScope st_law) := ⟨rfl, rfl, rfl, by decide +kernel, rfl, by decide +kernel, by decide +kernel⟩
/-! ### what the top has left -/
structure Tx (K : PySem.W.Frag) (mg : Str → Option Value) (fa : Nat → Addr) (fdt : Nat → FuncData) (cm : Cm) : Prop where
  F_is_integer : Fun K "is_integer" "is_integer" st_is_integer (fa 2) (fdt 2)
  b_is_integer : Binds K (fdt 2) ["thing"] []
  g_is_integer : mg "is_integer" = some (.ref (fa 2))
  F_is_within : Fun K "is_within" "is_within" st_is_within (fa 3) (fdt 3)
  b_is_within : Binds K (fdt 3) ["thing", "least", "most"] []
  g_is_within : mg "is_within" = some (.ref (fa 3))
  F_is_pair : Fun K "is_pair" "is_pair" st_is_pair (fa 4) (fdt 4)
  b_is_pair : Binds K (fdt 4) ["thing"] []
  g_is_pair : mg "is_pair" = some (.ref (fa 4))
  F_is_listed : Fun K "is_listed" "is_listed" st_is_listed (fa 5) (fdt 5)
  b_is_listed : Binds K (fdt 5) ["thing"] []
  g_is_listed : mg "is_listed" = some (.ref (fa 5))
  F_are_ascending : Fun K "are_ascending" "are_ascending" st_are_ascending (fa 6) (fdt 6)
  b_are_ascending : Binds K (fdt 6) ["things"] []
  g_are_ascending : mg "are_ascending" = some (.ref (fa 6))
  F_is_lot_of : Fun K "is_lot_of" "is_lot_of" st_is_lot_of (fa 7) (fdt 7)
  b_is_lot_of : Binds K (fdt 7) ["thing", "many"] []
  g_is_lot_of : mg "is_lot_of" = some (.ref (fa 7))
  F_check_many : Fun K "check_many" "check_many" st_check_many (fa 8) (fdt 8)
  b_check_many : Binds K (fdt 8) ["number", "most"] []
  g_check_many : mg "check_many" = some (.ref (fa 8))
  F_Table___init__ : Fun K "__init__" "Table.__init__" st_Table___init__ (fa 9) (fdt 9)
  b_Table___init__ : Binds K (fdt 9) ["self", "rows"] []
  F_Table_keep : Fun K "keep" "Table.keep" st_Table_keep (fa 10) (fdt 10)
  b_Table_keep : Binds K (fdt 10) ["self", "rows"] []
  F_Table___eq__ : Fun K "__eq__" "Table.__eq__" st_Table___eq__ (fa 11) (fdt 11)
  b_Table___eq__ : Binds K (fdt 11) ["self", "other"] []
  F_RawTable___init__ : Fun K "__init__" "RawTable.__init__" st_RawTable___init__ (fa 12) (fdt 12)
  b_RawTable___init__ : Binds K (fdt 12) ["self", "rows"] []
  F_is_person : Fun K "is_person" "is_person" st_is_person (fa 13) (fdt 13)
  b_is_person : Binds K (fdt 13) ["table", "thing"] []
  g_is_person : mg "is_person" = some (.ref (fa 13))
  F_check_person : Fun K "check_person" "check_person" st_check_person (fa 14) (fdt 14)
  b_check_person : Binds K (fdt 14) ["table", "thing"] []
  g_check_person : mg "check_person" = some (.ref (fa 14))
  F_check_thing : Fun K "check_thing" "check_thing" st_check_thing (fa 15) (fdt 15)
  b_check_thing : Binds K (fdt 15) ["table", "thing"] []
  g_check_thing : mg "check_thing" = some (.ref (fa 15))
  F_check_pair : Fun K "check_pair" "check_pair" st_check_pair (fa 16) (fdt 16)
  b_check_pair : Binds K (fdt 16) ["table", "person", "thing"] []
  g_check_pair : mg "check_pair" = some (.ref (fa 16))
  F_with_row : Fun K "with_row" "with_row" st_with_row (fa 17) (fdt 17)
  b_with_row : Binds K (fdt 17) ["table", "person", "row"] []
  g_with_row : mg "with_row" = some (.ref (fa 17))
  F_with_tie : Fun K "with_tie" "with_tie" st_with_tie (fa 18) (fdt 18)
  b_with_tie : Binds K (fdt 18) ["table", "person", "thing"] []
  g_with_tie : mg "with_tie" = some (.ref (fa 18))
  F_without_tie : Fun K "without_tie" "without_tie" st_without_tie (fa 19) (fdt 19)
  b_without_tie : Binds K (fdt 19) ["table", "person", "thing"] []
  g_without_tie : mg "without_tie" = some (.ref (fa 19))
  F_beside : Fun K "beside" "beside" st_beside (fa 20) (fdt 20)
  b_beside : Binds K (fdt 20) ["one", "other"] []
  g_beside : mg "beside" = some (.ref (fa 20))
  F_kept_in : Fun K "kept_in" "kept_in" st_kept_in (fa 21) (fdt 21)
  b_kept_in : Binds K (fdt 21) ["table", "people", "things"] []
  g_kept_in : mg "kept_in" = some (.ref (fa 21))
  F_check_some_of : Fun K "check_some_of" "check_some_of" st_check_some_of (fa 22) (fdt 22)
  b_check_some_of : Binds K (fdt 22) ["table", "thing"] []
  g_check_some_of : mg "check_some_of" = some (.ref (fa 22))
  F_kept : Fun K "kept" "kept" st_kept (fa 23) (fdt 23)
  b_kept : Binds K (fdt 23) ["table", "people", "things"] []
  g_kept : mg "kept" = some (.ref (fa 23))
  F_bits : Fun K "bits" "bits" st_bits (fa 24) (fdt 24)
  b_bits : Binds K (fdt 24) ["numbers"] []
  g_bits : mg "bits" = some (.ref (fa 24))
  F_without : Fun K "without" "without" st_without (fa 25) (fdt 25)
  b_without : Binds K (fdt 25) ["lot", "number"] []
  g_without : mg "without" = some (.ref (fa 25))
  F_has : Fun K "has" "has" st_has (fa 26) (fdt 26)
  b_has : Binds K (fdt 26) ["lot", "number"] []
  g_has : mg "has" = some (.ref (fa 26))
  F_least_of : Fun K "least_of" "least_of" st_least_of (fa 27) (fdt 27)
  b_least_of : Binds K (fdt 27) ["lot"] []
  g_least_of : mg "least_of" = some (.ref (fa 27))
  F_Counter___init__ : Fun K "__init__" "Counter.__init__" st_Counter___init__ (fa 28) (fdt 28)
  b_Counter___init__ : Binds K (fdt 28) ["self", "rows"] []
  F_Counter_of : Fun K "of" "Counter.of" st_Counter_of (fa 29) (fdt 29)
  b_Counter_of : Binds K (fdt 29) ["self", "people", "things"] []
  F_Counter_among : Fun K "among" "Counter.among" st_Counter_among (fa 30) (fdt 30)
  b_Counter_among : Binds K (fdt 30) ["self", "person", "things"] []
  F_Counter_total : Fun K "total" "Counter.total" st_Counter_total (fa 31) (fdt 31)
  b_Counter_total : Binds K (fdt 31) ["self"] []
  F_many_dealings : Fun K "many_dealings" "many_dealings" st_many_dealings (fa 32) (fdt 32)
  b_many_dealings : Binds K (fdt 32) ["table"] []
  g_many_dealings : mg "many_dealings" = some (.ref (fa 32))
  F_is_lot : Fun K "is_lot" "is_lot" st_is_lot (fa 33) (fdt 33)
  b_is_lot : Binds K (fdt 33) ["table", "thing"] []
  g_is_lot : mg "is_lot" = some (.ref (fa 33))
  F_many_with : Fun K "many_with" "many_with" st_many_with (fa 34) (fdt 34)
  b_many_with : Binds K (fdt 34) ["table", "lot"] []
  g_many_with : mg "many_with" = some (.ref (fa 34))
  F__law_tape : Fun K "_law_tape" "_law_tape" st__law_tape (fa 35) (fdt 35)
  b__law_tape : Binds K (fdt 35) ["_law_script"] []
  g__law_tape : mg "_law_tape" = some (.ref (fa 35))
  F__law_pick : Fun K "_law_pick" "_law_pick" st__law_pick (fa 36) (fdt 36)
  b__law_pick : Binds K (fdt 36) ["_law_tape_here", "_law_size"] []
  g__law_pick : mg "_law_pick" = some (.ref (fa 36))
  F__law_order : Fun K "_law_order" "_law_order" st__law_order (fa 37) (fdt 37)
  b__law_order : Binds K (fdt 37) ["_law_tape_here", "_law_many"] []
  g__law_order : mg "_law_order" = some (.ref (fa 37))
  F__law_loose : Fun K "_law_loose" "_law_loose" st__law_loose (fa 38) (fdt 38)
  b__law_loose : Binds K (fdt 38) ["_law_tape_here", "_law_many"] []
  g__law_loose : mg "_law_loose" = some (.ref (fa 38))
  F__law_blocks : Fun K "_law_blocks" "_law_blocks" st__law_blocks (fa 39) (fdt 39)
  b__law_blocks : Binds K (fdt 39) ["_law_tape_here", "_law_most"] []
  g__law_blocks : mg "_law_blocks" = some (.ref (fa 39))
  F__law_moved : Fun K "_law_moved" "_law_moved" st__law_moved (fa 40) (fdt 40)
  b__law_moved : Binds K (fdt 40) ["_law_tape_here", "_law_rows_here"] []
  g__law_moved : mg "_law_moved" = some (.ref (fa 40))
  F__law_count : Fun K "_law_count" "_law_count" st__law_count (fa 42) (fdt 42)
  b__law_count : Binds K (fdt 42) ["_law_rows_here"] []
  g__law_count : mg "_law_count" = some (.ref (fa 42))
  F__law_drawn : Fun K "_law_drawn" "_law_drawn" st__law_drawn (fa 43) (fdt 43)
  b__law_drawn : Binds K (fdt 43) ["_law_tape_here"] []
  g__law_drawn : mg "_law_drawn" = some (.ref (fa 43))
  F_law : Fun K "law" "law" st_law (fa 44) (fdt 44)
  b_law : Binds K (fdt 44) ["_law_script"] []
  g_law : mg "law" = some (.ref (fa 44))
  z_all : mg "all" = none
  z_bool : mg "bool" = none
  z_enumerate : mg "enumerate" = none
  z_int : mg "int" = none
  z_isinstance : mg "isinstance" = none
  z_len : mg "len" = none
  z_list : mg "list" = none
  z_min : mg "min" = none
  z_range : mg "range" = none
  z_set : mg "set" = none
  z_sorted : mg "sorted" = none
  z_sum : mg "sum" = none
  z_tuple : mg "tuple" = none
  z_zip : mg "zip" = none
  c_MOST_BESIDE : ∃ t, mg "MOST_BESIDE" = some (.int 40 t)
  c_MOST_PEOPLE : ∃ t, mg "MOST_PEOPLE" = some (.int 12 t)
  C_Table : CFt K (cm 0)
  C_RawTable : CFt K (cm 1)
  C_Counter : CFt K (cm 2)
  gC_Table : mg "Table" = some (.ref (cm 0))
  gC_RawTable : mg "RawTable" = some (.ref (cm 1))
  gC_Counter : mg "Counter" = some (.ref (cm 2))
  mk_RawTable : Mk K (cm 1) (fa 12)
  mk_Counter : Mk K (cm 2) (fa 28)
  mk_Table : Mk K (cm 0) (fa 9)
  m_Table_keep : Meth K (cm 0) "keep" (fa 10)
  m_RawTable_keep : Meth K (cm 1) "keep" (fa 10)
  m_Counter_among : Meth K (cm 2) "among" (fa 30)
  m_Counter_of : Meth K (cm 2) "of" (fa 29)
  m_Counter_total : Meth K (cm 2) "total" (fa 31)
  na_Table_rows : NoAttr K (cm 0) "rows"
  na_RawTable_rows : NoAttr K (cm 1) "rows"
  na_Table_size : NoAttr K (cm 0) "size"
  na_RawTable_size : NoAttr K (cm 1) "size"
  na_Counter_rows : NoAttr K (cm 2) "rows"
  na_Counter_whole : NoAttr K (cm 2) "whole"
  na_Counter_known : NoAttr K (cm 2) "known"
  isiT_int : ∀ c b, tabT c = some b → PySem.W.kitOne K (.ref (cm c)) (.type "int") = some b
  isiT_bool : ∀ c b, tabT c = some b → PySem.W.kitOne K (.ref (cm c)) (.type "bool") = some b
  isiT_tuple : ∀ c b, tabT c = some b → PySem.W.kitOne K (.ref (cm c)) (.type "tuple") = some b
  isiT_list : ∀ c b, tabT c = some b → PySem.W.kitOne K (.ref (cm c)) (.type "list") = some b
  isiB_Table : ∀ S ∈ ["NoneType", "bool", "int", "str", "list", "tuple", "dict"], PySem.W.kitOne K (.type S) (.ref (cm 0)) = some false
  isiC_Table : ∀ c b, tabC_Table c = some b → PySem.W.kitOne K (.ref (cm c)) (.ref (cm 0)) = some b
  eqF : EqF K cm eqCl (fa 11)
  eqI : PySem.W.isFn K (.ref (fa 11)) = true
  neF : ∀ c ∈ eqCl, NeF K (cm c)
  nfF : NfF K cm eqCl eqNf
section
variable {P : Program} {w : World} {K : PySem.W.Frag} {mg : Str → Option Value} {base : Heap} {fa : Nat → Addr} {fdt : Nat → FuncData} {cm : Cm}
theorem ok_is_integer (T : Tx K mg fa fdt cm) : FnOk P w K mg base CX0 1 (fa 2) (fdt 2) ["thing"] (spD K cm fn_is_integer 1) :=
  fn_dx (N := N_is_integer) (B := []) (g := s_is_integer) T.F_is_integer sc_is_integer (by decide) rfl rfl fun cdv A outer s H E hr => have sc := sc_is_integer
    ⟨_, (dss_one (ds_ret (do_e (de_and (de_isi (T := "int") (tab := tabT) T.z_isinstance T.z_int (by decide +kernel) T.isiT_int (dv 0)) (de_one (de_not (de_isi (T := "bool") (tab := tabT) T.z_isinstance T.z_bool (by decide +kernel) T.isiT_bool (dv 0))))))))⟩
theorem ok_is_within (T : Tx K mg fa fdt cm) : FnOk P w K mg base CX0 2 (fa 3) (fdt 3) ["thing", "least", "most"] (spD K cm fn_is_within 3) :=
  fn_dx (N := N_is_within) (B := []) (g := s_is_within) T.F_is_within sc_is_within (by decide) rfl rfl fun cdv A outer s H E hr => have sc := sc_is_within
    ⟨_, (dss_one (ds_ret (do_e (de_and (de_o (do_call (ok_is_integer (P := P) (w := w) (base := base) T) (hr.mono (by decide)) T.g_is_integer T.F_is_integer.kp T.b_is_integer (da_cons (dv 0) da_nil))) (de_one (de_p (dp_chain op_le pu_le op_le pu_le (dp 1) (dp 0) (dp 2))))))))⟩
theorem ok_is_pair (T : Tx K mg fa fdt cm) : FnOk P w K mg base CX0 1 (fa 4) (fdt 4) ["thing"] (spD K cm fn_is_pair 1) :=
  fn_dx (N := N_is_pair) (B := []) (g := s_is_pair) T.F_is_pair sc_is_pair (by decide) rfl rfl fun cdv A outer s H E hr => have sc := sc_is_pair
    ⟨_, (dss_one (ds_ret (do_e (de_and (de_isi (T := "tuple") (tab := tabT) T.z_isinstance T.z_tuple (by decide +kernel) T.isiT_tuple (dv 0)) (de_one (de_cmp (op_eqD hr.units) pu_eq.sm (de_p (dp_len T.z_len (dx 0))) (de_p dp_int) (nomark _)))))))⟩
theorem ok_is_listed (T : Tx K mg fa fdt cm) : FnOk P w K mg base CX0 1 (fa 5) (fdt 5) ["thing"] (spD K cm fn_is_listed 1) :=
  fn_dx (N := N_is_listed) (B := []) (g := s_is_listed) T.F_is_listed sc_is_listed (by decide) rfl rfl fun cdv A outer s H E hr => have sc := sc_is_listed
    ⟨_, (dss_one (ds_ret (do_e (de_isi2 (T := "list") (T2 := "tuple") (tab := tabT) T.z_isinstance T.z_list (by decide +kernel) T.z_tuple (by decide +kernel) T.isiT_list T.isiT_tuple (dv 0)))))⟩
theorem ok_are_ascending (T : Tx K mg fa fdt cm) : FnOk P w K mg base CX0 1 (fa 6) (fdt 6) ["things"] (spD K cm fn_are_ascending 1) :=
  fn_dx (N := N_are_ascending) (B := []) (g := s_are_ascending) T.F_are_ascending sc_are_ascending (by decide) rfl rfl fun cdv A outer s H E hr => have sc := sc_are_ascending
    ⟨_, (dss_one (ds_ret (do_cB (cr_all rfl) sr_all T.z_all (by decide +kernel) (da_cons (de_o (do_lc sc.nd (di_zip T.z_zip (da_cons (dv 0) (da_cons (de_sl (dv 0) (dpo_some dp_int) dpo_none) da_nil))) (blkOk_by (N := N_are_ascending) (sc := defScope st_are_ascending) (own := [("one", 1), ("other", 2)]) (by decide +kernel)) (fun _ _ _ _ _ => ⟨_, (dg_tup (dgs_cons (dg_name (i := 1) sc.nd (by exact (by decide : 1 ∉ (compl 3 [1, 2] : List Nat)))) (dgs_cons (dg_name (i := 2) sc.nd (by exact (by decide : 2 ∉ (compl 3 [1, 2] : List Nat)))) dgs_nil)) tg2_len)⟩) (fun _ _ _ _ _ => ⟨_, dts_nil⟩) (fun _ _ _ _ _ => ⟨_, (de_p (dp_cmp op_lt pu_lt (dp 1) (dp 2) (nomark _)))⟩))) da_nil))))⟩
theorem ok_is_lot_of (T : Tx K mg fa fdt cm) : FnOk P w K mg base CX0 3 (fa 7) (fdt 7) ["thing", "many"] (spD K cm fn_is_lot_of 2) :=
  fn_dx (N := N_is_lot_of) (B := []) (g := s_is_lot_of) T.F_is_lot_of sc_is_lot_of (by decide) rfl rfl fun cdv A outer s H E hr => have sc := sc_is_lot_of
    ⟨_, (dss_cons (ds_if (dt_w (dw_or (dt_not (dt_val (de_isi (T := "tuple") (tab := tabT) T.z_isinstance T.z_tuple (by decide +kernel) T.isiT_tuple (dv 0)))) (dw_or1 (dt_not (dt_val (de_o (do_cB (cr_all rfl) sr_all T.z_all (by decide +kernel) (da_cons (de_o (do_lc sc.nd (di_any (dv 0)) (blkOk_by (N := N_is_lot_of) (sc := defScope st_is_lot_of) (own := [("one", 2)]) (by decide +kernel)) (fun _ _ _ _ _ => ⟨_, (dg_name (i := 2) sc.nd (by exact (by decide : 2 ∉ (compl 3 [2] : List Nat))))⟩) (fun _ _ _ _ _ => ⟨_, dts_nil⟩) (fun _ _ _ _ _ => ⟨_, (de_o (do_call (ok_is_within (P := P) (w := w) (base := base) T) (hr.mono (by decide)) T.g_is_within T.F_is_within.kp T.b_is_within (da_cons (dv 2) (da_cons (de_p dp_int) (da_cons (de_p (dp_op op_sub pu_sub (dp 1) dp_int)) da_nil)))))⟩))) da_nil)))))))) (dss_one (ds_ret (do_e (de_p dp_bl)))) dss_nil)
      (dss_one (ds_ret (do_call (ok_are_ascending (P := P) (w := w) (base := base) T) (hr.mono (by decide)) T.g_are_ascending T.F_are_ascending.kp T.b_are_ascending (da_cons (dv 0) da_nil)))))⟩
theorem ok_check_many (T : Tx K mg fa fdt cm) : FnOk P w K mg base CX0 1 (fa 8) (fdt 8) ["number", "most"] (spD K cm fn_check_many 2) :=
  fn_dx (N := N_check_many) (B := []) (g := s_check_many) T.F_check_many sc_check_many (by decide) rfl rfl fun cdv A outer s H E hr => have sc := sc_check_many
    ⟨_, (dss_one (ds_if (dt_q (dq_cmp op_gt pu_gt (dp 0) (dp 1) (nomark _))) (dss_one ds_never) dss_nil))⟩
theorem ok_Table_keep (T : Tx K mg fa fdt cm) : FnOk P w K mg base CX0 1 (fa 10) (fdt 10) ["self", "rows"] (spD K cm fn_Table_keep 2) :=
  fn_dx (N := N_Table_keep) (B := [0]) (g := s_Table_keep) T.F_Table_keep sc_Table_keep (by decide) rfl rfl fun cdv A outer s H E hr => have sc := sc_Table_keep
    ⟨_, (dss_cons (ds_fs (i := 0) [0, 1] (do_e (dv 1)) (fun c hc => by simp at hc; rcases hc with rfl | rfl <;> first | exact T.na_Table_rows | exact T.na_RawTable_rows))
      (dss_one (ds_fs (i := 0) [0, 1] (do_e (de_p (dp_len T.z_len (dx 1)))) (fun c hc => by simp at hc; rcases hc with rfl | rfl <;> first | exact T.na_Table_size | exact T.na_RawTable_size))))⟩
theorem ok_Table___init__ (T : Tx K mg fa fdt cm) : FnOk P w K mg base CX0 4 (fa 9) (fdt 9) ["self", "rows"] (spD K cm fn_Table___init__ 2) :=
  fn_dx (N := N_Table___init__) (B := [0]) (g := s_Table___init__) T.F_Table___init__ sc_Table___init__ (by decide) rfl rfl fun cdv A outer s H E hr => have sc := sc_Table___init__
    ⟨_, (dss_cons (ds_if (dt_w (dw_or (dt_not (dt_val (de_isi (T := "tuple") (tab := tabT) T.z_isinstance T.z_tuple (by decide +kernel) T.isiT_tuple (dv 1)))) (dw_or1 (dt_not (dt_q (dq_chain op_le pu_le op_le pu_le dp_int (dp_len T.z_len (dx 1)) (dp_glI T.c_MOST_PEOPLE rfl))))))) (dss_one ds_never) dss_nil)
      (dss_cons (ds_for (di_enA T.z_enumerate (dv 1)) (dg_tup (dgs_cons (dg_name (i := 2) sc.nd (by exact (by decide : 2 ∉ ([0] : List Nat)))) (dgs_cons (dg_name (i := 3) sc.nd (by exact (by decide : 3 ∉ ([0] : List Nat)))) dgs_nil)) tg2_len) (dss_one (ds_if (dt_not (dt_val (de_o (do_call (ok_is_lot_of (P := P) (w := w) (base := base) T) (hr.mono (by decide)) T.g_is_lot_of T.F_is_lot_of.kp T.b_is_lot_of (da_cons (dv 3) (da_cons (de_p (dp_len T.z_len (dx 1))) da_nil)))))) (dss_one ds_never) dss_nil)))
      (dss_one (ds_expr (de_o (do_meth 0 0 T.C_Table.cl T.m_Table_keep (ok_Table_keep (P := P) (w := w) (base := base) T) (hr.mono (by decide)) T.b_Table_keep (da_cons (dv 1) da_nil)))))))⟩
theorem ok_Table___eq__ (T : Tx K mg fa fdt cm) : FnOk P w K mg base CX0 1 (fa 11) (fdt 11) ["self", "other"] (spD K cm fn_Table___eq__ 2) :=
  fn_dx (N := N_Table___eq__) (B := [0]) (g := s_Table___eq__) T.F_Table___eq__ sc_Table___eq__ (by decide) rfl rfl fun cdv A outer s H E hr => have sc := sc_Table___eq__
    ⟨_, (dss_one (ds_ret (do_e (de_and (de_isC (n := 0) (tab := tabC_Table) T.z_isinstance T.gC_Table T.isiB_Table T.isiC_Table (dv 1)) (de_one (de_cmp (op_eqD hr.units) pu_eq.sm (de_p (dpf 0)) (de_p (dpf 1)) (nomark _)))))))⟩
theorem ok_RawTable___init__ (T : Tx K mg fa fdt cm) : FnOk P w K mg base CX0 2 (fa 12) (fdt 12) ["self", "rows"] (spD K cm fn_RawTable___init__ 2) :=
  fn_dx (N := N_RawTable___init__) (B := [0]) (g := s_RawTable___init__) T.F_RawTable___init__ sc_RawTable___init__ (by decide) rfl rfl fun cdv A outer s H E hr => have sc := sc_RawTable___init__
    ⟨_, (dss_one (ds_expr (de_o (do_meth 0 1 T.C_RawTable.cl T.m_RawTable_keep (ok_Table_keep (P := P) (w := w) (base := base) T) (hr.mono (by decide)) T.b_Table_keep (da_cons (dv 1) da_nil)))))⟩
theorem ok_is_person (T : Tx K mg fa fdt cm) : FnOk P w K mg base CX0 3 (fa 13) (fdt 13) ["table", "thing"] (spD K cm fn_is_person 2) :=
  fn_dx (N := N_is_person) (B := []) (g := s_is_person) T.F_is_person sc_is_person (by decide) rfl rfl fun cdv A outer s H E hr => have sc := sc_is_person
    ⟨_, (dss_one (ds_ret (do_call (ok_is_within (P := P) (w := w) (base := base) T) (hr.mono (by decide)) T.g_is_within T.F_is_within.kp T.b_is_within (da_cons (dv 1) (da_cons (de_p dp_int) (da_cons (de_p (dp_op op_sub pu_sub (dpf 0) dp_int)) da_nil))))))⟩
theorem ok_check_person (T : Tx K mg fa fdt cm) : FnOk P w K mg base CX0 4 (fa 14) (fdt 14) ["table", "thing"] (spD K cm fn_check_person 2) :=
  fn_dx (N := N_check_person) (B := []) (g := s_check_person) T.F_check_person sc_check_person (by decide) rfl rfl fun cdv A outer s H E hr => have sc := sc_check_person
    ⟨_, (dss_one (ds_if (dt_not (dt_val (de_o (do_call (ok_is_person (P := P) (w := w) (base := base) T) (hr.mono (by decide)) T.g_is_person T.F_is_person.kp T.b_is_person (da_cons (dv 0) (da_cons (dv 1) da_nil)))))) (dss_one ds_never) dss_nil))⟩
theorem ok_check_thing (T : Tx K mg fa fdt cm) : FnOk P w K mg base CX0 4 (fa 15) (fdt 15) ["table", "thing"] (spD K cm fn_check_thing 2) :=
  fn_dx (N := N_check_thing) (B := []) (g := s_check_thing) T.F_check_thing sc_check_thing (by decide) rfl rfl fun cdv A outer s H E hr => have sc := sc_check_thing
    ⟨_, (dss_one (ds_if (dt_not (dt_val (de_o (do_call (ok_is_person (P := P) (w := w) (base := base) T) (hr.mono (by decide)) T.g_is_person T.F_is_person.kp T.b_is_person (da_cons (dv 0) (da_cons (dv 1) da_nil)))))) (dss_one ds_never) dss_nil))⟩
theorem ok_check_pair (T : Tx K mg fa fdt cm) : FnOk P w K mg base CX0 5 (fa 16) (fdt 16) ["table", "person", "thing"] (spD K cm fn_check_pair 3) :=
  fn_dx (N := N_check_pair) (B := []) (g := s_check_pair) T.F_check_pair sc_check_pair (by decide) rfl rfl fun cdv A outer s H E hr => have sc := sc_check_pair
    ⟨_, (dss_cons (ds_expr (de_o (do_call (ok_check_person (P := P) (w := w) (base := base) T) (hr.mono (by decide)) T.g_check_person T.F_check_person.kp T.b_check_person (da_cons (dv 0) (da_cons (dv 1) da_nil)))))
      (dss_one (ds_expr (de_o (do_call (ok_check_thing (P := P) (w := w) (base := base) T) (hr.mono (by decide)) T.g_check_thing T.F_check_thing.kp T.b_check_thing (da_cons (dv 0) (da_cons (dv 2) da_nil)))))))⟩
theorem ok_with_row (T : Tx K mg fa fdt cm) : FnOk P w K mg base CX0 4 (fa 17) (fdt 17) ["table", "person", "row"] (spD K cm fn_with_row 3) :=
  fn_dx (N := N_with_row) (B := []) (g := s_with_row) T.F_with_row sc_with_row (by decide) rfl rfl fun cdv A outer s H E hr => have sc := sc_with_row
    ⟨_, (dss_one (ds_ret (do_make 1 T.C_RawTable T.mk_RawTable (ok_RawTable___init__ (P := P) (w := w) (base := base) T) (hr.mono (by decide)) T.gC_RawTable T.b_RawTable___init__ (da_cons (de_op op_addA sr_add (de_op op_addA sr_add (de_sl (de_p (dpf 0)) dpo_none (dpo_some (dp 1))) (de_tup (da_cons (de_tupOf T.z_tuple (dv 2)) da_nil))) (de_sl (de_p (dpf 0)) (dpo_some (dp_op op_add pu_addI (dp 1) dp_int)) dpo_none)) da_nil))))⟩
theorem ok_with_tie (T : Tx K mg fa fdt cm) : FnOk P w K mg base CX0 6 (fa 18) (fdt 18) ["table", "person", "thing"] (spD K cm fn_with_tie 3) :=
  fn_dx (N := N_with_tie) (B := []) (g := s_with_tie) T.F_with_tie sc_with_tie (by decide) rfl rfl fun cdv A outer s H E hr => have sc := sc_with_tie
    ⟨_, (dss_cons (ds_expr (de_o (do_call (ok_check_pair (P := P) (w := w) (base := base) T) (hr.mono (by decide)) T.g_check_pair T.F_check_pair.kp T.b_check_pair (da_cons (dv 0) (da_cons (dv 1) (da_cons (dv 2) da_nil))))))
      (dss_cons (ds_setLc (i := 3) sc.nd (sw_true rfl rfl rfl (by decide +kernel)) (di_any (de_p (dp_ix (dxf 0) (dp 1)))) (blkOk_by (N := N_with_tie) (sc := defScope st_with_tie) (own := [("other", 4)]) (by decide +kernel)) (fun _ _ _ _ _ => ⟨_, (dg_name (i := 4) sc.nd (by exact (by decide : 4 ∉ (compl 5 [4] : List Nat))))⟩) (fun _ _ _ _ _ => ⟨_, (dts_one (dt_cmp (op_neD hr.units) pu_ne.sm (dv 4) (dv 2) (nomark _)))⟩) (fun _ _ _ _ _ => ⟨_, (dv 4)⟩))
      (dss_one (ds_ret (do_call (ok_with_row (P := P) (w := w) (base := base) T) (hr.mono (by decide)) T.g_with_row T.F_with_row.kp T.b_with_row (da_cons (dv 0) (da_cons (dv 1) (da_cons (de_o (do_cB cr_sortedI sr_sorted T.z_sorted (by decide +kernel) (da_cons (de_op op_addA sr_add (dv 3) (de_o (do_lst (da_cons (dv 2) da_nil)))) da_nil))) da_nil))))))))⟩
theorem ok_without_tie (T : Tx K mg fa fdt cm) : FnOk P w K mg base CX0 6 (fa 19) (fdt 19) ["table", "person", "thing"] (spD K cm fn_without_tie 3) :=
  fn_dx (N := N_without_tie) (B := []) (g := s_without_tie) T.F_without_tie sc_without_tie (by decide) rfl rfl fun cdv A outer s H E hr => have sc := sc_without_tie
    ⟨_, (dss_cons (ds_expr (de_o (do_call (ok_check_pair (P := P) (w := w) (base := base) T) (hr.mono (by decide)) T.g_check_pair T.F_check_pair.kp T.b_check_pair (da_cons (dv 0) (da_cons (dv 1) (da_cons (dv 2) da_nil))))))
      (dss_one (ds_ret (do_call (ok_with_row (P := P) (w := w) (base := base) T) (hr.mono (by decide)) T.g_with_row T.F_with_row.kp T.b_with_row (da_cons (dv 0) (da_cons (dv 1) (da_cons (de_o (do_lc sc.nd (di_any (de_p (dp_ix (dxf 0) (dp 1)))) (blkOk_by (N := N_without_tie) (sc := defScope st_without_tie) (own := [("other", 3)]) (by decide +kernel)) (fun _ _ _ _ _ => ⟨_, (dg_name (i := 3) sc.nd (by exact (by decide : 3 ∉ (compl 4 [3] : List Nat))))⟩) (fun _ _ _ _ _ => ⟨_, (dts_one (dt_cmp (op_neD hr.units) pu_ne.sm (dv 3) (dv 2) (nomark _)))⟩) (fun _ _ _ _ _ => ⟨_, (dv 3)⟩))) da_nil)))))))⟩
theorem ok_beside (T : Tx K mg fa fdt cm) : FnOk P w K mg base CX0 4 (fa 20) (fdt 20) ["one", "other"] (spD K cm fn_beside 2) :=
  fn_dx (N := N_beside) (B := []) (g := s_beside) T.F_beside sc_beside (by decide) rfl rfl fun cdv A outer s H E hr => have sc := sc_beside
    ⟨_, (dss_cons (ds_expr (de_o (do_call (ok_check_many (P := P) (w := w) (base := base) T) (hr.mono (by decide)) T.g_check_many T.F_check_many.kp T.b_check_many (da_cons (de_op op_addA sr_add (de_p (dpf 0)) (de_p (dpf 1))) (da_cons (de_p (dp_glI T.c_MOST_BESIDE rfl)) da_nil)))))
      (dss_cons (ds_setLc (i := 2) sc.nd (sw_true rfl rfl rfl (by decide +kernel)) (di_any (de_p (dpf 1))) (blkOk_by (N := N_beside) (sc := defScope st_beside) (own := [("row", 4)]) (by decide +kernel)) (fun _ _ _ _ _ => ⟨_, (dg_name (i := 4) sc.nd (by exact (by decide : 4 ∉ (compl 5 [4] : List Nat))))⟩) (fun _ _ _ _ _ => ⟨_, dts_nil⟩) (fun _ _ _ _ _ => ⟨_, (de_tupOf T.z_tuple (de_o (do_lc sc.nd (di_any (dv 4)) (blkOk_by (own := [("thing", 3)]) (by rfl)) (fun _ _ _ _ _ => ⟨_, (dg_name (i := 3) sc.nd (by exact (by decide : 3 ∉ (compl 5 [3] : List Nat))))⟩) (fun _ _ _ _ _ => ⟨_, dts_nil⟩) (fun _ _ _ _ _ => ⟨_, (de_op op_addA sr_add (dv 3) (de_p (dpf 0)))⟩))))⟩))
      (dss_one (ds_ret (do_make 1 T.C_RawTable T.mk_RawTable (ok_RawTable___init__ (P := P) (w := w) (base := base) T) (hr.mono (by decide)) T.gC_RawTable T.b_RawTable___init__ (da_cons (de_op op_addA sr_add (de_p (dpf 0)) (de_tupOf T.z_tuple (dv 2))) da_nil))))))⟩
theorem ok_kept_in (T : Tx K mg fa fdt cm) : FnOk P w K mg base CX0 4 (fa 21) (fdt 21) ["table", "people", "things"] (spD K cm fn_kept_in 3) :=
  fn_dx (N := N_kept_in) (B := []) (g := s_kept_in) T.F_kept_in sc_kept_in (by decide) rfl rfl fun cdv A outer s H E hr => have sc := sc_kept_in
    ⟨_, (dss_cons (ds_set (i := 3) (do_dc sc.nd (di_enA T.z_enumerate (dv 2)) (blkOk_by (N := N_kept_in) (sc := defScope st_kept_in) (own := [("number", 4), ("thing", 5)]) (by decide +kernel)) (fun _ _ _ _ _ => ⟨_, (dg_tup (dgs_cons (dg_name (i := 4) sc.nd (by exact (by decide : 4 ∉ (compl 8 [4, 5] : List Nat)))) (dgs_cons (dg_name (i := 5) sc.nd (by exact (by decide : 5 ∉ (compl 8 [4, 5] : List Nat)))) dgs_nil)) tg2_len)⟩) (fun _ _ _ _ _ => ⟨_, dts_nil⟩) (fun _ _ _ _ _ => ⟨_, (dv 5)⟩) (fun _ _ _ _ _ => ⟨_, (dv 4)⟩)) sc.nd)
      (dss_cons (ds_setLc (i := 6) sc.nd (sw_true rfl rfl rfl (by decide +kernel)) (di_any (dv 1)) (blkOk_by (N := N_kept_in) (sc := defScope st_kept_in) (own := [("person", 7)]) (by decide +kernel)) (fun _ _ _ _ _ => ⟨_, (dg_name (i := 7) sc.nd (by exact (by decide : 7 ∉ (compl 8 [7] : List Nat))))⟩) (fun _ _ _ _ _ => ⟨_, dts_nil⟩) (fun _ _ _ _ _ => ⟨_, (de_tupOf T.z_tuple (de_o (do_lc sc.nd (di_any (de_p (dp_ix (dxf 0) (dp 7)))) (blkOk_by (own := [("thing", 5)]) (by rfl)) (fun _ _ _ _ _ => ⟨_, (dg_name (i := 5) sc.nd (by exact (by decide : 5 ∉ (compl 8 [5] : List Nat))))⟩) (fun _ _ _ _ _ => ⟨_, (dts_one (dt_q (dq_din (hu_1 hr.units) (dp 5) (dx 3))))⟩) (fun _ _ _ _ _ => ⟨_, (de_p (dp_dget (hu_1 hr.units) (dx 3) (dp 5)))⟩))))⟩))
      (dss_one (ds_ret (do_make 1 T.C_RawTable T.mk_RawTable (ok_RawTable___init__ (P := P) (w := w) (base := base) T) (hr.mono (by decide)) T.gC_RawTable T.b_RawTable___init__ (da_cons (de_tupOf T.z_tuple (dv 6)) da_nil))))))⟩
theorem ok_check_some_of (T : Tx K mg fa fdt cm) : FnOk P w K mg base CX0 4 (fa 22) (fdt 22) ["table", "thing"] (spD K cm fn_check_some_of 2) :=
  fn_dx (N := N_check_some_of) (B := []) (g := s_check_some_of) T.F_check_some_of sc_check_some_of (by decide) rfl rfl fun cdv A outer s H E hr => have sc := sc_check_some_of
    ⟨_, (dss_one (ds_if (dt_w (dw_or (dt_not (dt_val (de_o (do_call (ok_is_lot_of (P := P) (w := w) (base := base) T) (hr.mono (by decide)) T.g_is_lot_of T.F_is_lot_of.kp T.b_is_lot_of (da_cons (dv 1) (da_cons (de_p (dpf 0)) da_nil)))))) (dw_or1 (dt_cmp (op_eqD hr.units) pu_eq.sm (de_p (dp_len T.z_len (dx 1))) (de_p dp_int) (nomark _))))) (dss_one ds_never) dss_nil))⟩
theorem ok_kept (T : Tx K mg fa fdt cm) : FnOk P w K mg base CX0 5 (fa 23) (fdt 23) ["table", "people", "things"] (spD K cm fn_kept 3) :=
  fn_dx (N := N_kept) (B := []) (g := s_kept) T.F_kept sc_kept (by decide) rfl rfl fun cdv A outer s H E hr => have sc := sc_kept
    ⟨_, (dss_cons (ds_expr (de_o (do_call (ok_check_some_of (P := P) (w := w) (base := base) T) (hr.mono (by decide)) T.g_check_some_of T.F_check_some_of.kp T.b_check_some_of (da_cons (dv 0) (da_cons (dv 1) da_nil)))))
      (dss_cons (ds_expr (de_o (do_call (ok_check_some_of (P := P) (w := w) (base := base) T) (hr.mono (by decide)) T.g_check_some_of T.F_check_some_of.kp T.b_check_some_of (da_cons (dv 0) (da_cons (dv 2) da_nil)))))
      (dss_cons (ds_if (dt_cmp (op_neD hr.units) pu_ne.sm (de_p (dp_len T.z_len (dx 1))) (de_p (dp_len T.z_len (dx 2))) (nomark _)) (dss_one ds_never) dss_nil)
      (dss_one (ds_ret (do_call (ok_kept_in (P := P) (w := w) (base := base) T) (hr.mono (by decide)) T.g_kept_in T.F_kept_in.kp T.b_kept_in (da_cons (dv 0) (da_cons (dv 1) (da_cons (dv 2) da_nil)))))))))⟩
theorem ok_bits (T : Tx K mg fa fdt cm) : FnOk P w K mg base CX0 1 (fa 24) (fdt 24) ["numbers"] (spD K cm fn_bits 1) :=
  fn_dx (N := N_bits) (B := []) (g := s_bits) T.F_bits sc_bits (by decide) rfl rfl fun cdv A outer s H E hr => have sc := sc_bits
    ⟨_, (dss_one (ds_ret (do_cB (cr_sum rfl) sr_sum T.z_sum (by decide +kernel) (da_cons (de_o (do_lc sc.nd (di_any (dv 0)) (blkOk_by (N := N_bits) (sc := defScope st_bits) (own := [("number", 1)]) (by decide +kernel)) (fun _ _ _ _ _ => ⟨_, (dg_name (i := 1) sc.nd (by exact (by decide : 1 ∉ (compl 2 [1] : List Nat))))⟩) (fun _ _ _ _ _ => ⟨_, dts_nil⟩) (fun _ _ _ _ _ => ⟨_, (de_p (dp_op op_shl pu_shl dp_int (dp 1)))⟩))) da_nil))))⟩
theorem ok_without (T : Tx K mg fa fdt cm) : FnOk P w K mg base CX0 1 (fa 25) (fdt 25) ["lot", "number"] (spD K cm fn_without 2) :=
  fn_dx (N := N_without) (B := []) (g := s_without) T.F_without sc_without (by decide) rfl rfl fun cdv A outer s H E hr => have sc := sc_without
    ⟨_, (dss_one (ds_ret (do_e (de_p (dp_op op_sub pu_sub (dp 0) (dp_op op_shl pu_shl dp_int (dp 1)))))))⟩
theorem ok_has (T : Tx K mg fa fdt cm) : FnOk P w K mg base CX0 1 (fa 26) (fdt 26) ["lot", "number"] (spD K cm fn_has 2) :=
  fn_dx (N := N_has) (B := []) (g := s_has) T.F_has sc_has (by decide) rfl rfl fun cdv A outer s H E hr => have sc := sc_has
    ⟨_, (dss_one (ds_ret (do_e (de_cmp (op_eqD hr.units) pu_eq.sm (de_p (dp_op op_and pu_and (dp_op op_shr pu_shr (dp 0) (dp 1)) dp_int)) (de_p dp_int) (nomark _)))))⟩
theorem ok_least_of (T : Tx K mg fa fdt cm) : FnOk P w K mg base CX0 1 (fa 27) (fdt 27) ["lot"] (spD K cm fn_least_of 1) :=
  fn_dx (N := N_least_of) (B := []) (g := s_least_of) T.F_least_of sc_least_of (by decide) rfl rfl fun cdv A outer s H E hr => have sc := sc_least_of
    ⟨_, (dss_one (ds_ret (do_e (de_p (dp_op op_sub pu_sub (dp_bits (dp_op op_and pu_and (dp 0) (dp_neg (dp 0)))) dp_int)))))⟩
theorem ok_Counter___init__ (T : Tx K mg fa fdt cm) : FnOk P w K mg base CX0 1 (fa 28) (fdt 28) ["self", "rows"] (spD K cm fn_Counter___init__ 2) :=
  fn_dx (N := N_Counter___init__) (B := [0]) (g := s_Counter___init__) T.F_Counter___init__ sc_Counter___init__ (by decide) rfl rfl fun cdv A outer s H E hr => have sc := sc_Counter___init__
    ⟨_, (dss_cons (ds_fs (i := 0) [2] (do_e (dv 1)) (fun c hc => by simp at hc; subst hc <;> first | exact T.na_Counter_rows))
      (dss_cons (ds_fs (i := 0) [2] (do_e (de_p (dp_op op_sub pu_sub (dp_op op_shl pu_shl dp_int (dp_len T.z_len (dx 1))) dp_int))) (fun c hc => by simp at hc; subst hc <;> first | exact T.na_Counter_whole))
      (dss_one (ds_fs (i := 0) [2] (do_d1T (hu_1 hr.units) (de_tup (da_cons (de_p dp_int) (da_cons (de_p dp_int) da_nil))) (de_p dp_int)) (fun c hc => by simp at hc; subst hc <;> first | exact T.na_Counter_known)))))⟩
theorem ok_Counter_among (T : Tx K mg fa fdt cm) : FnOk P w K mg base CX0 2 (fa 30) (fdt 30) ["self", "person", "things"] (spD K cm fn_Counter_among 3) :=
  fn_dx (N := N_Counter_among) (B := [0]) (g := s_Counter_among) T.F_Counter_among sc_Counter_among (by decide) rfl rfl fun cdv A outer s H E hr => have sc := sc_Counter_among
    ⟨_, (dss_one (ds_ret (do_lc sc.nd (di_any (de_p (dp_ix (dxf 0) (dp 1)))) (blkOk_by (N := N_Counter_among) (sc := defScope st_Counter_among) (own := [("thing", 3)]) (by decide +kernel)) (fun _ _ _ _ _ => ⟨_, (dg_name (i := 3) sc.nd (by exact (by decide : 3 ∉ (compl 4 [3] : List Nat))))⟩) (fun _ _ _ _ _ => ⟨_, (dts_one (dt_val (de_o (do_call (ok_has (P := P) (w := w) (base := base) T) (hr.mono (by decide)) T.g_has T.F_has.kp T.b_has (da_cons (dv 2) (da_cons (dv 3) da_nil))))))⟩) (fun _ _ _ _ _ => ⟨_, (dv 3)⟩))))⟩
theorem ok_Counter_of (T : Tx K mg fa fdt cm) (n : Nat) : FnOk P w K mg base CX0 (3 + n) (fa 29) (fdt 29) ["self", "people", "things"] (spD K cm (fn_Counter_of n) 3) := by
  induction n with
  | zero => exact ok_zero (k := 2) T.F_Counter_of sc_Counter_of (by decide) rfl
  | succ n ih => exact fn_dx (k := 3 + n) (N := N_Counter_of) (B := [0]) (g := s_Counter_of (fn_Counter_of n)) T.F_Counter_of sc_Counter_of (by decide) rfl rfl fun cdv A outer s H E hr => have sc := sc_Counter_of
    ⟨_, (dss_cons (ds_set (i := 3) (do_e (de_tup (da_cons (dv 1) (da_cons (dv 2) da_nil)))) sc.nd)
      (dss_cons (ds_if (dt_q (dq_dnin (hu_1 hr.units) (dp 3) (dxf 0))) (dss_cons (ds_set (i := 4) (do_call (ok_least_of (P := P) (w := w) (base := base) T) (hr.mono (by omega)) T.g_least_of T.F_least_of.kp T.b_least_of (da_cons (dv 1) da_nil)) sc.nd)
      (dss_cons (ds_set (i := 5) (do_call (ok_without (P := P) (w := w) (base := base) T) (hr.mono (by omega)) T.g_without T.F_without.kp T.b_without (da_cons (dv 1) (da_cons (dv 4) da_nil))) sc.nd)
      (dss_one (ds_dputF 0 (hu_1 hr.units) (dp 3) (de_o (do_cB (cr_sum rfl) sr_sum T.z_sum (by decide +kernel) (da_cons (de_o (do_lc sc.nd (di_any (de_o (do_meth 0 2 T.C_Counter.cl T.m_Counter_among (ok_Counter_among (P := P) (w := w) (base := base) T) (hr.mono (by omega)) T.b_Counter_among (da_cons (dv 4) (da_cons (dv 2) da_nil))))) (blkOk_by (N := N_Counter_of) (sc := defScope st_Counter_of) (own := [("one", 6)]) (by decide +kernel)) (fun _ _ _ _ _ => ⟨_, (dg_name (i := 6) sc.nd (by exact (by decide : 6 ∉ (compl 7 [6] : List Nat))))⟩) (fun _ _ _ _ _ => ⟨_, dts_nil⟩) (fun _ _ _ _ _ => ⟨_, (de_o (do_meth 0 2 T.C_Counter.cl T.m_Counter_of ih (hr.mono (by omega)) T.b_Counter_of (da_cons (dv 5) (da_cons (de_o (do_call (ok_without (P := P) (w := w) (base := base) T) (hr.mono (by omega)) T.g_without T.F_without.kp T.b_without (da_cons (dv 2) (da_cons (dv 6) da_nil)))) da_nil))))⟩))) da_nil))))))) dss_nil)
      (dss_one (ds_ret (do_e (de_p (dp_dget (hu_1 hr.units) (dxf 0) (dp 3))))))))⟩
theorem ok_Counter_total (T : Tx K mg fa fdt cm) : FnOk P w K mg base CX0 34 (fa 31) (fdt 31) ["self"] (spD K cm fn_Counter_total 1) :=
  fn_dx (N := N_Counter_total) (B := [0]) (g := s_Counter_total) T.F_Counter_total sc_Counter_total (by decide) rfl rfl fun cdv A outer s H E hr => have sc := sc_Counter_total
    ⟨_, (dss_one (ds_ret (do_meth 0 2 T.C_Counter.cl T.m_Counter_of (ok_Counter_of (P := P) (w := w) (base := base) T 30) (hr.mono (by decide)) T.b_Counter_of (da_cons (de_p (dpf 0)) (da_cons (de_p (dpf 0)) da_nil)))))⟩
theorem ok_many_dealings (T : Tx K mg fa fdt cm) : FnOk P w K mg base CX0 35 (fa 32) (fdt 32) ["table"] (spD K cm fn_many_dealings 1) :=
  fn_dx (N := N_many_dealings) (B := []) (g := s_many_dealings) T.F_many_dealings sc_many_dealings (by decide) rfl rfl fun cdv A outer s H E hr => have sc := sc_many_dealings
    ⟨_, (dss_one (ds_ret (do_methx0 2 T.C_Counter.cl T.m_Counter_total (ok_Counter_total (P := P) (w := w) (base := base) T) (hr.mono (by decide)) T.b_Counter_total (do_make 2 T.C_Counter T.mk_Counter (ok_Counter___init__ (P := P) (w := w) (base := base) T) (hr.mono (by decide)) T.gC_Counter T.b_Counter___init__ (da_cons (de_p (dpf 0)) da_nil)))))⟩
theorem ok_is_lot (T : Tx K mg fa fdt cm) : FnOk P w K mg base CX0 4 (fa 33) (fdt 33) ["table", "thing"] (spD K cm fn_is_lot 2) :=
  fn_dx (N := N_is_lot) (B := []) (g := s_is_lot) T.F_is_lot sc_is_lot (by decide) rfl rfl fun cdv A outer s H E hr => have sc := sc_is_lot
    ⟨_, (dss_cons (ds_if (dt_w (dw_or (dt_not (dt_val (de_o (do_call (ok_is_listed (P := P) (w := w) (base := base) T) (hr.mono (by decide)) T.g_is_listed T.F_is_listed.kp T.b_is_listed (da_cons (dv 1) da_nil))))) (dw_or1 (dt_not (dt_val (de_o (do_cB (cr_all rfl) sr_all T.z_all (by decide +kernel) (da_cons (de_o (do_lc sc.nd (di_any (dv 1)) (blkOk_by (N := N_is_lot) (sc := defScope st_is_lot) (own := [("pair", 2)]) (by decide +kernel)) (fun _ _ _ _ _ => ⟨_, (dg_name (i := 2) sc.nd (by exact (by decide : 2 ∉ (compl 5 [2] : List Nat))))⟩) (fun _ _ _ _ _ => ⟨_, dts_nil⟩) (fun _ _ _ _ _ => ⟨_, (de_o (do_call (ok_is_pair (P := P) (w := w) (base := base) T) (hr.mono (by decide)) T.g_is_pair T.F_is_pair.kp T.b_is_pair (da_cons (dv 2) da_nil)))⟩))) da_nil)))))))) (dss_one (ds_ret (do_e (de_p dp_bl)))) dss_nil)
      (dss_one (ds_ret (do_cB (cr_all rfl) sr_all T.z_all (by decide +kernel) (da_cons (de_o (do_lc sc.nd (di_any (dv 1)) (blkOk_by (N := N_is_lot) (sc := defScope st_is_lot) (own := [("person", 3), ("one", 4)]) (by decide +kernel)) (fun _ _ _ _ _ => ⟨_, (dg_tup (dgs_cons (dg_name (i := 3) sc.nd (by exact (by decide : 3 ∉ (compl 5 [3, 4] : List Nat)))) (dgs_cons (dg_name (i := 4) sc.nd (by exact (by decide : 4 ∉ (compl 5 [3, 4] : List Nat)))) dgs_nil)) tg2_len)⟩) (fun _ _ _ _ _ => ⟨_, dts_nil⟩) (fun _ _ _ _ _ => ⟨_, (de_and (de_o (do_call (ok_is_person (P := P) (w := w) (base := base) T) (hr.mono (by decide)) T.g_is_person T.F_is_person.kp T.b_is_person (da_cons (dv 0) (da_cons (dv 3) da_nil)))) (de_one (de_o (do_call (ok_is_person (P := P) (w := w) (base := base) T) (hr.mono (by decide)) T.g_is_person T.F_is_person.kp T.b_is_person (da_cons (dv 0) (da_cons (dv 4) da_nil))))))⟩))) da_nil)))))⟩
theorem ok_many_with (T : Tx K mg fa fdt cm) : FnOk P w K mg base CX0 34 (fa 34) (fdt 34) ["table", "lot"] (spD K cm fn_many_with 2) :=
  fn_dx (N := N_many_with) (B := []) (g := s_many_with) T.F_many_with sc_many_with (by decide) rfl rfl fun cdv A outer s H E hr => have sc := sc_many_with
    ⟨_, (dss_cons (ds_if (dt_not (dt_val (de_o (do_call (ok_is_lot (P := P) (w := w) (base := base) T) (hr.mono (by decide)) T.g_is_lot T.F_is_lot.kp T.b_is_lot (da_cons (dv 0) (da_cons (dv 1) da_nil)))))) (dss_one ds_never) dss_nil)
      (dss_cons (ds_set (i := 2) (do_sset T.z_sorted T.z_set hr (de_o (do_lc sc.nd (di_any (dv 1)) (blkOk_by (N := N_many_with) (sc := defScope st_many_with) (own := [("person", 3), ("thing", 4)]) (by decide +kernel)) (fun _ _ _ _ _ => ⟨_, (dg_tup (dgs_cons (dg_name (i := 3) sc.nd (by exact (by decide : 3 ∉ (compl 8 [3, 4] : List Nat)))) (dgs_cons (dg_name (i := 4) sc.nd (by exact (by decide : 4 ∉ (compl 8 [3, 4] : List Nat)))) dgs_nil)) tg2_len)⟩) (fun _ _ _ _ _ => ⟨_, dts_nil⟩) (fun _ _ _ _ _ => ⟨_, (de_tup (da_cons (dv 3) (da_cons (dv 4) da_nil)))⟩)))) sc.nd)
      (dss_cons (ds_setLc (i := 5) sc.nd (sw_true rfl rfl rfl (by decide +kernel)) (di_any (dv 2)) (blkOk_by (N := N_many_with) (sc := defScope st_many_with) (own := [("person", 3), ("thing", 4)]) (by decide +kernel)) (fun _ _ _ _ _ => ⟨_, (dg_tup (dgs_cons (dg_name (i := 3) sc.nd (by exact (by decide : 3 ∉ (compl 8 [3, 4] : List Nat)))) (dgs_cons (dg_name (i := 4) sc.nd (by exact (by decide : 4 ∉ (compl 8 [3, 4] : List Nat)))) dgs_nil)) tg2_len)⟩) (fun _ _ _ _ _ => ⟨_, dts_nil⟩) (fun _ _ _ _ _ => ⟨_, (dv 3)⟩))
      (dss_cons (ds_setLc (i := 6) sc.nd (sw_true rfl rfl rfl (by decide +kernel)) (di_any (dv 2)) (blkOk_by (N := N_many_with) (sc := defScope st_many_with) (own := [("person", 3), ("thing", 4)]) (by decide +kernel)) (fun _ _ _ _ _ => ⟨_, (dg_tup (dgs_cons (dg_name (i := 3) sc.nd (by exact (by decide : 3 ∉ (compl 8 [3, 4] : List Nat)))) (dgs_cons (dg_name (i := 4) sc.nd (by exact (by decide : 4 ∉ (compl 8 [3, 4] : List Nat)))) dgs_nil)) tg2_len)⟩) (fun _ _ _ _ _ => ⟨_, dts_nil⟩) (fun _ _ _ _ _ => ⟨_, (dv 4)⟩))
      (dss_cons (ds_if (dt_w (dw_or (dt_cmp op_lt pu_lt.sm (de_lenset T.z_len T.z_set (dv 5)) (de_p (dp_len T.z_len (dx 2))) (nomark _)) (dw_or1 (dt_cmp op_lt pu_lt.sm (de_lenset T.z_len T.z_set (dv 6)) (de_p (dp_len T.z_len (dx 2))) (nomark _))))) (dss_one (ds_ret (do_e (de_p dp_int)))) dss_nil)
      (dss_cons (ds_if (dt_not (dt_val (de_o (do_cB (cr_all rfl) sr_all T.z_all (by decide +kernel) (da_cons (de_o (do_lc sc.nd (di_any (dv 2)) (blkOk_by (N := N_many_with) (sc := defScope st_many_with) (own := [("person", 3), ("thing", 4)]) (by decide +kernel)) (fun _ _ _ _ _ => ⟨_, (dg_tup (dgs_cons (dg_name (i := 3) sc.nd (by exact (by decide : 3 ∉ (compl 8 [3, 4] : List Nat)))) (dgs_cons (dg_name (i := 4) sc.nd (by exact (by decide : 4 ∉ (compl 8 [3, 4] : List Nat)))) dgs_nil)) tg2_len)⟩) (fun _ _ _ _ _ => ⟨_, dts_nil⟩) (fun _ _ _ _ _ => ⟨_, (de_p (dp_in (dp 4) (dx_p (dp_ix (dxf 0) (dp 3)))))⟩))) da_nil))))) (dss_one (ds_ret (do_e (de_p dp_int)))) dss_nil)
      (dss_cons (ds_set (i := 7) (do_make 2 T.C_Counter T.mk_Counter (ok_Counter___init__ (P := P) (w := w) (base := base) T) (hr.mono (by decide)) T.gC_Counter T.b_Counter___init__ (da_cons (de_p (dpf 0)) da_nil)) sc.nd)
      (dss_one (ds_ret (do_meth 7 2 T.C_Counter.cl T.m_Counter_of (ok_Counter_of (P := P) (w := w) (base := base) T 30) (hr.mono (by decide)) T.b_Counter_of (da_cons (de_op op_sub pu_sub.sm (de_p (dpf 7)) (de_o (do_call (ok_bits (P := P) (w := w) (base := base) T) (hr.mono (by decide)) T.g_bits T.F_bits.kp T.b_bits (da_cons (dv 5) da_nil)))) (da_cons (de_op op_sub pu_sub.sm (de_p (dpf 7)) (de_o (do_call (ok_bits (P := P) (w := w) (base := base) T) (hr.mono (by decide)) T.g_bits T.F_bits.kp T.b_bits (da_cons (dv 6) da_nil)))) da_nil))))))))))))⟩
theorem ok__law_tape (T : Tx K mg fa fdt cm) : FnOk P w K mg base CX0 1 (fa 35) (fdt 35) ["_law_script"] (spD K cm fn__law_tape 1) :=
  fn_dx (N := N__law_tape) (B := []) (g := s__law_tape) T.F__law_tape sc__law_tape (by decide) rfl rfl fun cdv A outer s H E hr => have sc := sc__law_tape
    ⟨_, (dss_one (ds_ret (do_lst (da_cons (de_o (do_cT call_list_of sr_list T.z_list (by decide +kernel) (da_cons (dv 0) da_nil))) (da_cons (de_p dp_int) (da_cons (de_p dp_int) (da_cons (de_p dp_int) (da_cons (de_p dp_int) da_nil))))))))⟩
theorem ok__law_pick (T : Tx K mg fa fdt cm) : FnOk P w K mg base CX0 1 (fa 36) (fdt 36) ["_law_tape_here", "_law_size"] (spD K cm fn__law_pick 2) :=
  fn_dx (N := N__law_pick) (B := [0]) (g := s__law_pick) T.F__law_pick sc__law_pick (by decide) rfl rfl fun cdv A outer s H E hr => have sc := sc__law_pick
    ⟨_, (dss_cons (ds_if (dt_q (dq_cmp op_gt pu_gt (dp_ix (dx 0) dp_int) dp_int (nomark _))) (dss_cons (ds_set (i := 2) (do_e (de_p (dp_op op_modN pu_mod (dp_intc T.z_int (dp_ix (dx 0) dp_int)) (dp 1)))) sc.nd)
      (dss_cons (ds_si (j := 0) (de_p (dp_op op_fdivN pu_div (dp_ix (dx 0) dp_int) (dp 1))) dp_int)
      (dss_one (ds_ret (do_mv 2))))) dss_nil)
      (dss_cons (ds_si (j := 0) (de_p (dp_op op_add pu_addI (dp_ix (dx 0) dp_int) dp_int)) dp_int)
      (dss_cons (ds_set (i := 3) (do_e (de_p dp_int)) sc.nd)
      (dss_cons (ds_if (dt_q (dq_cmp op_lt pu_lt (dp_ix (dx 0) dp_int) (dp_len T.z_len (dx_p (dp_ix (dx 0) dp_int))) (nomark _))) (dss_cons (ds_set (i := 3) (do_e (de_p (dp_ix (dx_p (dp_ix (dx 0) dp_int)) (dp_ix (dx 0) dp_int)))) sc.nd)
      (dss_one (ds_si (j := 0) (de_p (dp_op op_add pu_addI (dp_ix (dx 0) dp_int) dp_int)) dp_int))) dss_nil)
      (dss_cons (ds_if (dt_q (dq_cmp op_ge pu_ge (dp 3) (dp_op op_pow pu_pow dp_int dp_int) (nomark _))) (dss_cons (ds_si (j := 0) (de_p (dp_op op_fdivN pu_div (dp 3) (dp 1))) dp_int)
      (dss_one (ds_ret (do_e (de_p (dp_op op_modN pu_mod (dp_intc T.z_int (dp 3)) (dp 1))))))) dss_nil)
      (dss_cons (ds_set (i := 4) (do_e (de_p (dp_op op_modN pu_mod (dp_intc T.z_int (dp_op op_add pu_addI (dp_op op_add pu_addI (dp_op op_mul pu_mul (dp_ix (dx 0) dp_int) dp_int) (dp_op op_modN pu_mod (dp_intc T.z_int (dp 3)) dp_int)) (dp_op op_mul pu_mul (dp_ix (dx 0) dp_int) dp_int))) dp_int))) sc.nd)
      (dss_cons (ds_set (i := 4) (do_e (de_p (dp_op op_modN pu_mod (dp_intc T.z_int (dp_op op_mul pu_mul (dp 4) (dp_op op_add pu_addI (dp_op op_fdivN pu_div (dp 4) dp_int) dp_int))) dp_int))) sc.nd)
      (dss_cons (ds_si (j := 0) (dv 4) dp_int)
      (dss_one (ds_ret (do_e (de_p (dp_op op_modN pu_mod (dp_intc T.z_int (dp_op op_fdivN pu_div (dp 4) dp_int)) (dp 1))))))))))))))⟩
theorem ok__law_order (T : Tx K mg fa fdt cm) : FnOk P w K mg base CX0 2 (fa 37) (fdt 37) ["_law_tape_here", "_law_many"] (spD K cm fn__law_order 2) :=
  fn_dx (N := N__law_order) (B := [0]) (g := s__law_order) T.F__law_order sc__law_order (by decide) rfl rfl fun cdv A outer s H E hr => have sc := sc__law_order
    ⟨_, (dss_cons (ds_set (i := 2) (do_lrg T.z_list (drg_1 T.z_range (dv 1))) sc.nd)
      (dss_one (ds_ret (do_lc sc.nd (di_rng1 T.z_range (dv 1)) (blkOk_by (N := N__law_order) (sc := defScope st__law_order) (own := [("_law_k", 3)]) (by decide +kernel)) (fun _ _ _ _ _ => ⟨_, (dg_name (i := 3) sc.nd (by exact (by decide : 3 ∉ (compl 4 [3] : List Nat))))⟩) (fun _ _ _ _ _ => ⟨_, dts_nil⟩) (fun _ _ _ _ _ => ⟨_, (de_popAt (i := 2) (da_cons (de_o (do_callB 0 (ok__law_pick (P := P) (w := w) (base := base) T) (hr.mono (by decide)) T.g__law_pick T.F__law_pick.kp T.b__law_pick (da_cons (de_p (dp_len T.z_len (dx 2))) da_nil))) da_nil))⟩)))))⟩
theorem ok__law_loose (T : Tx K mg fa fdt cm) : FnOk P w K mg base CX0 3 (fa 38) (fdt 38) ["_law_tape_here", "_law_many"] (spD K cm fn__law_loose 2) :=
  fn_dx (N := N__law_loose) (B := [0]) (g := s__law_loose) T.F__law_loose sc__law_loose (by decide) rfl rfl fun cdv A outer s H E hr => have sc := sc__law_loose
    ⟨_, (dss_cons (ds_set (i := 2) (do_callB 0 (ok__law_order (P := P) (w := w) (base := base) T) (hr.mono (by decide)) T.g__law_order T.F__law_order.kp T.b__law_order (da_cons (dv 1) da_nil)) sc.nd)
      (dss_cons (ds_set (i := 3) (do_e (de_op op_addA sr_add (de_p dp_int) (de_o (do_callB 0 (ok__law_pick (P := P) (w := w) (base := base) T) (hr.mono (by decide)) T.g__law_pick T.F__law_pick.kp T.b__law_pick (da_cons (de_p dp_int) da_nil))))) sc.nd)
      (dss_cons (ds_set (i := 4) (do_e (de_cmp op_gt pu_gt.sm (de_o (do_callB 0 (ok__law_pick (P := P) (w := w) (base := base) T) (hr.mono (by decide)) T.g__law_pick T.F__law_pick.kp T.b__law_pick (da_cons (de_p dp_int) da_nil))) (de_p dp_int) (nomark _))) sc.nd)
      (dss_cons (ds_set (i := 5) (do_lst da_nil) sc.nd)
      (dss_cons (ds_for (di_rng1 T.z_range (dv 1)) (dg_name (i := 6) sc.nd (by exact (by decide : 6 ∉ ([0] : List Nat)))) (dss_cons (ds_setLc (i := 7) sc.nd (sw_true rfl rfl rfl (by decide +kernel)) (di_rng1 T.z_range (dv 1)) (blkOk_by (N := N__law_loose) (sc := defScope st__law_loose) (own := [("_law_thing", 8)]) (by decide +kernel)) (fun _ _ _ _ _ => ⟨_, (dg_name (i := 8) sc.nd (by exact (by decide : 8 ∉ (compl 9 [8] : List Nat))))⟩) (fun _ _ _ _ _ => ⟨_, (dts_one (dt_cmp op_lt pu_lt.sm (de_o (do_callB 0 (ok__law_pick (P := P) (w := w) (base := base) T) (hr.mono (by decide)) T.g__law_pick T.F__law_pick.kp T.b__law_pick (da_cons (de_p dp_int) da_nil))) (dv 3) (nomark _)))⟩) (fun _ _ _ _ _ => ⟨_, (dv 8)⟩))
      (dss_cons (ds_if (dt_w (dw_and (dt_val (dv 4)) (dw_and1 (dt_q (dq_nin (dp_ix (dx 2) (dp 6)) (dx 7)))))) (dss_one (ds_expr (de_app (i := 7) (da_cons (de_p (dp_ix (dx 2) (dp 6))) da_nil)))) dss_nil)
      (dss_one (ds_expr (de_app (i := 5) (da_cons (de_tupOf T.z_tuple (de_o (do_cB cr_sortedI sr_sorted T.z_sorted (by decide +kernel) (da_cons (dv 7) da_nil)))) da_nil)))))))
      (dss_one (ds_ret (do_e (de_tupOf T.z_tuple (dv 5))))))))))⟩
theorem ok__law_blocks (T : Tx K mg fa fdt cm) : FnOk P w K mg base CX0 2 (fa 39) (fdt 39) ["_law_tape_here", "_law_most"] (spD K cm fn__law_blocks 2) :=
  fn_dx (N := N__law_blocks) (B := [0]) (g := s__law_blocks) T.F__law_blocks sc__law_blocks (by decide) rfl rfl fun cdv A outer s H E hr => have sc := sc__law_blocks
    ⟨_, (dss_cons (ds_set (i := 2) (do_lst da_nil) sc.nd)
      (dss_cons (ds_while 1000 (dt_w (dw_or (dt_cmp (op_eqD hr.units) pu_eq.sm (de_p (dp_len T.z_len (dx 2))) (de_p dp_int) (nomark _)) (dw_or1 (dt_w (dw_and (dt_q (dq_cmp op_lt pu_lt (dp_len T.z_len (dx 2)) (dp 1) (nomark _))) (dw_and1 (dt_cmp op_gt pu_gt.sm (de_o (do_callB 0 (ok__law_pick (P := P) (w := w) (base := base) T) (hr.mono (by decide)) T.g__law_pick T.F__law_pick.kp T.b__law_pick (da_cons (de_p dp_int) da_nil))) (de_p dp_int) (nomark _)))))))) (dss_cons (ds_set (i := 3) (do_e (de_p (dp_len T.z_len (dx 2)))) sc.nd)
      (dss_cons (ds_set (i := 4) (do_e (de_op op_addA sr_add (de_p dp_int) (de_o (do_callB 0 (ok__law_pick (P := P) (w := w) (base := base) T) (hr.mono (by decide)) T.g__law_pick T.F__law_pick.kp T.b__law_pick (da_cons (de_o (do_cB (call_min2 rfl) sr_min T.z_min (by decide +kernel) (da_cons (de_p dp_int) (da_cons (de_p (dp_op op_sub pu_sub (dp 1) (dp 3))) da_nil)))) da_nil))))) sc.nd)
      (dss_cons (ds_set (i := 5) (do_callB 0 (ok__law_pick (P := P) (w := w) (base := base) T) (hr.mono (by decide)) T.g__law_pick T.F__law_pick.kp T.b__law_pick (da_cons (de_p dp_int) da_nil)) sc.nd)
      (dss_one (ds_for (di_rng1 T.z_range (dv 4)) (dg_name (i := 6) sc.nd (by exact (by decide : 6 ∉ ([0] : List Nat)))) (dss_cons (ds_set (i := 7) (do_lrg T.z_list (drg_2 T.z_range (dv 3) (de_op op_addA sr_add (dv 3) (dv 4)))) sc.nd)
      (dss_cons (ds_if (dt_w (dw_and (dt_cmp (op_eqD hr.units) pu_eq.sm (dv 5) (de_p dp_int) (nomark _)) (dw_and1 (dt_q (dq_cmp op_gt pu_gt (dp 4) dp_int (nomark _)))))) (dss_one (ds_set (i := 7) (do_lst (da_cons (de_op op_addA sr_add (dv 3) (dv 6)) (da_cons (de_p (dp_op op_add pu_addI (dp 3) (dp_op op_modN pu_mod (dp_intc T.z_int (dp_op op_add pu_addI (dp 6) dp_int)) (dp 4)))) da_nil))) sc.nd)) dss_nil)
      (dss_cons (ds_if (dt_w (dw_and (dt_cmp (op_eqD hr.units) pu_eq.sm (dv 5) (de_p dp_int) (nomark _)) (dw_and1 (dt_q (dq_cmp op_gt pu_gt (dp 4) dp_int (nomark _)))))) (dss_one (ds_setLc (i := 7) sc.nd (sw_true rfl rfl rfl (by decide +kernel)) (di_rng1 T.z_range (dv 4)) (blkOk_by (N := N__law_blocks) (sc := defScope st__law_blocks) (own := [("_law_j", 8)]) (by decide +kernel)) (fun _ _ _ _ _ => ⟨_, (dg_name (i := 8) sc.nd (by exact (by decide : 8 ∉ (compl 11 [8] : List Nat))))⟩) (fun _ _ _ _ _ => ⟨_, (dts_one (dt_cmp (op_neD hr.units) pu_ne.sm (dv 8) (dv 6) (nomark _)))⟩) (fun _ _ _ _ _ => ⟨_, (de_op op_addA sr_add (dv 3) (dv 8))⟩))) dss_nil)
      (dss_cons (ds_setLc (i := 9) sc.nd (sw_true rfl rfl rfl (by decide +kernel)) (di_rng1 T.z_range (dv 3)) (blkOk_by (N := N__law_blocks) (sc := defScope st__law_blocks) (own := [("_law_thing", 10)]) (by decide +kernel)) (fun _ _ _ _ _ => ⟨_, (dg_name (i := 10) sc.nd (by exact (by decide : 10 ∉ (compl 11 [10] : List Nat))))⟩) (fun _ _ _ _ _ => ⟨_, (dts_one (dt_cmp (op_eqD hr.units) pu_eq.sm (de_o (do_callB 0 (ok__law_pick (P := P) (w := w) (base := base) T) (hr.mono (by decide)) T.g__law_pick T.F__law_pick.kp T.b__law_pick (da_cons (de_p dp_int) da_nil))) (de_p dp_int) (nomark _)))⟩) (fun _ _ _ _ _ => ⟨_, (dv 10)⟩))
      (dss_one (ds_expr (de_app (i := 2) (da_cons (de_tupOf T.z_tuple (de_o (do_cB cr_sortedI sr_sorted T.z_sorted (by decide +kernel) (da_cons (de_op op_addA sr_add (dv 7) (dv 9)) da_nil)))) da_nil))))))))))))))
      (dss_one (ds_ret (do_e (de_tupOf T.z_tuple (dv 2)))))))⟩
theorem ok__law_moved (T : Tx K mg fa fdt cm) : FnOk P w K mg base CX0 3 (fa 40) (fdt 40) ["_law_tape_here", "_law_rows_here"] (spD K cm fn__law_moved 2) :=
  fn_dx (N := N__law_moved) (B := [0]) (g := s__law_moved) T.F__law_moved sc__law_moved (by decide) rfl rfl fun cdv A outer s H E hr => have sc := sc__law_moved
    ⟨_, (dss_cons (ds_set (i := 2) (do_callB 0 (ok__law_order (P := P) (w := w) (base := base) T) (hr.mono (by decide)) T.g__law_order T.F__law_order.kp T.b__law_order (da_cons (de_p (dp_len T.z_len (dx 1))) da_nil)) sc.nd)
      (dss_cons (ds_set (i := 3) (do_callB 0 (ok__law_order (P := P) (w := w) (base := base) T) (hr.mono (by decide)) T.g__law_order T.F__law_order.kp T.b__law_order (da_cons (de_p (dp_len T.z_len (dx 1))) da_nil)) sc.nd)
      (dss_one (ds_ret (do_e (de_tupOf T.z_tuple (de_o (do_lc sc.nd (di_any (dv 2)) (blkOk_by (N := N__law_moved) (sc := defScope st__law_moved) (own := [("_law_person", 5)]) (by decide +kernel)) (fun _ _ _ _ _ => ⟨_, (dg_name (i := 5) sc.nd (by exact (by decide : 5 ∉ (compl 6 [5] : List Nat))))⟩) (fun _ _ _ _ _ => ⟨_, dts_nil⟩) (fun _ _ _ _ _ => ⟨_, (de_tupOf T.z_tuple (de_o (do_cB cr_sortedI sr_sorted T.z_sorted (by decide +kernel) (da_cons (de_o (do_lc sc.nd (di_any (de_p (dp_ix (dx 1) (dp 5)))) (blkOk_by (own := [("_law_thing", 4)]) (by rfl)) (fun _ _ _ _ _ => ⟨_, (dg_name (i := 4) sc.nd (by exact (by decide : 4 ∉ (compl 6 [4] : List Nat))))⟩) (fun _ _ _ _ _ => ⟨_, dts_nil⟩) (fun _ _ _ _ _ => ⟨_, (de_p (dp_ix (dx 3) (dp 4)))⟩))) da_nil))))⟩)))))))))⟩
theorem ok__law_count (T : Tx K mg fa fdt cm) : FnOk P w K mg base CX0 1 (fa 42) (fdt 42) ["_law_rows_here"] (spD K cm fn__law_count 1) :=
  fn_dx (N := N__law_count) (B := []) (g := s__law_count) T.F__law_count sc__law_count (by decide) rfl rfl fun cdv A outer s H E hr => have sc := sc__law_count
    ⟨_, (dss_cons (ds_set (i := 1) (do_d1T (hu_1 hr.units) (de_trg T.z_tuple (drg_1 T.z_range (de_p (dp_len T.z_len (dx 0))))) (de_p dp_int)) sc.nd)
      (dss_cons (ds_for (di_any (dv 0)) (dg_name (i := 2) sc.nd (by exact (by decide : 2 ∉ ([] : List Nat)))) (dss_cons (ds_set (i := 3) do_dnT sc.nd)
      (dss_cons (ds_forK 1 (dg_name (i := 4) sc.nd (by exact (by decide : 4 ∉ ([] : List Nat)))) (dss_one (ds_for (di_any (dv 2)) (dg_name (i := 5) sc.nd (by exact (by decide : 5 ∉ ([] : List Nat)))) (dss_one (ds_if (dt_q (dq_in (dp 5) (dx 4))) (dss_cons (ds_set (i := 6) (do_e (de_tupOf T.z_tuple (de_o (do_lc sc.nd (di_any (dv 4)) (blkOk_by (N := N__law_count) (sc := defScope st__law_count) (own := [("_law_other", 7)]) (by decide +kernel)) (fun _ _ _ _ _ => ⟨_, (dg_name (i := 7) sc.nd (by exact (by decide : 7 ∉ (compl 8 [7] : List Nat))))⟩) (fun _ _ _ _ _ => ⟨_, (dts_one (dt_cmp (op_neD hr.units) pu_ne.sm (dv 7) (dv 5) (nomark _)))⟩) (fun _ _ _ _ _ => ⟨_, (dv 7)⟩))))) sc.nd)
      (dss_one (ds_dput 3 (hu_1 hr.units) (dv 6) (de_op op_addA sr_add (de_dget2 3 (hu_1 hr.units) (dv 6) (de_p dp_int)) (de_p (dp_dget (hu_1 hr.units) (dx 1) (dp 4))))))) dss_nil)))))
      (dss_one (ds_set (i := 1) (do_mv 3) sc.nd)))))
      (dss_one (ds_ret (do_e (de_dget2 1 (hu_1 hr.units) (de_tup da_nil) (de_p dp_int)))))))⟩
theorem ok__law_drawn (T : Tx K mg fa fdt cm) : FnOk P w K mg base CX0 4 (fa 43) (fdt 43) ["_law_tape_here"] (spD K cm fn__law_drawn 1) :=
  fn_dx (N := N__law_drawn) (B := [0]) (g := s__law_drawn) T.F__law_drawn sc__law_drawn (by decide) rfl rfl fun cdv A outer s H E hr => have sc := sc__law_drawn
    ⟨_, (dss_cons (ds_set (i := 1) (do_e (de_op op_addA sr_add (de_op op_addA sr_add (de_p dp_int) (de_o (do_callB 0 (ok__law_pick (P := P) (w := w) (base := base) T) (hr.mono (by decide)) T.g__law_pick T.F__law_pick.kp T.b__law_pick (da_cons (de_p dp_int) da_nil)))) (de_intc T.z_int (de_cmp (op_eqD hr.units) pu_eq.sm (de_o (do_callB 0 (ok__law_pick (P := P) (w := w) (base := base) T) (hr.mono (by decide)) T.g__law_pick T.F__law_pick.kp T.b__law_pick (da_cons (de_p dp_int) da_nil))) (de_p dp_int) (nomark _))))) sc.nd)
      (dss_cons (ds_set (i := 2) (do_callB 0 (ok__law_pick (P := P) (w := w) (base := base) T) (hr.mono (by decide)) T.g__law_pick T.F__law_pick.kp T.b__law_pick (da_cons (de_p dp_int) da_nil)) sc.nd)
      (dss_cons (ds_if (dt_cmp (op_eqD hr.units) pu_eq.sm (dv 2) (de_p dp_int) (nomark _)) (dss_one (ds_ret (do_e (de_tupOf T.z_tuple (de_o (do_lc sc.nd (di_rng1 T.z_range (dv 1)) (blkOk_by (N := N__law_drawn) (sc := defScope st__law_drawn) (own := [("_law_k", 3)]) (by decide +kernel)) (fun _ _ _ _ _ => ⟨_, (dg_name (i := 3) sc.nd (by exact (by decide : 3 ∉ (compl 5 [3] : List Nat))))⟩) (fun _ _ _ _ _ => ⟨_, dts_nil⟩) (fun _ _ _ _ _ => ⟨_, (de_trg T.z_tuple (drg_1 T.z_range (dv 1)))⟩))))))) dss_nil)
      (dss_cons (ds_if (dt_cmp (op_eqD hr.units) pu_eq.sm (dv 2) (de_p dp_int) (nomark _)) (dss_one (ds_ret (do_e (de_tupOf T.z_tuple (de_o (do_lc sc.nd (di_rng1 T.z_range (dv 1)) (blkOk_by (N := N__law_drawn) (sc := defScope st__law_drawn) (own := [("_law_k", 3)]) (by decide +kernel)) (fun _ _ _ _ _ => ⟨_, (dg_name (i := 3) sc.nd (by exact (by decide : 3 ∉ (compl 5 [3] : List Nat))))⟩) (fun _ _ _ _ _ => ⟨_, dts_nil⟩) (fun _ _ _ _ _ => ⟨_, (de_tupOf T.z_tuple (de_o (do_lc sc.nd (di_rng1 T.z_range (dv 1)) (blkOk_by (own := [("_law_thing", 4)]) (by rfl)) (fun _ _ _ _ _ => ⟨_, (dg_name (i := 4) sc.nd (by exact (by decide : 4 ∉ (compl 5 [4] : List Nat))))⟩) (fun _ _ _ _ _ => ⟨_, (dts_one (dt_cmp (op_neD hr.units) pu_ne.sm (dv 4) (dv 3) (nomark _)))⟩) (fun _ _ _ _ _ => ⟨_, (dv 4)⟩))))⟩))))))) dss_nil)
      (dss_cons (ds_if (dt_cmp (op_eqD hr.units) pu_eq.sm (dv 2) (de_p dp_int) (nomark _)) (dss_one (ds_ret (do_callB 0 (ok__law_moved (P := P) (w := w) (base := base) T) (hr.mono (by decide)) T.g__law_moved T.F__law_moved.kp T.b__law_moved (da_cons (de_o (do_callB 0 (ok__law_blocks (P := P) (w := w) (base := base) T) (hr.mono (by decide)) T.g__law_blocks T.F__law_blocks.kp T.b__law_blocks (da_cons (de_p dp_int) da_nil))) da_nil)))) dss_nil)
      (dss_one (ds_ret (do_callB 0 (ok__law_loose (P := P) (w := w) (base := base) T) (hr.mono (by decide)) T.g__law_loose T.F__law_loose.kp T.b__law_loose (da_cons (dv 1) da_nil)))))))))⟩
theorem ok_law (T : Tx K mg fa fdt cm) : FnOk P w K mg base CX0 36 (fa 44) (fdt 44) ["_law_script"] (spD K cm fn_law 1) :=
  fn_dx (N := N_law) (B := []) (g := s_law) T.F_law sc_law (by decide) rfl rfl fun cdv A outer s H E hr => have sc := sc_law
    ⟨_, (dss_cons (ds_set (i := 1) (do_call (ok__law_tape (P := P) (w := w) (base := base) T) (hr.mono (by decide)) T.g__law_tape T.F__law_tape.kp T.b__law_tape (da_cons (dv 0) da_nil)) sc.nd)
      (dss_cons (ds_set (i := 2) (do_callB 1 (ok__law_drawn (P := P) (w := w) (base := base) T) (hr.mono (by decide)) T.g__law_drawn T.F__law_drawn.kp T.b__law_drawn da_nil) sc.nd)
      (dss_cons (ds_set (i := 3) (do_make 0 T.C_Table T.mk_Table (ok_Table___init__ (P := P) (w := w) (base := base) T) (hr.mono (by decide)) T.gC_Table T.b_Table___init__ (da_cons (dv 2) da_nil)) sc.nd)
      (dss_cons (ds_set (i := 4) (do_e (de_p (dp_len T.z_len (dx 2)))) sc.nd)
      (dss_cons (ds_set (i := 5) (do_call (ok__law_count (P := P) (w := w) (base := base) T) (hr.mono (by decide)) T.g__law_count T.F__law_count.kp T.b__law_count (da_cons (dv 2) da_nil)) sc.nd)
      (dss_cons (ds_if (dt_neA (ok_Table___eq__ (P := P) (w := w) (base := base) T) (hr.mono (by decide)) T.b_Table___eq__ T.eqF T.neF T.eqI T.nfF (de_o (do_call (ok_many_dealings (P := P) (w := w) (base := base) T) (hr.mono (by decide)) T.g_many_dealings T.F_many_dealings.kp T.b_many_dealings (da_cons (dv 3) da_nil))) (dv 5)) (dss_one (ds_ret (do_e (de_p dp_bl)))) dss_nil)
      (dss_cons (ds_set (i := 6) (do_callB 1 (ok__law_pick (P := P) (w := w) (base := base) T) (hr.mono (by decide)) T.g__law_pick T.F__law_pick.kp T.b__law_pick (da_cons (dv 4) da_nil)) sc.nd)
      (dss_cons (ds_set (i := 7) (do_e (de_tupOf T.z_tuple (de_o (do_lc sc.nd (di_rng1 T.z_range (dv 4)) (blkOk_by (N := N_law) (sc := defScope st_law) (own := [("_law_k", 8)]) (by decide +kernel)) (fun _ _ _ _ _ => ⟨_, (dg_name (i := 8) sc.nd (by exact (by decide : 8 ∉ (compl 13 [8] : List Nat))))⟩) (fun _ _ _ _ _ => ⟨_, (dts_one (dt_neA (ok_Table___eq__ (P := P) (w := w) (base := base) T) (hr.mono (by decide)) T.b_Table___eq__ T.eqF T.neF T.eqI T.nfF (dv 8) (dv 6)))⟩) (fun _ _ _ _ _ => ⟨_, (dv 8)⟩))))) sc.nd)
      (dss_cons (ds_set (i := 9) (do_e (de_p dp_int)) sc.nd)
      (dss_cons (ds_for (di_any (de_p (dp_ix (dx 2) (dp 6)))) (dg_name (i := 10) sc.nd (by exact (by decide : 10 ∉ ([] : List Nat)))) (dss_cons (ds_set (i := 11) (do_e (de_p dp_int)) sc.nd)
      (dss_cons (ds_if (dt_q (dq_cmp op_gt pu_gt (dp 4) dp_int (nomark _))) (dss_one (ds_set (i := 11) (do_call (ok_many_dealings (P := P) (w := w) (base := base) T) (hr.mono (by decide)) T.g_many_dealings T.F_many_dealings.kp T.b_many_dealings (da_cons (de_o (do_call (ok_kept (P := P) (w := w) (base := base) T) (hr.mono (by decide)) T.g_kept T.F_kept.kp T.b_kept (da_cons (dv 3) (da_cons (dv 7) (da_cons (de_tupOf T.z_tuple (de_o (do_lc sc.nd (di_rng1 T.z_range (dv 4)) (blkOk_by (N := N_law) (sc := defScope st_law) (own := [("_law_k", 8)]) (by decide +kernel)) (fun _ _ _ _ _ => ⟨_, (dg_name (i := 8) sc.nd (by exact (by decide : 8 ∉ (compl 13 [8] : List Nat))))⟩) (fun _ _ _ _ _ => ⟨_, (dts_one (dt_neA (ok_Table___eq__ (P := P) (w := w) (base := base) T) (hr.mono (by decide)) T.b_Table___eq__ T.eqF T.neF T.eqI T.nfF (dv 8) (dv 10)))⟩) (fun _ _ _ _ _ => ⟨_, (dv 8)⟩)))) da_nil))))) da_nil)) sc.nd)) dss_nil)
      (dss_cons (ds_if (dt_neA (ok_Table___eq__ (P := P) (w := w) (base := base) T) (hr.mono (by decide)) T.b_Table___eq__ T.eqF T.neF T.eqI T.nfF (de_o (do_call (ok_many_with (P := P) (w := w) (base := base) T) (hr.mono (by decide)) T.g_many_with T.F_many_with.kp T.b_many_with (da_cons (dv 3) (da_cons (de_tup (da_cons (de_tup (da_cons (dv 6) (da_cons (dv 10) da_nil))) da_nil)) da_nil)))) (dv 11)) (dss_one (ds_ret (do_e (de_p dp_bl)))) dss_nil)
      (dss_one (ds_set (i := 9) (do_e (de_op op_addA sr_add (dv 9) (dv 11))) sc.nd))))))
      (dss_cons (ds_if (dt_neA (ok_Table___eq__ (P := P) (w := w) (base := base) T) (hr.mono (by decide)) T.b_Table___eq__ T.eqF T.neF T.eqI T.nfF (dv 9) (dv 5)) (dss_one (ds_ret (do_e (de_p dp_bl)))) dss_nil)
      (dss_cons (ds_set (i := 10) (do_callB 1 (ok__law_pick (P := P) (w := w) (base := base) T) (hr.mono (by decide)) T.g__law_pick T.F__law_pick.kp T.b__law_pick (da_cons (dv 4) da_nil)) sc.nd)
      (dss_cons (ds_set (i := 12) (do_call (ok_with_tie (P := P) (w := w) (base := base) T) (hr.mono (by decide)) T.g_with_tie T.F_with_tie.kp T.b_with_tie (da_cons (dv 3) (da_cons (dv 6) (da_cons (dv 10) da_nil)))) sc.nd)
      (dss_cons (ds_if (dt_neA (ok_Table___eq__ (P := P) (w := w) (base := base) T) (hr.mono (by decide)) T.b_Table___eq__ T.eqF T.neF T.eqI T.nfF (de_o (do_call (ok_many_dealings (P := P) (w := w) (base := base) T) (hr.mono (by decide)) T.g_many_dealings T.F_many_dealings.kp T.b_many_dealings (da_cons (dv 12) da_nil))) (de_op op_addA sr_add (de_o (do_call (ok_many_dealings (P := P) (w := w) (base := base) T) (hr.mono (by decide)) T.g_many_dealings T.F_many_dealings.kp T.b_many_dealings (da_cons (de_o (do_call (ok_without_tie (P := P) (w := w) (base := base) T) (hr.mono (by decide)) T.g_without_tie T.F_without_tie.kp T.b_without_tie (da_cons (dv 3) (da_cons (dv 6) (da_cons (dv 10) da_nil))))) da_nil))) (de_o (do_call (ok_many_with (P := P) (w := w) (base := base) T) (hr.mono (by decide)) T.g_many_with T.F_many_with.kp T.b_many_with (da_cons (dv 12) (da_cons (de_o (do_lst (da_cons (de_tup (da_cons (dv 6) (da_cons (dv 10) da_nil))) da_nil))) da_nil)))))) (dss_one (ds_ret (do_e (de_p dp_bl)))) dss_nil)
      (dss_one (ds_ret (do_e (de_eqA (ok_Table___eq__ (P := P) (w := w) (base := base) T) (hr.mono (by decide)) T.b_Table___eq__ T.eqF T.eqI T.nfF (de_o (do_call (ok_many_dealings (P := P) (w := w) (base := base) T) (hr.mono (by decide)) T.g_many_dealings T.F_many_dealings.kp T.b_many_dealings (da_cons (de_o (do_call (ok_beside (P := P) (w := w) (base := base) T) (hr.mono (by decide)) T.g_beside T.F_beside.kp T.b_beside (da_cons (dv 3) (da_cons (dv 3) da_nil)))) da_nil))) (de_p (dp_op op_mul pu_mul (dp 5) (dp 5)))))))))))))))))))))⟩
end
end k14

namespace k14
open PySem PySem.Spec PyProof.Rows L2 DL
/-! ### the law's own head -/
theorem head {l : PySem.W.OpenLaw} {w : World} {K : PySem.W.Frag} {h : Heap} {mg : Str → Option Value} {fL f44 : Addr} (X : K.In h) (G : h.Ns mainGlobals mg) (hfa : mg "law" = some (.ref fL))
    {C0 C1 C2 : Addr}
    {f2 : Addr}
    {od2 an2 : Option Addr} {sl2 : Array (Option Value)} {oc2 kV2 dc2 pm2 cd2 ct2 : Value}
    {f3 : Addr}
    {od3 an3 : Option Addr} {sl3 : Array (Option Value)} {oc3 kV3 dc3 pm3 cd3 ct3 : Value}
    {f4 : Addr}
    {od4 an4 : Option Addr} {sl4 : Array (Option Value)} {oc4 kV4 dc4 pm4 cd4 ct4 : Value}
    {f5 : Addr}
    {od5 an5 : Option Addr} {sl5 : Array (Option Value)} {oc5 kV5 dc5 pm5 cd5 ct5 : Value}
    {f6 : Addr}
    {od6 an6 : Option Addr} {sl6 : Array (Option Value)} {oc6 kV6 dc6 pm6 cd6 ct6 : Value}
    {f7 : Addr}
    {od7 an7 : Option Addr} {sl7 : Array (Option Value)} {oc7 kV7 dc7 pm7 cd7 ct7 : Value}
    {f8 : Addr}
    {od8 an8 : Option Addr} {sl8 : Array (Option Value)} {oc8 kV8 dc8 pm8 cd8 ct8 : Value}
    {f9 : Addr}
    {od9 an9 : Option Addr} {sl9 : Array (Option Value)} {oc9 kV9 dc9 pm9 cd9 ct9 : Value}
    {f10 : Addr}
    {od10 an10 : Option Addr} {sl10 : Array (Option Value)} {oc10 kV10 dc10 pm10 cd10 ct10 : Value}
    {f11 : Addr}
    {od11 an11 : Option Addr} {sl11 : Array (Option Value)} {oc11 kV11 dc11 pm11 cd11 ct11 : Value}
    {f12 : Addr}
    {od12 an12 : Option Addr} {sl12 : Array (Option Value)} {oc12 kV12 dc12 pm12 cd12 ct12 : Value}
    {f13 : Addr}
    {od13 an13 : Option Addr} {sl13 : Array (Option Value)} {oc13 kV13 dc13 pm13 cd13 ct13 : Value}
    {f14 : Addr}
    {od14 an14 : Option Addr} {sl14 : Array (Option Value)} {oc14 kV14 dc14 pm14 cd14 ct14 : Value}
    {f15 : Addr}
    {od15 an15 : Option Addr} {sl15 : Array (Option Value)} {oc15 kV15 dc15 pm15 cd15 ct15 : Value}
    {f16 : Addr}
    {od16 an16 : Option Addr} {sl16 : Array (Option Value)} {oc16 kV16 dc16 pm16 cd16 ct16 : Value}
    {f17 : Addr}
    {od17 an17 : Option Addr} {sl17 : Array (Option Value)} {oc17 kV17 dc17 pm17 cd17 ct17 : Value}
    {f18 : Addr}
    {od18 an18 : Option Addr} {sl18 : Array (Option Value)} {oc18 kV18 dc18 pm18 cd18 ct18 : Value}
    {f19 : Addr}
    {od19 an19 : Option Addr} {sl19 : Array (Option Value)} {oc19 kV19 dc19 pm19 cd19 ct19 : Value}
    {f20 : Addr}
    {od20 an20 : Option Addr} {sl20 : Array (Option Value)} {oc20 kV20 dc20 pm20 cd20 ct20 : Value}
    {f21 : Addr}
    {od21 an21 : Option Addr} {sl21 : Array (Option Value)} {oc21 kV21 dc21 pm21 cd21 ct21 : Value}
    {f22 : Addr}
    {od22 an22 : Option Addr} {sl22 : Array (Option Value)} {oc22 kV22 dc22 pm22 cd22 ct22 : Value}
    {f23 : Addr}
    {od23 an23 : Option Addr} {sl23 : Array (Option Value)} {oc23 kV23 dc23 pm23 cd23 ct23 : Value}
    {f24 : Addr}
    {od24 an24 : Option Addr} {sl24 : Array (Option Value)} {oc24 kV24 dc24 pm24 cd24 ct24 : Value}
    {f25 : Addr}
    {od25 an25 : Option Addr} {sl25 : Array (Option Value)} {oc25 kV25 dc25 pm25 cd25 ct25 : Value}
    {f26 : Addr}
    {od26 an26 : Option Addr} {sl26 : Array (Option Value)} {oc26 kV26 dc26 pm26 cd26 ct26 : Value}
    {f27 : Addr}
    {od27 an27 : Option Addr} {sl27 : Array (Option Value)} {oc27 kV27 dc27 pm27 cd27 ct27 : Value}
    {f28 : Addr}
    {od28 an28 : Option Addr} {sl28 : Array (Option Value)} {oc28 kV28 dc28 pm28 cd28 ct28 : Value}
    {f29 : Addr}
    {od29 an29 : Option Addr} {sl29 : Array (Option Value)} {oc29 kV29 dc29 pm29 cd29 ct29 : Value}
    {f30 : Addr}
    {od30 an30 : Option Addr} {sl30 : Array (Option Value)} {oc30 kV30 dc30 pm30 cd30 ct30 : Value}
    {f31 : Addr}
    {od31 an31 : Option Addr} {sl31 : Array (Option Value)} {oc31 kV31 dc31 pm31 cd31 ct31 : Value}
    {f32 : Addr}
    {od32 an32 : Option Addr} {sl32 : Array (Option Value)} {oc32 kV32 dc32 pm32 cd32 ct32 : Value}
    {f33 : Addr}
    {od33 an33 : Option Addr} {sl33 : Array (Option Value)} {oc33 kV33 dc33 pm33 cd33 ct33 : Value}
    {f34 : Addr}
    {od34 an34 : Option Addr} {sl34 : Array (Option Value)} {oc34 kV34 dc34 pm34 cd34 ct34 : Value}
    {f35 : Addr}
    {od35 an35 : Option Addr} {sl35 : Array (Option Value)} {oc35 kV35 dc35 pm35 cd35 ct35 : Value}
    {f36 : Addr}
    {od36 an36 : Option Addr} {sl36 : Array (Option Value)} {oc36 kV36 dc36 pm36 cd36 ct36 : Value}
    {f37 : Addr}
    {od37 an37 : Option Addr} {sl37 : Array (Option Value)} {oc37 kV37 dc37 pm37 cd37 ct37 : Value}
    {f38 : Addr}
    {od38 an38 : Option Addr} {sl38 : Array (Option Value)} {oc38 kV38 dc38 pm38 cd38 ct38 : Value}
    {f39 : Addr}
    {od39 an39 : Option Addr} {sl39 : Array (Option Value)} {oc39 kV39 dc39 pm39 cd39 ct39 : Value}
    {f40 : Addr}
    {od40 an40 : Option Addr} {sl40 : Array (Option Value)} {oc40 kV40 dc40 pm40 cd40 ct40 : Value}
    {f42 : Addr}
    {od42 an42 : Option Addr} {sl42 : Array (Option Value)} {oc42 kV42 dc42 pm42 cd42 ct42 : Value}
    {f43 : Addr}
    {od43 an43 : Option Addr} {sl43 : Array (Option Value)} {oc43 kV43 dc43 pm43 cd43 ct43 : Value}
    {od44 an44 : Option Addr} {sl44 : Array (Option Value)} {oc44 kV44 dc44 pm44 cd44 ct44 : Value}
    {t_MOST_BESIDE : Tok}
    {t_MOST_PEOPLE : Tok}
    (aC0 : PySem.W.nsIn K mainGlobals "Table" = some (some (.ref C0)))
    (aC1 : PySem.W.nsIn K mainGlobals "RawTable" = some (some (.ref C1)))
    (aC2 : PySem.W.nsIn K mainGlobals "Counter" = some (some (.ref C2)))
    (a2 : PySem.W.nsIn K mainGlobals "is_integer" = some (some (.ref f2)))
    (l2 : K.lookup f2 = some ⟨oc2, od2, .func (PySem.W.fnOf "is_integer" "is_integer" (defArgs st_is_integer) (defBody st_is_integer) (defScope st_is_integer) .none kV2 dc2 pm2 an2 cd2 ct2), sl2⟩)
    (c2 : PySem.W.codeIn K cd2 "is_integer" = true)
    (k2 : PySem.W.keepIn K (.ref f2) = true)
    (a3 : PySem.W.nsIn K mainGlobals "is_within" = some (some (.ref f3)))
    (l3 : K.lookup f3 = some ⟨oc3, od3, .func (PySem.W.fnOf "is_within" "is_within" (defArgs st_is_within) (defBody st_is_within) (defScope st_is_within) .none kV3 dc3 pm3 an3 cd3 ct3), sl3⟩)
    (c3 : PySem.W.codeIn K cd3 "is_within" = true)
    (k3 : PySem.W.keepIn K (.ref f3) = true)
    (a4 : PySem.W.nsIn K mainGlobals "is_pair" = some (some (.ref f4)))
    (l4 : K.lookup f4 = some ⟨oc4, od4, .func (PySem.W.fnOf "is_pair" "is_pair" (defArgs st_is_pair) (defBody st_is_pair) (defScope st_is_pair) .none kV4 dc4 pm4 an4 cd4 ct4), sl4⟩)
    (c4 : PySem.W.codeIn K cd4 "is_pair" = true)
    (k4 : PySem.W.keepIn K (.ref f4) = true)
    (a5 : PySem.W.nsIn K mainGlobals "is_listed" = some (some (.ref f5)))
    (l5 : K.lookup f5 = some ⟨oc5, od5, .func (PySem.W.fnOf "is_listed" "is_listed" (defArgs st_is_listed) (defBody st_is_listed) (defScope st_is_listed) .none kV5 dc5 pm5 an5 cd5 ct5), sl5⟩)
    (c5 : PySem.W.codeIn K cd5 "is_listed" = true)
    (k5 : PySem.W.keepIn K (.ref f5) = true)
    (a6 : PySem.W.nsIn K mainGlobals "are_ascending" = some (some (.ref f6)))
    (l6 : K.lookup f6 = some ⟨oc6, od6, .func (PySem.W.fnOf "are_ascending" "are_ascending" (defArgs st_are_ascending) (defBody st_are_ascending) (defScope st_are_ascending) .none kV6 dc6 pm6 an6 cd6 ct6), sl6⟩)
    (c6 : PySem.W.codeIn K cd6 "are_ascending" = true)
    (k6 : PySem.W.keepIn K (.ref f6) = true)
    (a7 : PySem.W.nsIn K mainGlobals "is_lot_of" = some (some (.ref f7)))
    (l7 : K.lookup f7 = some ⟨oc7, od7, .func (PySem.W.fnOf "is_lot_of" "is_lot_of" (defArgs st_is_lot_of) (defBody st_is_lot_of) (defScope st_is_lot_of) .none kV7 dc7 pm7 an7 cd7 ct7), sl7⟩)
    (c7 : PySem.W.codeIn K cd7 "is_lot_of" = true)
    (k7 : PySem.W.keepIn K (.ref f7) = true)
    (a8 : PySem.W.nsIn K mainGlobals "check_many" = some (some (.ref f8)))
    (l8 : K.lookup f8 = some ⟨oc8, od8, .func (PySem.W.fnOf "check_many" "check_many" (defArgs st_check_many) (defBody st_check_many) (defScope st_check_many) .none kV8 dc8 pm8 an8 cd8 ct8), sl8⟩)
    (c8 : PySem.W.codeIn K cd8 "check_many" = true)
    (k8 : PySem.W.keepIn K (.ref f8) = true)
    (a9 : PySem.W.findIn K (.ref C0) "__init__" = some (some (.ref f9)))
    (i9 : PySem.W.isFn K (.ref f9) = true)
    (l9 : K.lookup f9 = some ⟨oc9, od9, .func (PySem.W.fnOf "__init__" "Table.__init__" (defArgs st_Table___init__) (defBody st_Table___init__) (defScope st_Table___init__) .none kV9 dc9 pm9 an9 cd9 ct9), sl9⟩)
    (c9 : PySem.W.codeIn K cd9 "Table.__init__" = true)
    (k9 : PySem.W.keepIn K (.ref f9) = true)
    (a10 : PySem.W.findIn K (.ref C0) "keep" = some (some (.ref f10)))
    (i10 : PySem.W.isFn K (.ref f10) = true)
    (l10 : K.lookup f10 = some ⟨oc10, od10, .func (PySem.W.fnOf "keep" "Table.keep" (defArgs st_Table_keep) (defBody st_Table_keep) (defScope st_Table_keep) .none kV10 dc10 pm10 an10 cd10 ct10), sl10⟩)
    (c10 : PySem.W.codeIn K cd10 "Table.keep" = true)
    (k10 : PySem.W.keepIn K (.ref f10) = true)
    (a11 : PySem.W.findIn K (.ref C0) "__eq__" = some (some (.ref f11)))
    (i11 : PySem.W.isFn K (.ref f11) = true)
    (l11 : K.lookup f11 = some ⟨oc11, od11, .func (PySem.W.fnOf "__eq__" "Table.__eq__" (defArgs st_Table___eq__) (defBody st_Table___eq__) (defScope st_Table___eq__) .none kV11 dc11 pm11 an11 cd11 ct11), sl11⟩)
    (c11 : PySem.W.codeIn K cd11 "Table.__eq__" = true)
    (k11 : PySem.W.keepIn K (.ref f11) = true)
    (a12 : PySem.W.findIn K (.ref C1) "__init__" = some (some (.ref f12)))
    (i12 : PySem.W.isFn K (.ref f12) = true)
    (l12 : K.lookup f12 = some ⟨oc12, od12, .func (PySem.W.fnOf "__init__" "RawTable.__init__" (defArgs st_RawTable___init__) (defBody st_RawTable___init__) (defScope st_RawTable___init__) .none kV12 dc12 pm12 an12 cd12 ct12), sl12⟩)
    (c12 : PySem.W.codeIn K cd12 "RawTable.__init__" = true)
    (k12 : PySem.W.keepIn K (.ref f12) = true)
    (a13 : PySem.W.nsIn K mainGlobals "is_person" = some (some (.ref f13)))
    (l13 : K.lookup f13 = some ⟨oc13, od13, .func (PySem.W.fnOf "is_person" "is_person" (defArgs st_is_person) (defBody st_is_person) (defScope st_is_person) .none kV13 dc13 pm13 an13 cd13 ct13), sl13⟩)
    (c13 : PySem.W.codeIn K cd13 "is_person" = true)
    (k13 : PySem.W.keepIn K (.ref f13) = true)
    (a14 : PySem.W.nsIn K mainGlobals "check_person" = some (some (.ref f14)))
    (l14 : K.lookup f14 = some ⟨oc14, od14, .func (PySem.W.fnOf "check_person" "check_person" (defArgs st_check_person) (defBody st_check_person) (defScope st_check_person) .none kV14 dc14 pm14 an14 cd14 ct14), sl14⟩)
    (c14 : PySem.W.codeIn K cd14 "check_person" = true)
    (k14 : PySem.W.keepIn K (.ref f14) = true)
    (a15 : PySem.W.nsIn K mainGlobals "check_thing" = some (some (.ref f15)))
    (l15 : K.lookup f15 = some ⟨oc15, od15, .func (PySem.W.fnOf "check_thing" "check_thing" (defArgs st_check_thing) (defBody st_check_thing) (defScope st_check_thing) .none kV15 dc15 pm15 an15 cd15 ct15), sl15⟩)
    (c15 : PySem.W.codeIn K cd15 "check_thing" = true)
    (k15 : PySem.W.keepIn K (.ref f15) = true)
    (a16 : PySem.W.nsIn K mainGlobals "check_pair" = some (some (.ref f16)))
    (l16 : K.lookup f16 = some ⟨oc16, od16, .func (PySem.W.fnOf "check_pair" "check_pair" (defArgs st_check_pair) (defBody st_check_pair) (defScope st_check_pair) .none kV16 dc16 pm16 an16 cd16 ct16), sl16⟩)
    (c16 : PySem.W.codeIn K cd16 "check_pair" = true)
    (k16 : PySem.W.keepIn K (.ref f16) = true)
    (a17 : PySem.W.nsIn K mainGlobals "with_row" = some (some (.ref f17)))
    (l17 : K.lookup f17 = some ⟨oc17, od17, .func (PySem.W.fnOf "with_row" "with_row" (defArgs st_with_row) (defBody st_with_row) (defScope st_with_row) .none kV17 dc17 pm17 an17 cd17 ct17), sl17⟩)
    (c17 : PySem.W.codeIn K cd17 "with_row" = true)
    (k17 : PySem.W.keepIn K (.ref f17) = true)
    (a18 : PySem.W.nsIn K mainGlobals "with_tie" = some (some (.ref f18)))
    (l18 : K.lookup f18 = some ⟨oc18, od18, .func (PySem.W.fnOf "with_tie" "with_tie" (defArgs st_with_tie) (defBody st_with_tie) (defScope st_with_tie) .none kV18 dc18 pm18 an18 cd18 ct18), sl18⟩)
    (c18 : PySem.W.codeIn K cd18 "with_tie" = true)
    (k18 : PySem.W.keepIn K (.ref f18) = true)
    (a19 : PySem.W.nsIn K mainGlobals "without_tie" = some (some (.ref f19)))
    (l19 : K.lookup f19 = some ⟨oc19, od19, .func (PySem.W.fnOf "without_tie" "without_tie" (defArgs st_without_tie) (defBody st_without_tie) (defScope st_without_tie) .none kV19 dc19 pm19 an19 cd19 ct19), sl19⟩)
    (c19 : PySem.W.codeIn K cd19 "without_tie" = true)
    (k19 : PySem.W.keepIn K (.ref f19) = true)
    (a20 : PySem.W.nsIn K mainGlobals "beside" = some (some (.ref f20)))
    (l20 : K.lookup f20 = some ⟨oc20, od20, .func (PySem.W.fnOf "beside" "beside" (defArgs st_beside) (defBody st_beside) (defScope st_beside) .none kV20 dc20 pm20 an20 cd20 ct20), sl20⟩)
    (c20 : PySem.W.codeIn K cd20 "beside" = true)
    (k20 : PySem.W.keepIn K (.ref f20) = true)
    (a21 : PySem.W.nsIn K mainGlobals "kept_in" = some (some (.ref f21)))
    (l21 : K.lookup f21 = some ⟨oc21, od21, .func (PySem.W.fnOf "kept_in" "kept_in" (defArgs st_kept_in) (defBody st_kept_in) (defScope st_kept_in) .none kV21 dc21 pm21 an21 cd21 ct21), sl21⟩)
    (c21 : PySem.W.codeIn K cd21 "kept_in" = true)
    (k21 : PySem.W.keepIn K (.ref f21) = true)
    (a22 : PySem.W.nsIn K mainGlobals "check_some_of" = some (some (.ref f22)))
    (l22 : K.lookup f22 = some ⟨oc22, od22, .func (PySem.W.fnOf "check_some_of" "check_some_of" (defArgs st_check_some_of) (defBody st_check_some_of) (defScope st_check_some_of) .none kV22 dc22 pm22 an22 cd22 ct22), sl22⟩)
    (c22 : PySem.W.codeIn K cd22 "check_some_of" = true)
    (k22 : PySem.W.keepIn K (.ref f22) = true)
    (a23 : PySem.W.nsIn K mainGlobals "kept" = some (some (.ref f23)))
    (l23 : K.lookup f23 = some ⟨oc23, od23, .func (PySem.W.fnOf "kept" "kept" (defArgs st_kept) (defBody st_kept) (defScope st_kept) .none kV23 dc23 pm23 an23 cd23 ct23), sl23⟩)
    (c23 : PySem.W.codeIn K cd23 "kept" = true)
    (k23 : PySem.W.keepIn K (.ref f23) = true)
    (a24 : PySem.W.nsIn K mainGlobals "bits" = some (some (.ref f24)))
    (l24 : K.lookup f24 = some ⟨oc24, od24, .func (PySem.W.fnOf "bits" "bits" (defArgs st_bits) (defBody st_bits) (defScope st_bits) .none kV24 dc24 pm24 an24 cd24 ct24), sl24⟩)
    (c24 : PySem.W.codeIn K cd24 "bits" = true)
    (k24 : PySem.W.keepIn K (.ref f24) = true)
    (a25 : PySem.W.nsIn K mainGlobals "without" = some (some (.ref f25)))
    (l25 : K.lookup f25 = some ⟨oc25, od25, .func (PySem.W.fnOf "without" "without" (defArgs st_without) (defBody st_without) (defScope st_without) .none kV25 dc25 pm25 an25 cd25 ct25), sl25⟩)
    (c25 : PySem.W.codeIn K cd25 "without" = true)
    (k25 : PySem.W.keepIn K (.ref f25) = true)
    (a26 : PySem.W.nsIn K mainGlobals "has" = some (some (.ref f26)))
    (l26 : K.lookup f26 = some ⟨oc26, od26, .func (PySem.W.fnOf "has" "has" (defArgs st_has) (defBody st_has) (defScope st_has) .none kV26 dc26 pm26 an26 cd26 ct26), sl26⟩)
    (c26 : PySem.W.codeIn K cd26 "has" = true)
    (k26 : PySem.W.keepIn K (.ref f26) = true)
    (a27 : PySem.W.nsIn K mainGlobals "least_of" = some (some (.ref f27)))
    (l27 : K.lookup f27 = some ⟨oc27, od27, .func (PySem.W.fnOf "least_of" "least_of" (defArgs st_least_of) (defBody st_least_of) (defScope st_least_of) .none kV27 dc27 pm27 an27 cd27 ct27), sl27⟩)
    (c27 : PySem.W.codeIn K cd27 "least_of" = true)
    (k27 : PySem.W.keepIn K (.ref f27) = true)
    (a28 : PySem.W.findIn K (.ref C2) "__init__" = some (some (.ref f28)))
    (i28 : PySem.W.isFn K (.ref f28) = true)
    (l28 : K.lookup f28 = some ⟨oc28, od28, .func (PySem.W.fnOf "__init__" "Counter.__init__" (defArgs st_Counter___init__) (defBody st_Counter___init__) (defScope st_Counter___init__) .none kV28 dc28 pm28 an28 cd28 ct28), sl28⟩)
    (c28 : PySem.W.codeIn K cd28 "Counter.__init__" = true)
    (k28 : PySem.W.keepIn K (.ref f28) = true)
    (a29 : PySem.W.findIn K (.ref C2) "of" = some (some (.ref f29)))
    (i29 : PySem.W.isFn K (.ref f29) = true)
    (l29 : K.lookup f29 = some ⟨oc29, od29, .func (PySem.W.fnOf "of" "Counter.of" (defArgs st_Counter_of) (defBody st_Counter_of) (defScope st_Counter_of) .none kV29 dc29 pm29 an29 cd29 ct29), sl29⟩)
    (c29 : PySem.W.codeIn K cd29 "Counter.of" = true)
    (k29 : PySem.W.keepIn K (.ref f29) = true)
    (a30 : PySem.W.findIn K (.ref C2) "among" = some (some (.ref f30)))
    (i30 : PySem.W.isFn K (.ref f30) = true)
    (l30 : K.lookup f30 = some ⟨oc30, od30, .func (PySem.W.fnOf "among" "Counter.among" (defArgs st_Counter_among) (defBody st_Counter_among) (defScope st_Counter_among) .none kV30 dc30 pm30 an30 cd30 ct30), sl30⟩)
    (c30 : PySem.W.codeIn K cd30 "Counter.among" = true)
    (k30 : PySem.W.keepIn K (.ref f30) = true)
    (a31 : PySem.W.findIn K (.ref C2) "total" = some (some (.ref f31)))
    (i31 : PySem.W.isFn K (.ref f31) = true)
    (l31 : K.lookup f31 = some ⟨oc31, od31, .func (PySem.W.fnOf "total" "Counter.total" (defArgs st_Counter_total) (defBody st_Counter_total) (defScope st_Counter_total) .none kV31 dc31 pm31 an31 cd31 ct31), sl31⟩)
    (c31 : PySem.W.codeIn K cd31 "Counter.total" = true)
    (k31 : PySem.W.keepIn K (.ref f31) = true)
    (a32 : PySem.W.nsIn K mainGlobals "many_dealings" = some (some (.ref f32)))
    (l32 : K.lookup f32 = some ⟨oc32, od32, .func (PySem.W.fnOf "many_dealings" "many_dealings" (defArgs st_many_dealings) (defBody st_many_dealings) (defScope st_many_dealings) .none kV32 dc32 pm32 an32 cd32 ct32), sl32⟩)
    (c32 : PySem.W.codeIn K cd32 "many_dealings" = true)
    (k32 : PySem.W.keepIn K (.ref f32) = true)
    (a33 : PySem.W.nsIn K mainGlobals "is_lot" = some (some (.ref f33)))
    (l33 : K.lookup f33 = some ⟨oc33, od33, .func (PySem.W.fnOf "is_lot" "is_lot" (defArgs st_is_lot) (defBody st_is_lot) (defScope st_is_lot) .none kV33 dc33 pm33 an33 cd33 ct33), sl33⟩)
    (c33 : PySem.W.codeIn K cd33 "is_lot" = true)
    (k33 : PySem.W.keepIn K (.ref f33) = true)
    (a34 : PySem.W.nsIn K mainGlobals "many_with" = some (some (.ref f34)))
    (l34 : K.lookup f34 = some ⟨oc34, od34, .func (PySem.W.fnOf "many_with" "many_with" (defArgs st_many_with) (defBody st_many_with) (defScope st_many_with) .none kV34 dc34 pm34 an34 cd34 ct34), sl34⟩)
    (c34 : PySem.W.codeIn K cd34 "many_with" = true)
    (k34 : PySem.W.keepIn K (.ref f34) = true)
    (a35 : PySem.W.nsIn K mainGlobals "_law_tape" = some (some (.ref f35)))
    (l35 : K.lookup f35 = some ⟨oc35, od35, .func (PySem.W.fnOf "_law_tape" "_law_tape" (defArgs st__law_tape) (defBody st__law_tape) (defScope st__law_tape) .none kV35 dc35 pm35 an35 cd35 ct35), sl35⟩)
    (c35 : PySem.W.codeIn K cd35 "_law_tape" = true)
    (k35 : PySem.W.keepIn K (.ref f35) = true)
    (a36 : PySem.W.nsIn K mainGlobals "_law_pick" = some (some (.ref f36)))
    (l36 : K.lookup f36 = some ⟨oc36, od36, .func (PySem.W.fnOf "_law_pick" "_law_pick" (defArgs st__law_pick) (defBody st__law_pick) (defScope st__law_pick) .none kV36 dc36 pm36 an36 cd36 ct36), sl36⟩)
    (c36 : PySem.W.codeIn K cd36 "_law_pick" = true)
    (k36 : PySem.W.keepIn K (.ref f36) = true)
    (a37 : PySem.W.nsIn K mainGlobals "_law_order" = some (some (.ref f37)))
    (l37 : K.lookup f37 = some ⟨oc37, od37, .func (PySem.W.fnOf "_law_order" "_law_order" (defArgs st__law_order) (defBody st__law_order) (defScope st__law_order) .none kV37 dc37 pm37 an37 cd37 ct37), sl37⟩)
    (c37 : PySem.W.codeIn K cd37 "_law_order" = true)
    (k37 : PySem.W.keepIn K (.ref f37) = true)
    (a38 : PySem.W.nsIn K mainGlobals "_law_loose" = some (some (.ref f38)))
    (l38 : K.lookup f38 = some ⟨oc38, od38, .func (PySem.W.fnOf "_law_loose" "_law_loose" (defArgs st__law_loose) (defBody st__law_loose) (defScope st__law_loose) .none kV38 dc38 pm38 an38 cd38 ct38), sl38⟩)
    (c38 : PySem.W.codeIn K cd38 "_law_loose" = true)
    (k38 : PySem.W.keepIn K (.ref f38) = true)
    (a39 : PySem.W.nsIn K mainGlobals "_law_blocks" = some (some (.ref f39)))
    (l39 : K.lookup f39 = some ⟨oc39, od39, .func (PySem.W.fnOf "_law_blocks" "_law_blocks" (defArgs st__law_blocks) (defBody st__law_blocks) (defScope st__law_blocks) .none kV39 dc39 pm39 an39 cd39 ct39), sl39⟩)
    (c39 : PySem.W.codeIn K cd39 "_law_blocks" = true)
    (k39 : PySem.W.keepIn K (.ref f39) = true)
    (a40 : PySem.W.nsIn K mainGlobals "_law_moved" = some (some (.ref f40)))
    (l40 : K.lookup f40 = some ⟨oc40, od40, .func (PySem.W.fnOf "_law_moved" "_law_moved" (defArgs st__law_moved) (defBody st__law_moved) (defScope st__law_moved) .none kV40 dc40 pm40 an40 cd40 ct40), sl40⟩)
    (c40 : PySem.W.codeIn K cd40 "_law_moved" = true)
    (k40 : PySem.W.keepIn K (.ref f40) = true)
    (a42 : PySem.W.nsIn K mainGlobals "_law_count" = some (some (.ref f42)))
    (l42 : K.lookup f42 = some ⟨oc42, od42, .func (PySem.W.fnOf "_law_count" "_law_count" (defArgs st__law_count) (defBody st__law_count) (defScope st__law_count) .none kV42 dc42 pm42 an42 cd42 ct42), sl42⟩)
    (c42 : PySem.W.codeIn K cd42 "_law_count" = true)
    (k42 : PySem.W.keepIn K (.ref f42) = true)
    (a43 : PySem.W.nsIn K mainGlobals "_law_drawn" = some (some (.ref f43)))
    (l43 : K.lookup f43 = some ⟨oc43, od43, .func (PySem.W.fnOf "_law_drawn" "_law_drawn" (defArgs st__law_drawn) (defBody st__law_drawn) (defScope st__law_drawn) .none kV43 dc43 pm43 an43 cd43 ct43), sl43⟩)
    (c43 : PySem.W.codeIn K cd43 "_law_drawn" = true)
    (k43 : PySem.W.keepIn K (.ref f43) = true)
    (a44 : PySem.W.nsIn K mainGlobals "law" = some (some (.ref f44)))
    (l44 : K.lookup f44 = some ⟨oc44, od44, .func (PySem.W.fnOf "law" "law" (defArgs st_law) (defBody st_law) (defScope st_law) .none kV44 dc44 pm44 an44 cd44 ct44), sl44⟩)
    (c44 : PySem.W.codeIn K cd44 "law" = true)
    (k44 : PySem.W.keepIn K (.ref f44) = true)
    (z_all : PySem.W.nsIn K mainGlobals "all" = some none)
    (z_bool : PySem.W.nsIn K mainGlobals "bool" = some none)
    (z_enumerate : PySem.W.nsIn K mainGlobals "enumerate" = some none)
    (z_int : PySem.W.nsIn K mainGlobals "int" = some none)
    (z_isinstance : PySem.W.nsIn K mainGlobals "isinstance" = some none)
    (z_len : PySem.W.nsIn K mainGlobals "len" = some none)
    (z_list : PySem.W.nsIn K mainGlobals "list" = some none)
    (z_min : PySem.W.nsIn K mainGlobals "min" = some none)
    (z_range : PySem.W.nsIn K mainGlobals "range" = some none)
    (z_set : PySem.W.nsIn K mainGlobals "set" = some none)
    (z_sorted : PySem.W.nsIn K mainGlobals "sorted" = some none)
    (z_sum : PySem.W.nsIn K mainGlobals "sum" = some none)
    (z_tuple : PySem.W.nsIn K mainGlobals "tuple" = some none)
    (z_zip : PySem.W.nsIn K mainGlobals "zip" = some none)
    (q_MOST_BESIDE : PySem.W.nsIn K mainGlobals "MOST_BESIDE" = some (some (.int 40 t_MOST_BESIDE)))
    (q_MOST_PEOPLE : PySem.W.nsIn K mainGlobals "MOST_PEOPLE" = some (some (.int 12 t_MOST_PEOPLE)))
    (hn : PySem.W.specialIn K (.builtin "object.__class__") "__get__" = some (some (.builtin "getset_descriptor.__get__")))
    (ht : PySem.W.takesIn K (.builtin "object.__class__") = some true)
    (pg0 : PySem.W.plainGet K C0 Str.empty = true)
    (hd0 : PySem.W.hasDictIn K C0 = true)
    (po0 : PySem.W.plainOver K C0 = true)
    (sa0 : PySem.W.findIn K (.ref C0) "__setattr__" = some (some (.builtin "object.__setattr__")))
    (ha0 : PySem.W.findIn K (.ref C0) "__class__" = some (some (.builtin "object.__class__")))
    (hm0 : PySem.W.mroIn K C0 (.type "object") = some true)
    (pg1 : PySem.W.plainGet K C1 Str.empty = true)
    (hd1 : PySem.W.hasDictIn K C1 = true)
    (po1 : PySem.W.plainOver K C1 = true)
    (sa1 : PySem.W.findIn K (.ref C1) "__setattr__" = some (some (.builtin "object.__setattr__")))
    (ha1 : PySem.W.findIn K (.ref C1) "__class__" = some (some (.builtin "object.__class__")))
    (hm1 : PySem.W.mroIn K C1 (.type "object") = some true)
    (pg2 : PySem.W.plainGet K C2 Str.empty = true)
    (hd2 : PySem.W.hasDictIn K C2 = true)
    (po2 : PySem.W.plainOver K C2 = true)
    (sa2 : PySem.W.findIn K (.ref C2) "__setattr__" = some (some (.builtin "object.__setattr__")))
    (ha2 : PySem.W.findIn K (.ref C2) "__class__" = some (some (.builtin "object.__class__")))
    (hm2 : PySem.W.mroIn K C2 (.type "object") = some true)
    (w1_12 : PySem.W.findIn K (.ref C1) "__init__" = some (some (.ref f12)))
    (mk1 : PySem.W.makesIn K C1 = true)
    (kC1 : PySem.W.keepIn K (.ref C1) = true)
    (w2_28 : PySem.W.findIn K (.ref C2) "__init__" = some (some (.ref f28)))
    (mk2 : PySem.W.makesIn K C2 = true)
    (kC2 : PySem.W.keepIn K (.ref C2) = true)
    (w0_9 : PySem.W.findIn K (.ref C0) "__init__" = some (some (.ref f9)))
    (mk0 : PySem.W.makesIn K C0 = true)
    (kC0 : PySem.W.keepIn K (.ref C0) = true)
    (w0_10 : PySem.W.findIn K (.ref C0) "keep" = some (some (.ref f10)))
    (w1_10 : PySem.W.findIn K (.ref C1) "keep" = some (some (.ref f10)))
    (w2_30 : PySem.W.findIn K (.ref C2) "among" = some (some (.ref f30)))
    (w2_29 : PySem.W.findIn K (.ref C2) "of" = some (some (.ref f29)))
    (w2_31 : PySem.W.findIn K (.ref C2) "total" = some (some (.ref f31)))
    (na0_rows : PySem.W.findIn K (.ref C0) "rows" = some none)
    (na1_rows : PySem.W.findIn K (.ref C1) "rows" = some none)
    (na0_size : PySem.W.findIn K (.ref C0) "size" = some none)
    (na1_size : PySem.W.findIn K (.ref C1) "size" = some none)
    (na2_rows : PySem.W.findIn K (.ref C2) "rows" = some none)
    (na2_whole : PySem.W.findIn K (.ref C2) "whole" = some none)
    (na2_known : PySem.W.findIn K (.ref C2) "known" = some none)
    (it0_int : PySem.W.subIn K (.ref C0) (.type "int") = some false)
    (it1_int : PySem.W.subIn K (.ref C1) (.type "int") = some false)
    (it2_int : PySem.W.subIn K (.ref C2) (.type "int") = some false)
    (it0_bool : PySem.W.subIn K (.ref C0) (.type "bool") = some false)
    (it1_bool : PySem.W.subIn K (.ref C1) (.type "bool") = some false)
    (it2_bool : PySem.W.subIn K (.ref C2) (.type "bool") = some false)
    (it0_tuple : PySem.W.subIn K (.ref C0) (.type "tuple") = some false)
    (it1_tuple : PySem.W.subIn K (.ref C1) (.type "tuple") = some false)
    (it2_tuple : PySem.W.subIn K (.ref C2) (.type "tuple") = some false)
    (it0_list : PySem.W.subIn K (.ref C0) (.type "list") = some false)
    (it1_list : PySem.W.subIn K (.ref C1) (.type "list") = some false)
    (it2_list : PySem.W.subIn K (.ref C2) (.type "list") = some false)
    (jc0 : PySem.W.isClsIn K C0 = true)
    (jt0 : PySem.W.typeIn K (.ref C0) = some (.type "type"))
    (ib0_NoneType : PySem.W.subIn K (.type "NoneType") (.ref C0) = some false)
    (ib0_bool : PySem.W.subIn K (.type "bool") (.ref C0) = some false)
    (ib0_int : PySem.W.subIn K (.type "int") (.ref C0) = some false)
    (ib0_str : PySem.W.subIn K (.type "str") (.ref C0) = some false)
    (ib0_list : PySem.W.subIn K (.type "list") (.ref C0) = some false)
    (ib0_tuple : PySem.W.subIn K (.type "tuple") (.ref C0) = some false)
    (ib0_dict : PySem.W.subIn K (.type "dict") (.ref C0) = some false)
    (ic0_1 : PySem.W.subIn K (.ref C1) (.ref C0) = some true)
    (id0_1 : C1 ≠ C0)
    (ic0_2 : PySem.W.subIn K (.ref C2) (.ref C0) = some false)
    (id0_2 : C2 ≠ C0)
    (w0_11 : PySem.W.findIn K (.ref C0) "__eq__" = some (some (.ref f11)))
    (w1_11 : PySem.W.findIn K (.ref C1) "__eq__" = some (some (.ref f11)))
    (ne0 : PySem.W.findIn K (.ref C0) "__ne__" = some (some (.builtin "object.__ne__")))
    (ob0 : PySem.W.subIn K (.ref C0) (.type "object") = some true)
    (ne1 : PySem.W.findIn K (.ref C1) "__ne__" = some (some (.builtin "object.__ne__")))
    (ob1 : PySem.W.subIn K (.ref C1) (.type "object") = some true)
    (nf0_0 : PySem.W.notFirst K C0 (.ref C0) = true)
    (nf0_2 : PySem.W.notFirst K C0 (.ref C2) = true)
    (nf1_0 : PySem.W.notFirst K C1 (.ref C0) = true)
    (nf1_1 : PySem.W.notFirst K C1 (.ref C1) = true)
    (nf1_2 : PySem.W.notFirst K C1 (.ref C2) = true)
    (nb0_NoneType : PySem.W.notFirst K C0 (.type "NoneType") = true)
    (nb0_bool : PySem.W.notFirst K C0 (.type "bool") = true)
    (nb0_int : PySem.W.notFirst K C0 (.type "int") = true)
    (nb0_str : PySem.W.notFirst K C0 (.type "str") = true)
    (nb0_list : PySem.W.notFirst K C0 (.type "list") = true)
    (nb0_tuple : PySem.W.notFirst K C0 (.type "tuple") = true)
    (nb0_dict : PySem.W.notFirst K C0 (.type "dict") = true)
    (nb1_NoneType : PySem.W.notFirst K C1 (.type "NoneType") = true)
    (nb1_bool : PySem.W.notFirst K C1 (.type "bool") = true)
    (nb1_int : PySem.W.notFirst K C1 (.type "int") = true)
    (nb1_str : PySem.W.notFirst K C1 (.type "str") = true)
    (nb1_list : PySem.W.notFirst K C1 (.type "list") = true)
    (nb1_tuple : PySem.W.notFirst K C1 (.type "tuple") = true)
    (nb1_dict : PySem.W.notFirst K C1 (.type "dict") = true)
    (plain : ∀ ns : List Int, ns.length ≤ 63 → ∃ env, fn_law [some (.fd (.val (.scr ns)))] = some (.fd (.val (.bl true)), env)) :
    ∃ fd : FuncData, (∀ (s : Shared) (v : Value), BindsTo s fd ⟨[v], []⟩ [("_law_script", v)]) ∧ ∀ base : Heap, K.In base → base.Ns mainGlobals mg → FnOk l.prog w K mg base CX0 36 fL fd ["_law_script"] (DL.spLaw 63 K) := by
  have e := hfa.symm.trans (PySem.W.mg_of X G a44)
  cases e
  let fa : Nat → Addr := fun n => match n with | 2 => f2 | 3 => f3 | 4 => f4 | 5 => f5 | 6 => f6 | 7 => f7 | 8 => f8 | 9 => f9 | 10 => f10 | 11 => f11 | 12 => f12 | 13 => f13 | 14 => f14 | 15 => f15 | 16 => f16 | 17 => f17 | 18 => f18 | 19 => f19 | 20 => f20 | 21 => f21 | 22 => f22 | 23 => f23 | 24 => f24 | 25 => f25 | 26 => f26 | 27 => f27 | 28 => f28 | 29 => f29 | 30 => f30 | 31 => f31 | 32 => f32 | 33 => f33 | 34 => f34 | 35 => f35 | 36 => f36 | 37 => f37 | 38 => f38 | 39 => f39 | 40 => f40 | 42 => f42 | 43 => f43 | 44 => fL | _ => 0
  let fdt : Nat → FuncData := fun n => match n with | 2 => PySem.W.fnOf "is_integer" "is_integer" (defArgs st_is_integer) (defBody st_is_integer) (defScope st_is_integer) .none kV2 dc2 pm2 an2 cd2 ct2 | 3 => PySem.W.fnOf "is_within" "is_within" (defArgs st_is_within) (defBody st_is_within) (defScope st_is_within) .none kV3 dc3 pm3 an3 cd3 ct3 | 4 => PySem.W.fnOf "is_pair" "is_pair" (defArgs st_is_pair) (defBody st_is_pair) (defScope st_is_pair) .none kV4 dc4 pm4 an4 cd4 ct4 | 5 => PySem.W.fnOf "is_listed" "is_listed" (defArgs st_is_listed) (defBody st_is_listed) (defScope st_is_listed) .none kV5 dc5 pm5 an5 cd5 ct5 | 6 => PySem.W.fnOf "are_ascending" "are_ascending" (defArgs st_are_ascending) (defBody st_are_ascending) (defScope st_are_ascending) .none kV6 dc6 pm6 an6 cd6 ct6 | 7 => PySem.W.fnOf "is_lot_of" "is_lot_of" (defArgs st_is_lot_of) (defBody st_is_lot_of) (defScope st_is_lot_of) .none kV7 dc7 pm7 an7 cd7 ct7 | 8 => PySem.W.fnOf "check_many" "check_many" (defArgs st_check_many) (defBody st_check_many) (defScope st_check_many) .none kV8 dc8 pm8 an8 cd8 ct8 | 9 => PySem.W.fnOf "__init__" "Table.__init__" (defArgs st_Table___init__) (defBody st_Table___init__) (defScope st_Table___init__) .none kV9 dc9 pm9 an9 cd9 ct9 | 10 => PySem.W.fnOf "keep" "Table.keep" (defArgs st_Table_keep) (defBody st_Table_keep) (defScope st_Table_keep) .none kV10 dc10 pm10 an10 cd10 ct10 | 11 => PySem.W.fnOf "__eq__" "Table.__eq__" (defArgs st_Table___eq__) (defBody st_Table___eq__) (defScope st_Table___eq__) .none kV11 dc11 pm11 an11 cd11 ct11 | 12 => PySem.W.fnOf "__init__" "RawTable.__init__" (defArgs st_RawTable___init__) (defBody st_RawTable___init__) (defScope st_RawTable___init__) .none kV12 dc12 pm12 an12 cd12 ct12 | 13 => PySem.W.fnOf "is_person" "is_person" (defArgs st_is_person) (defBody st_is_person) (defScope st_is_person) .none kV13 dc13 pm13 an13 cd13 ct13 | 14 => PySem.W.fnOf "check_person" "check_person" (defArgs st_check_person) (defBody st_check_person) (defScope st_check_person) .none kV14 dc14 pm14 an14 cd14 ct14 | 15 => PySem.W.fnOf "check_thing" "check_thing" (defArgs st_check_thing) (defBody st_check_thing) (defScope st_check_thing) .none kV15 dc15 pm15 an15 cd15 ct15 | 16 => PySem.W.fnOf "check_pair" "check_pair" (defArgs st_check_pair) (defBody st_check_pair) (defScope st_check_pair) .none kV16 dc16 pm16 an16 cd16 ct16 | 17 => PySem.W.fnOf "with_row" "with_row" (defArgs st_with_row) (defBody st_with_row) (defScope st_with_row) .none kV17 dc17 pm17 an17 cd17 ct17 | 18 => PySem.W.fnOf "with_tie" "with_tie" (defArgs st_with_tie) (defBody st_with_tie) (defScope st_with_tie) .none kV18 dc18 pm18 an18 cd18 ct18 | 19 => PySem.W.fnOf "without_tie" "without_tie" (defArgs st_without_tie) (defBody st_without_tie) (defScope st_without_tie) .none kV19 dc19 pm19 an19 cd19 ct19 | 20 => PySem.W.fnOf "beside" "beside" (defArgs st_beside) (defBody st_beside) (defScope st_beside) .none kV20 dc20 pm20 an20 cd20 ct20 | 21 => PySem.W.fnOf "kept_in" "kept_in" (defArgs st_kept_in) (defBody st_kept_in) (defScope st_kept_in) .none kV21 dc21 pm21 an21 cd21 ct21 | 22 => PySem.W.fnOf "check_some_of" "check_some_of" (defArgs st_check_some_of) (defBody st_check_some_of) (defScope st_check_some_of) .none kV22 dc22 pm22 an22 cd22 ct22 | 23 => PySem.W.fnOf "kept" "kept" (defArgs st_kept) (defBody st_kept) (defScope st_kept) .none kV23 dc23 pm23 an23 cd23 ct23 | 24 => PySem.W.fnOf "bits" "bits" (defArgs st_bits) (defBody st_bits) (defScope st_bits) .none kV24 dc24 pm24 an24 cd24 ct24 | 25 => PySem.W.fnOf "without" "without" (defArgs st_without) (defBody st_without) (defScope st_without) .none kV25 dc25 pm25 an25 cd25 ct25 | 26 => PySem.W.fnOf "has" "has" (defArgs st_has) (defBody st_has) (defScope st_has) .none kV26 dc26 pm26 an26 cd26 ct26 | 27 => PySem.W.fnOf "least_of" "least_of" (defArgs st_least_of) (defBody st_least_of) (defScope st_least_of) .none kV27 dc27 pm27 an27 cd27 ct27 | 28 => PySem.W.fnOf "__init__" "Counter.__init__" (defArgs st_Counter___init__) (defBody st_Counter___init__) (defScope st_Counter___init__) .none kV28 dc28 pm28 an28 cd28 ct28 | 29 => PySem.W.fnOf "of" "Counter.of" (defArgs st_Counter_of) (defBody st_Counter_of) (defScope st_Counter_of) .none kV29 dc29 pm29 an29 cd29 ct29 | 30 => PySem.W.fnOf "among" "Counter.among" (defArgs st_Counter_among) (defBody st_Counter_among) (defScope st_Counter_among) .none kV30 dc30 pm30 an30 cd30 ct30 | 31 => PySem.W.fnOf "total" "Counter.total" (defArgs st_Counter_total) (defBody st_Counter_total) (defScope st_Counter_total) .none kV31 dc31 pm31 an31 cd31 ct31 | 32 => PySem.W.fnOf "many_dealings" "many_dealings" (defArgs st_many_dealings) (defBody st_many_dealings) (defScope st_many_dealings) .none kV32 dc32 pm32 an32 cd32 ct32 | 33 => PySem.W.fnOf "is_lot" "is_lot" (defArgs st_is_lot) (defBody st_is_lot) (defScope st_is_lot) .none kV33 dc33 pm33 an33 cd33 ct33 | 34 => PySem.W.fnOf "many_with" "many_with" (defArgs st_many_with) (defBody st_many_with) (defScope st_many_with) .none kV34 dc34 pm34 an34 cd34 ct34 | 35 => PySem.W.fnOf "_law_tape" "_law_tape" (defArgs st__law_tape) (defBody st__law_tape) (defScope st__law_tape) .none kV35 dc35 pm35 an35 cd35 ct35 | 36 => PySem.W.fnOf "_law_pick" "_law_pick" (defArgs st__law_pick) (defBody st__law_pick) (defScope st__law_pick) .none kV36 dc36 pm36 an36 cd36 ct36 | 37 => PySem.W.fnOf "_law_order" "_law_order" (defArgs st__law_order) (defBody st__law_order) (defScope st__law_order) .none kV37 dc37 pm37 an37 cd37 ct37 | 38 => PySem.W.fnOf "_law_loose" "_law_loose" (defArgs st__law_loose) (defBody st__law_loose) (defScope st__law_loose) .none kV38 dc38 pm38 an38 cd38 ct38 | 39 => PySem.W.fnOf "_law_blocks" "_law_blocks" (defArgs st__law_blocks) (defBody st__law_blocks) (defScope st__law_blocks) .none kV39 dc39 pm39 an39 cd39 ct39 | 40 => PySem.W.fnOf "_law_moved" "_law_moved" (defArgs st__law_moved) (defBody st__law_moved) (defScope st__law_moved) .none kV40 dc40 pm40 an40 cd40 ct40 | 42 => PySem.W.fnOf "_law_count" "_law_count" (defArgs st__law_count) (defBody st__law_count) (defScope st__law_count) .none kV42 dc42 pm42 an42 cd42 ct42 | 43 => PySem.W.fnOf "_law_drawn" "_law_drawn" (defArgs st__law_drawn) (defBody st__law_drawn) (defScope st__law_drawn) .none kV43 dc43 pm43 an43 cd43 ct43 | _ => PySem.W.fnOf "law" "law" (defArgs st_law) (defBody st_law) (defScope st_law) .none kV44 dc44 pm44 an44 cd44 ct44
  let cm : Cm := ⟨fun n => match n with | 0 => C0 | 1 => C1 | 2 => C2 | _ => 0, fun _ _ _ => none⟩
  have T : Tx K mg fa fdt cm := by
    have N1 : ∀ c ∈ eqCl, ∀ c2, eqNf c c2 = true → PySem.W.notFirst K (cm c) (.ref (cm c2)) = true := by
      intro c hc c2 e
      have e2 : c2 < 3 := by
        simp only [eqNf, Bool.or_eq_true, Bool.and_eq_true, beq_iff_eq] at e
        omega
      simp only [eqCl, List.mem_cons, List.not_mem_nil, or_false] at hc
      rcases hc with rfl | rfl
      all_goals
        match c2, e, e2 with
        | 0, e, _ => first | assumption | exact absurd e (by decide)
        | 1, e, _ => first | assumption | exact absurd e (by decide)
        | 2, e, _ => first | assumption | exact absurd e (by decide)
        | n + 3, _, e2 => exact absurd e2 (by omega)
    have N2 : ∀ c ∈ eqCl, ∀ S ∈ ["NoneType", "bool", "int", "str", "list", "tuple", "dict"], PySem.W.notFirst K (cm c) (.type S) = true := by
      intro c hc S hS
      simp only [eqCl, List.mem_cons, List.not_mem_nil, or_false] at hc
      simp only [List.mem_cons, List.not_mem_nil, or_false] at hS
      rcases hc with rfl | rfl <;> rcases hS with rfl | rfl | rfl | rfl | rfl | rfl | rfl <;> assumption
    have F_F_is_integer : Fun K "is_integer" "is_integer" st_is_integer (fa 2) (fdt 2) := fun_mk (st := st_is_integer) l2 c2 k2
    have F_b_is_integer : Binds K (fdt 2) ["thing"] [] := (fun_mk (st := st_is_integer) l2 c2 k2).binds (ps := ["thing"]) fun _ _ _ _ _ _ us hl => match us, hl with | [_], _ => rfl
    have F_g_is_integer : mg "is_integer" = some (.ref (fa 2)) := PySem.W.mg_of X G a2
    have F_F_is_within : Fun K "is_within" "is_within" st_is_within (fa 3) (fdt 3) := fun_mk (st := st_is_within) l3 c3 k3
    have F_b_is_within : Binds K (fdt 3) ["thing", "least", "most"] [] := (fun_mk (st := st_is_within) l3 c3 k3).binds (ps := ["thing", "least", "most"]) fun _ _ _ _ _ _ us hl => match us, hl with | [_, _, _], _ => rfl
    have F_g_is_within : mg "is_within" = some (.ref (fa 3)) := PySem.W.mg_of X G a3
    have F_F_is_pair : Fun K "is_pair" "is_pair" st_is_pair (fa 4) (fdt 4) := fun_mk (st := st_is_pair) l4 c4 k4
    have F_b_is_pair : Binds K (fdt 4) ["thing"] [] := (fun_mk (st := st_is_pair) l4 c4 k4).binds (ps := ["thing"]) fun _ _ _ _ _ _ us hl => match us, hl with | [_], _ => rfl
    have F_g_is_pair : mg "is_pair" = some (.ref (fa 4)) := PySem.W.mg_of X G a4
    have F_F_is_listed : Fun K "is_listed" "is_listed" st_is_listed (fa 5) (fdt 5) := fun_mk (st := st_is_listed) l5 c5 k5
    have F_b_is_listed : Binds K (fdt 5) ["thing"] [] := (fun_mk (st := st_is_listed) l5 c5 k5).binds (ps := ["thing"]) fun _ _ _ _ _ _ us hl => match us, hl with | [_], _ => rfl
    have F_g_is_listed : mg "is_listed" = some (.ref (fa 5)) := PySem.W.mg_of X G a5
    have F_F_are_ascending : Fun K "are_ascending" "are_ascending" st_are_ascending (fa 6) (fdt 6) := fun_mk (st := st_are_ascending) l6 c6 k6
    have F_b_are_ascending : Binds K (fdt 6) ["things"] [] := (fun_mk (st := st_are_ascending) l6 c6 k6).binds (ps := ["things"]) fun _ _ _ _ _ _ us hl => match us, hl with | [_], _ => rfl
    have F_g_are_ascending : mg "are_ascending" = some (.ref (fa 6)) := PySem.W.mg_of X G a6
    have F_F_is_lot_of : Fun K "is_lot_of" "is_lot_of" st_is_lot_of (fa 7) (fdt 7) := fun_mk (st := st_is_lot_of) l7 c7 k7
    have F_b_is_lot_of : Binds K (fdt 7) ["thing", "many"] [] := (fun_mk (st := st_is_lot_of) l7 c7 k7).binds (ps := ["thing", "many"]) fun _ _ _ _ _ _ us hl => match us, hl with | [_, _], _ => rfl
    have F_g_is_lot_of : mg "is_lot_of" = some (.ref (fa 7)) := PySem.W.mg_of X G a7
    have F_F_check_many : Fun K "check_many" "check_many" st_check_many (fa 8) (fdt 8) := fun_mk (st := st_check_many) l8 c8 k8
    have F_b_check_many : Binds K (fdt 8) ["number", "most"] [] := (fun_mk (st := st_check_many) l8 c8 k8).binds (ps := ["number", "most"]) fun _ _ _ _ _ _ us hl => match us, hl with | [_, _], _ => rfl
    have F_g_check_many : mg "check_many" = some (.ref (fa 8)) := PySem.W.mg_of X G a8
    have F_F_Table___init__ : Fun K "__init__" "Table.__init__" st_Table___init__ (fa 9) (fdt 9) := fun_mk (st := st_Table___init__) l9 c9 k9
    have F_b_Table___init__ : Binds K (fdt 9) ["self", "rows"] [] := (fun_mk (st := st_Table___init__) l9 c9 k9).binds (ps := ["self", "rows"]) fun _ _ _ _ _ _ us hl => match us, hl with | [_, _], _ => rfl
    have F_F_Table_keep : Fun K "keep" "Table.keep" st_Table_keep (fa 10) (fdt 10) := fun_mk (st := st_Table_keep) l10 c10 k10
    have F_b_Table_keep : Binds K (fdt 10) ["self", "rows"] [] := (fun_mk (st := st_Table_keep) l10 c10 k10).binds (ps := ["self", "rows"]) fun _ _ _ _ _ _ us hl => match us, hl with | [_, _], _ => rfl
    have F_F_Table___eq__ : Fun K "__eq__" "Table.__eq__" st_Table___eq__ (fa 11) (fdt 11) := fun_mk (st := st_Table___eq__) l11 c11 k11
    have F_b_Table___eq__ : Binds K (fdt 11) ["self", "other"] [] := (fun_mk (st := st_Table___eq__) l11 c11 k11).binds (ps := ["self", "other"]) fun _ _ _ _ _ _ us hl => match us, hl with | [_, _], _ => rfl
    have F_F_RawTable___init__ : Fun K "__init__" "RawTable.__init__" st_RawTable___init__ (fa 12) (fdt 12) := fun_mk (st := st_RawTable___init__) l12 c12 k12
    have F_b_RawTable___init__ : Binds K (fdt 12) ["self", "rows"] [] := (fun_mk (st := st_RawTable___init__) l12 c12 k12).binds (ps := ["self", "rows"]) fun _ _ _ _ _ _ us hl => match us, hl with | [_, _], _ => rfl
    have F_F_is_person : Fun K "is_person" "is_person" st_is_person (fa 13) (fdt 13) := fun_mk (st := st_is_person) l13 c13 k13
    have F_b_is_person : Binds K (fdt 13) ["table", "thing"] [] := (fun_mk (st := st_is_person) l13 c13 k13).binds (ps := ["table", "thing"]) fun _ _ _ _ _ _ us hl => match us, hl with | [_, _], _ => rfl
    have F_g_is_person : mg "is_person" = some (.ref (fa 13)) := PySem.W.mg_of X G a13
    have F_F_check_person : Fun K "check_person" "check_person" st_check_person (fa 14) (fdt 14) := fun_mk (st := st_check_person) l14 c14 k14
    have F_b_check_person : Binds K (fdt 14) ["table", "thing"] [] := (fun_mk (st := st_check_person) l14 c14 k14).binds (ps := ["table", "thing"]) fun _ _ _ _ _ _ us hl => match us, hl with | [_, _], _ => rfl
    have F_g_check_person : mg "check_person" = some (.ref (fa 14)) := PySem.W.mg_of X G a14
    have F_F_check_thing : Fun K "check_thing" "check_thing" st_check_thing (fa 15) (fdt 15) := fun_mk (st := st_check_thing) l15 c15 k15
    have F_b_check_thing : Binds K (fdt 15) ["table", "thing"] [] := (fun_mk (st := st_check_thing) l15 c15 k15).binds (ps := ["table", "thing"]) fun _ _ _ _ _ _ us hl => match us, hl with | [_, _], _ => rfl
    have F_g_check_thing : mg "check_thing" = some (.ref (fa 15)) := PySem.W.mg_of X G a15
    have F_F_check_pair : Fun K "check_pair" "check_pair" st_check_pair (fa 16) (fdt 16) := fun_mk (st := st_check_pair) l16 c16 k16
    have F_b_check_pair : Binds K (fdt 16) ["table", "person", "thing"] [] := (fun_mk (st := st_check_pair) l16 c16 k16).binds (ps := ["table", "person", "thing"]) fun _ _ _ _ _ _ us hl => match us, hl with | [_, _, _], _ => rfl
    have F_g_check_pair : mg "check_pair" = some (.ref (fa 16)) := PySem.W.mg_of X G a16
    have F_F_with_row : Fun K "with_row" "with_row" st_with_row (fa 17) (fdt 17) := fun_mk (st := st_with_row) l17 c17 k17
    have F_b_with_row : Binds K (fdt 17) ["table", "person", "row"] [] := (fun_mk (st := st_with_row) l17 c17 k17).binds (ps := ["table", "person", "row"]) fun _ _ _ _ _ _ us hl => match us, hl with | [_, _, _], _ => rfl
    have F_g_with_row : mg "with_row" = some (.ref (fa 17)) := PySem.W.mg_of X G a17
    have F_F_with_tie : Fun K "with_tie" "with_tie" st_with_tie (fa 18) (fdt 18) := fun_mk (st := st_with_tie) l18 c18 k18
    have F_b_with_tie : Binds K (fdt 18) ["table", "person", "thing"] [] := (fun_mk (st := st_with_tie) l18 c18 k18).binds (ps := ["table", "person", "thing"]) fun _ _ _ _ _ _ us hl => match us, hl with | [_, _, _], _ => rfl
    have F_g_with_tie : mg "with_tie" = some (.ref (fa 18)) := PySem.W.mg_of X G a18
    have F_F_without_tie : Fun K "without_tie" "without_tie" st_without_tie (fa 19) (fdt 19) := fun_mk (st := st_without_tie) l19 c19 k19
    have F_b_without_tie : Binds K (fdt 19) ["table", "person", "thing"] [] := (fun_mk (st := st_without_tie) l19 c19 k19).binds (ps := ["table", "person", "thing"]) fun _ _ _ _ _ _ us hl => match us, hl with | [_, _, _], _ => rfl
    have F_g_without_tie : mg "without_tie" = some (.ref (fa 19)) := PySem.W.mg_of X G a19
    have F_F_beside : Fun K "beside" "beside" st_beside (fa 20) (fdt 20) := fun_mk (st := st_beside) l20 c20 k20
    have F_b_beside : Binds K (fdt 20) ["one", "other"] [] := (fun_mk (st := st_beside) l20 c20 k20).binds (ps := ["one", "other"]) fun _ _ _ _ _ _ us hl => match us, hl with | [_, _], _ => rfl
    have F_g_beside : mg "beside" = some (.ref (fa 20)) := PySem.W.mg_of X G a20
    have F_F_kept_in : Fun K "kept_in" "kept_in" st_kept_in (fa 21) (fdt 21) := fun_mk (st := st_kept_in) l21 c21 k21
    have F_b_kept_in : Binds K (fdt 21) ["table", "people", "things"] [] := (fun_mk (st := st_kept_in) l21 c21 k21).binds (ps := ["table", "people", "things"]) fun _ _ _ _ _ _ us hl => match us, hl with | [_, _, _], _ => rfl
    have F_g_kept_in : mg "kept_in" = some (.ref (fa 21)) := PySem.W.mg_of X G a21
    have F_F_check_some_of : Fun K "check_some_of" "check_some_of" st_check_some_of (fa 22) (fdt 22) := fun_mk (st := st_check_some_of) l22 c22 k22
    have F_b_check_some_of : Binds K (fdt 22) ["table", "thing"] [] := (fun_mk (st := st_check_some_of) l22 c22 k22).binds (ps := ["table", "thing"]) fun _ _ _ _ _ _ us hl => match us, hl with | [_, _], _ => rfl
    have F_g_check_some_of : mg "check_some_of" = some (.ref (fa 22)) := PySem.W.mg_of X G a22
    have F_F_kept : Fun K "kept" "kept" st_kept (fa 23) (fdt 23) := fun_mk (st := st_kept) l23 c23 k23
    have F_b_kept : Binds K (fdt 23) ["table", "people", "things"] [] := (fun_mk (st := st_kept) l23 c23 k23).binds (ps := ["table", "people", "things"]) fun _ _ _ _ _ _ us hl => match us, hl with | [_, _, _], _ => rfl
    have F_g_kept : mg "kept" = some (.ref (fa 23)) := PySem.W.mg_of X G a23
    have F_F_bits : Fun K "bits" "bits" st_bits (fa 24) (fdt 24) := fun_mk (st := st_bits) l24 c24 k24
    have F_b_bits : Binds K (fdt 24) ["numbers"] [] := (fun_mk (st := st_bits) l24 c24 k24).binds (ps := ["numbers"]) fun _ _ _ _ _ _ us hl => match us, hl with | [_], _ => rfl
    have F_g_bits : mg "bits" = some (.ref (fa 24)) := PySem.W.mg_of X G a24
    have F_F_without : Fun K "without" "without" st_without (fa 25) (fdt 25) := fun_mk (st := st_without) l25 c25 k25
    have F_b_without : Binds K (fdt 25) ["lot", "number"] [] := (fun_mk (st := st_without) l25 c25 k25).binds (ps := ["lot", "number"]) fun _ _ _ _ _ _ us hl => match us, hl with | [_, _], _ => rfl
    have F_g_without : mg "without" = some (.ref (fa 25)) := PySem.W.mg_of X G a25
    have F_F_has : Fun K "has" "has" st_has (fa 26) (fdt 26) := fun_mk (st := st_has) l26 c26 k26
    have F_b_has : Binds K (fdt 26) ["lot", "number"] [] := (fun_mk (st := st_has) l26 c26 k26).binds (ps := ["lot", "number"]) fun _ _ _ _ _ _ us hl => match us, hl with | [_, _], _ => rfl
    have F_g_has : mg "has" = some (.ref (fa 26)) := PySem.W.mg_of X G a26
    have F_F_least_of : Fun K "least_of" "least_of" st_least_of (fa 27) (fdt 27) := fun_mk (st := st_least_of) l27 c27 k27
    have F_b_least_of : Binds K (fdt 27) ["lot"] [] := (fun_mk (st := st_least_of) l27 c27 k27).binds (ps := ["lot"]) fun _ _ _ _ _ _ us hl => match us, hl with | [_], _ => rfl
    have F_g_least_of : mg "least_of" = some (.ref (fa 27)) := PySem.W.mg_of X G a27
    have F_F_Counter___init__ : Fun K "__init__" "Counter.__init__" st_Counter___init__ (fa 28) (fdt 28) := fun_mk (st := st_Counter___init__) l28 c28 k28
    have F_b_Counter___init__ : Binds K (fdt 28) ["self", "rows"] [] := (fun_mk (st := st_Counter___init__) l28 c28 k28).binds (ps := ["self", "rows"]) fun _ _ _ _ _ _ us hl => match us, hl with | [_, _], _ => rfl
    have F_F_Counter_of : Fun K "of" "Counter.of" st_Counter_of (fa 29) (fdt 29) := fun_mk (st := st_Counter_of) l29 c29 k29
    have F_b_Counter_of : Binds K (fdt 29) ["self", "people", "things"] [] := (fun_mk (st := st_Counter_of) l29 c29 k29).binds (ps := ["self", "people", "things"]) fun _ _ _ _ _ _ us hl => match us, hl with | [_, _, _], _ => rfl
    have F_F_Counter_among : Fun K "among" "Counter.among" st_Counter_among (fa 30) (fdt 30) := fun_mk (st := st_Counter_among) l30 c30 k30
    have F_b_Counter_among : Binds K (fdt 30) ["self", "person", "things"] [] := (fun_mk (st := st_Counter_among) l30 c30 k30).binds (ps := ["self", "person", "things"]) fun _ _ _ _ _ _ us hl => match us, hl with | [_, _, _], _ => rfl
    have F_F_Counter_total : Fun K "total" "Counter.total" st_Counter_total (fa 31) (fdt 31) := fun_mk (st := st_Counter_total) l31 c31 k31
    have F_b_Counter_total : Binds K (fdt 31) ["self"] [] := (fun_mk (st := st_Counter_total) l31 c31 k31).binds (ps := ["self"]) fun _ _ _ _ _ _ us hl => match us, hl with | [_], _ => rfl
    have F_F_many_dealings : Fun K "many_dealings" "many_dealings" st_many_dealings (fa 32) (fdt 32) := fun_mk (st := st_many_dealings) l32 c32 k32
    have F_b_many_dealings : Binds K (fdt 32) ["table"] [] := (fun_mk (st := st_many_dealings) l32 c32 k32).binds (ps := ["table"]) fun _ _ _ _ _ _ us hl => match us, hl with | [_], _ => rfl
    have F_g_many_dealings : mg "many_dealings" = some (.ref (fa 32)) := PySem.W.mg_of X G a32
    have F_F_is_lot : Fun K "is_lot" "is_lot" st_is_lot (fa 33) (fdt 33) := fun_mk (st := st_is_lot) l33 c33 k33
    have F_b_is_lot : Binds K (fdt 33) ["table", "thing"] [] := (fun_mk (st := st_is_lot) l33 c33 k33).binds (ps := ["table", "thing"]) fun _ _ _ _ _ _ us hl => match us, hl with | [_, _], _ => rfl
    have F_g_is_lot : mg "is_lot" = some (.ref (fa 33)) := PySem.W.mg_of X G a33
    have F_F_many_with : Fun K "many_with" "many_with" st_many_with (fa 34) (fdt 34) := fun_mk (st := st_many_with) l34 c34 k34
    have F_b_many_with : Binds K (fdt 34) ["table", "lot"] [] := (fun_mk (st := st_many_with) l34 c34 k34).binds (ps := ["table", "lot"]) fun _ _ _ _ _ _ us hl => match us, hl with | [_, _], _ => rfl
    have F_g_many_with : mg "many_with" = some (.ref (fa 34)) := PySem.W.mg_of X G a34
    have F_F__law_tape : Fun K "_law_tape" "_law_tape" st__law_tape (fa 35) (fdt 35) := fun_mk (st := st__law_tape) l35 c35 k35
    have F_b__law_tape : Binds K (fdt 35) ["_law_script"] [] := (fun_mk (st := st__law_tape) l35 c35 k35).binds (ps := ["_law_script"]) fun _ _ _ _ _ _ us hl => match us, hl with | [_], _ => rfl
    have F_g__law_tape : mg "_law_tape" = some (.ref (fa 35)) := PySem.W.mg_of X G a35
    have F_F__law_pick : Fun K "_law_pick" "_law_pick" st__law_pick (fa 36) (fdt 36) := fun_mk (st := st__law_pick) l36 c36 k36
    have F_b__law_pick : Binds K (fdt 36) ["_law_tape_here", "_law_size"] [] := (fun_mk (st := st__law_pick) l36 c36 k36).binds (ps := ["_law_tape_here", "_law_size"]) fun _ _ _ _ _ _ us hl => match us, hl with | [_, _], _ => rfl
    have F_g__law_pick : mg "_law_pick" = some (.ref (fa 36)) := PySem.W.mg_of X G a36
    have F_F__law_order : Fun K "_law_order" "_law_order" st__law_order (fa 37) (fdt 37) := fun_mk (st := st__law_order) l37 c37 k37
    have F_b__law_order : Binds K (fdt 37) ["_law_tape_here", "_law_many"] [] := (fun_mk (st := st__law_order) l37 c37 k37).binds (ps := ["_law_tape_here", "_law_many"]) fun _ _ _ _ _ _ us hl => match us, hl with | [_, _], _ => rfl
    have F_g__law_order : mg "_law_order" = some (.ref (fa 37)) := PySem.W.mg_of X G a37
    have F_F__law_loose : Fun K "_law_loose" "_law_loose" st__law_loose (fa 38) (fdt 38) := fun_mk (st := st__law_loose) l38 c38 k38
    have F_b__law_loose : Binds K (fdt 38) ["_law_tape_here", "_law_many"] [] := (fun_mk (st := st__law_loose) l38 c38 k38).binds (ps := ["_law_tape_here", "_law_many"]) fun _ _ _ _ _ _ us hl => match us, hl with | [_, _], _ => rfl
    have F_g__law_loose : mg "_law_loose" = some (.ref (fa 38)) := PySem.W.mg_of X G a38
    have F_F__law_blocks : Fun K "_law_blocks" "_law_blocks" st__law_blocks (fa 39) (fdt 39) := fun_mk (st := st__law_blocks) l39 c39 k39
    have F_b__law_blocks : Binds K (fdt 39) ["_law_tape_here", "_law_most"] [] := (fun_mk (st := st__law_blocks) l39 c39 k39).binds (ps := ["_law_tape_here", "_law_most"]) fun _ _ _ _ _ _ us hl => match us, hl with | [_, _], _ => rfl
    have F_g__law_blocks : mg "_law_blocks" = some (.ref (fa 39)) := PySem.W.mg_of X G a39
    have F_F__law_moved : Fun K "_law_moved" "_law_moved" st__law_moved (fa 40) (fdt 40) := fun_mk (st := st__law_moved) l40 c40 k40
    have F_b__law_moved : Binds K (fdt 40) ["_law_tape_here", "_law_rows_here"] [] := (fun_mk (st := st__law_moved) l40 c40 k40).binds (ps := ["_law_tape_here", "_law_rows_here"]) fun _ _ _ _ _ _ us hl => match us, hl with | [_, _], _ => rfl
    have F_g__law_moved : mg "_law_moved" = some (.ref (fa 40)) := PySem.W.mg_of X G a40
    have F_F__law_count : Fun K "_law_count" "_law_count" st__law_count (fa 42) (fdt 42) := fun_mk (st := st__law_count) l42 c42 k42
    have F_b__law_count : Binds K (fdt 42) ["_law_rows_here"] [] := (fun_mk (st := st__law_count) l42 c42 k42).binds (ps := ["_law_rows_here"]) fun _ _ _ _ _ _ us hl => match us, hl with | [_], _ => rfl
    have F_g__law_count : mg "_law_count" = some (.ref (fa 42)) := PySem.W.mg_of X G a42
    have F_F__law_drawn : Fun K "_law_drawn" "_law_drawn" st__law_drawn (fa 43) (fdt 43) := fun_mk (st := st__law_drawn) l43 c43 k43
    have F_b__law_drawn : Binds K (fdt 43) ["_law_tape_here"] [] := (fun_mk (st := st__law_drawn) l43 c43 k43).binds (ps := ["_law_tape_here"]) fun _ _ _ _ _ _ us hl => match us, hl with | [_], _ => rfl
    have F_g__law_drawn : mg "_law_drawn" = some (.ref (fa 43)) := PySem.W.mg_of X G a43
    have F_F_law : Fun K "law" "law" st_law (fa 44) (fdt 44) := fun_mk (st := st_law) l44 c44 k44
    have F_b_law : Binds K (fdt 44) ["_law_script"] [] := (fun_mk (st := st_law) l44 c44 k44).binds (ps := ["_law_script"]) fun _ _ _ _ _ _ us hl => match us, hl with | [_], _ => rfl
    have F_g_law : mg "law" = some (.ref (fa 44)) := PySem.W.mg_of X G a44
    have F_z_all : mg "all" = none := PySem.W.mg_none_of X G z_all
    have F_z_bool : mg "bool" = none := PySem.W.mg_none_of X G z_bool
    have F_z_enumerate : mg "enumerate" = none := PySem.W.mg_none_of X G z_enumerate
    have F_z_int : mg "int" = none := PySem.W.mg_none_of X G z_int
    have F_z_isinstance : mg "isinstance" = none := PySem.W.mg_none_of X G z_isinstance
    have F_z_len : mg "len" = none := PySem.W.mg_none_of X G z_len
    have F_z_list : mg "list" = none := PySem.W.mg_none_of X G z_list
    have F_z_min : mg "min" = none := PySem.W.mg_none_of X G z_min
    have F_z_range : mg "range" = none := PySem.W.mg_none_of X G z_range
    have F_z_set : mg "set" = none := PySem.W.mg_none_of X G z_set
    have F_z_sorted : mg "sorted" = none := PySem.W.mg_none_of X G z_sorted
    have F_z_sum : mg "sum" = none := PySem.W.mg_none_of X G z_sum
    have F_z_tuple : mg "tuple" = none := PySem.W.mg_none_of X G z_tuple
    have F_z_zip : mg "zip" = none := PySem.W.mg_none_of X G z_zip
    have F_c_MOST_BESIDE : ∃ t, mg "MOST_BESIDE" = some (.int 40 t) := ⟨_, PySem.W.mg_of X G q_MOST_BESIDE⟩
    have F_c_MOST_PEOPLE : ∃ t, mg "MOST_PEOPLE" = some (.int 12 t) := ⟨_, PySem.W.mg_of X G q_MOST_PEOPLE⟩
    have F_C_Table : CFt K (cm 0) := ⟨⟨pg0, hd0, po0, sa0⟩, ha0, hn, ht, hm0⟩
    have F_C_RawTable : CFt K (cm 1) := ⟨⟨pg1, hd1, po1, sa1⟩, ha1, hn, ht, hm1⟩
    have F_C_Counter : CFt K (cm 2) := ⟨⟨pg2, hd2, po2, sa2⟩, ha2, hn, ht, hm2⟩
    have F_gC_Table : mg "Table" = some (.ref (cm 0)) := PySem.W.mg_of X G aC0
    have F_gC_RawTable : mg "RawTable" = some (.ref (cm 1)) := PySem.W.mg_of X G aC1
    have F_gC_Counter : mg "Counter" = some (.ref (cm 2)) := PySem.W.mg_of X G aC2
    have F_mk_RawTable : Mk K (cm 1) (fa 12) := ⟨mk1, w1_12, i12, kC1⟩
    have F_mk_Counter : Mk K (cm 2) (fa 28) := ⟨mk2, w2_28, i28, kC2⟩
    have F_mk_Table : Mk K (cm 0) (fa 9) := ⟨mk0, w0_9, i9, kC0⟩
    have F_m_Table_keep : Meth K (cm 0) "keep" (fa 10) := ⟨w0_10, i10, k10⟩
    have F_m_RawTable_keep : Meth K (cm 1) "keep" (fa 10) := ⟨w1_10, i10, k10⟩
    have F_m_Counter_among : Meth K (cm 2) "among" (fa 30) := ⟨w2_30, i30, k30⟩
    have F_m_Counter_of : Meth K (cm 2) "of" (fa 29) := ⟨w2_29, i29, k29⟩
    have F_m_Counter_total : Meth K (cm 2) "total" (fa 31) := ⟨w2_31, i31, k31⟩
    have F_na_Table_rows : NoAttr K (cm 0) "rows" := na0_rows
    have F_na_RawTable_rows : NoAttr K (cm 1) "rows" := na1_rows
    have F_na_Table_size : NoAttr K (cm 0) "size" := na0_size
    have F_na_RawTable_size : NoAttr K (cm 1) "size" := na1_size
    have F_na_Counter_rows : NoAttr K (cm 2) "rows" := na2_rows
    have F_na_Counter_whole : NoAttr K (cm 2) "whole" := na2_whole
    have F_na_Counter_known : NoAttr K (cm 2) "known" := na2_known
    have F_isiT_int : ∀ c b, tabT c = some b → PySem.W.kitOne K (.ref (cm c)) (.type "int") = some b := fun c b e => match c, e with | 0, e => by cases e; exact kit_t it0_int | 1, e => by cases e; exact kit_t it1_int | 2, e => by cases e; exact kit_t it2_int | n + 3, e => by unfold tabT at e; repeat (rw [if_neg (by omega)] at e); cases e
    have F_isiT_bool : ∀ c b, tabT c = some b → PySem.W.kitOne K (.ref (cm c)) (.type "bool") = some b := fun c b e => match c, e with | 0, e => by cases e; exact kit_t it0_bool | 1, e => by cases e; exact kit_t it1_bool | 2, e => by cases e; exact kit_t it2_bool | n + 3, e => by unfold tabT at e; repeat (rw [if_neg (by omega)] at e); cases e
    have F_isiT_tuple : ∀ c b, tabT c = some b → PySem.W.kitOne K (.ref (cm c)) (.type "tuple") = some b := fun c b e => match c, e with | 0, e => by cases e; exact kit_t it0_tuple | 1, e => by cases e; exact kit_t it1_tuple | 2, e => by cases e; exact kit_t it2_tuple | n + 3, e => by unfold tabT at e; repeat (rw [if_neg (by omega)] at e); cases e
    have F_isiT_list : ∀ c b, tabT c = some b → PySem.W.kitOne K (.ref (cm c)) (.type "list") = some b := fun c b e => match c, e with | 0, e => by cases e; exact kit_t it0_list | 1, e => by cases e; exact kit_t it1_list | 2, e => by cases e; exact kit_t it2_list | n + 3, e => by unfold tabT at e; repeat (rw [if_neg (by omega)] at e); cases e
    have F_isiB_Table : ∀ S ∈ ["NoneType", "bool", "int", "str", "list", "tuple", "dict"], PySem.W.kitOne K (.type S) (.ref (cm 0)) = some false := fun S hS => by simp only [List.mem_cons, List.not_mem_nil, or_false] at hS; rcases hS with rfl | rfl | rfl | rfl | rfl | rfl | rfl <;> exact kit_r jc0 jt0 (by assumption) (fun z => nomatch z)
    have F_isiC_Table : ∀ c b, tabC_Table c = some b → PySem.W.kitOne K (.ref (cm c)) (.ref (cm 0)) = some b := fun c b e => match c, e with | 0, e => by cases e; exact kit_s | 1, e => by cases e; exact kit_r jc0 jt0 ic0_1 (fun z => id0_1 (Value.ref.inj z)) | 2, e => by cases e; exact kit_r jc0 jt0 ic0_2 (fun z => id0_2 (Value.ref.inj z)) | n + 3, e => by unfold tabC_Table at e; repeat (rw [if_neg (by omega)] at e); cases e
    have F_eqF : EqF K cm eqCl (fa 11) := fun c hc => by simp only [eqCl, List.mem_cons, List.not_mem_nil, or_false] at hc; rcases hc with rfl | rfl <;> first | exact w0_11 | exact w1_11
    have F_eqI : PySem.W.isFn K (.ref (fa 11)) = true := i11
    have F_neF : ∀ c ∈ eqCl, NeF K (cm c) := fun c hc => by simp only [eqCl, List.mem_cons, List.not_mem_nil, or_false] at hc; rcases hc with rfl | rfl <;> first | exact ⟨ne0, ob0⟩ | exact ⟨ne1, ob1⟩
    have F_nfF : NfF K cm eqCl eqNf := ⟨N1, N2⟩
    exact { F_is_integer := F_F_is_integer, b_is_integer := F_b_is_integer, g_is_integer := F_g_is_integer, F_is_within := F_F_is_within, b_is_within := F_b_is_within, g_is_within := F_g_is_within, F_is_pair := F_F_is_pair, b_is_pair := F_b_is_pair, g_is_pair := F_g_is_pair, F_is_listed := F_F_is_listed, b_is_listed := F_b_is_listed, g_is_listed := F_g_is_listed, F_are_ascending := F_F_are_ascending, b_are_ascending := F_b_are_ascending, g_are_ascending := F_g_are_ascending, F_is_lot_of := F_F_is_lot_of, b_is_lot_of := F_b_is_lot_of, g_is_lot_of := F_g_is_lot_of, F_check_many := F_F_check_many, b_check_many := F_b_check_many, g_check_many := F_g_check_many, F_Table___init__ := F_F_Table___init__, b_Table___init__ := F_b_Table___init__, F_Table_keep := F_F_Table_keep, b_Table_keep := F_b_Table_keep, F_Table___eq__ := F_F_Table___eq__, b_Table___eq__ := F_b_Table___eq__, F_RawTable___init__ := F_F_RawTable___init__, b_RawTable___init__ := F_b_RawTable___init__, F_is_person := F_F_is_person, b_is_person := F_b_is_person, g_is_person := F_g_is_person, F_check_person := F_F_check_person, b_check_person := F_b_check_person, g_check_person := F_g_check_person, F_check_thing := F_F_check_thing, b_check_thing := F_b_check_thing, g_check_thing := F_g_check_thing, F_check_pair := F_F_check_pair, b_check_pair := F_b_check_pair, g_check_pair := F_g_check_pair, F_with_row := F_F_with_row, b_with_row := F_b_with_row, g_with_row := F_g_with_row, F_with_tie := F_F_with_tie, b_with_tie := F_b_with_tie, g_with_tie := F_g_with_tie, F_without_tie := F_F_without_tie, b_without_tie := F_b_without_tie, g_without_tie := F_g_without_tie, F_beside := F_F_beside, b_beside := F_b_beside, g_beside := F_g_beside, F_kept_in := F_F_kept_in, b_kept_in := F_b_kept_in, g_kept_in := F_g_kept_in, F_check_some_of := F_F_check_some_of, b_check_some_of := F_b_check_some_of, g_check_some_of := F_g_check_some_of, F_kept := F_F_kept, b_kept := F_b_kept, g_kept := F_g_kept, F_bits := F_F_bits, b_bits := F_b_bits, g_bits := F_g_bits, F_without := F_F_without, b_without := F_b_without, g_without := F_g_without, F_has := F_F_has, b_has := F_b_has, g_has := F_g_has, F_least_of := F_F_least_of, b_least_of := F_b_least_of, g_least_of := F_g_least_of, F_Counter___init__ := F_F_Counter___init__, b_Counter___init__ := F_b_Counter___init__, F_Counter_of := F_F_Counter_of, b_Counter_of := F_b_Counter_of, F_Counter_among := F_F_Counter_among, b_Counter_among := F_b_Counter_among, F_Counter_total := F_F_Counter_total, b_Counter_total := F_b_Counter_total, F_many_dealings := F_F_many_dealings, b_many_dealings := F_b_many_dealings, g_many_dealings := F_g_many_dealings, F_is_lot := F_F_is_lot, b_is_lot := F_b_is_lot, g_is_lot := F_g_is_lot, F_many_with := F_F_many_with, b_many_with := F_b_many_with, g_many_with := F_g_many_with, F__law_tape := F_F__law_tape, b__law_tape := F_b__law_tape, g__law_tape := F_g__law_tape, F__law_pick := F_F__law_pick, b__law_pick := F_b__law_pick, g__law_pick := F_g__law_pick, F__law_order := F_F__law_order, b__law_order := F_b__law_order, g__law_order := F_g__law_order, F__law_loose := F_F__law_loose, b__law_loose := F_b__law_loose, g__law_loose := F_g__law_loose, F__law_blocks := F_F__law_blocks, b__law_blocks := F_b__law_blocks, g__law_blocks := F_g__law_blocks, F__law_moved := F_F__law_moved, b__law_moved := F_b__law_moved, g__law_moved := F_g__law_moved, F__law_count := F_F__law_count, b__law_count := F_b__law_count, g__law_count := F_g__law_count, F__law_drawn := F_F__law_drawn, b__law_drawn := F_b__law_drawn, g__law_drawn := F_g__law_drawn, F_law := F_F_law, b_law := F_b_law, g_law := F_g_law, z_all := F_z_all, z_bool := F_z_bool, z_enumerate := F_z_enumerate, z_int := F_z_int, z_isinstance := F_z_isinstance, z_len := F_z_len, z_list := F_z_list, z_min := F_z_min, z_range := F_z_range, z_set := F_z_set, z_sorted := F_z_sorted, z_sum := F_z_sum, z_tuple := F_z_tuple, z_zip := F_z_zip, c_MOST_BESIDE := F_c_MOST_BESIDE, c_MOST_PEOPLE := F_c_MOST_PEOPLE, C_Table := F_C_Table, C_RawTable := F_C_RawTable, C_Counter := F_C_Counter, gC_Table := F_gC_Table, gC_RawTable := F_gC_RawTable, gC_Counter := F_gC_Counter, mk_RawTable := F_mk_RawTable, mk_Counter := F_mk_Counter, mk_Table := F_mk_Table, m_Table_keep := F_m_Table_keep, m_RawTable_keep := F_m_RawTable_keep, m_Counter_among := F_m_Counter_among, m_Counter_of := F_m_Counter_of, m_Counter_total := F_m_Counter_total, na_Table_rows := F_na_Table_rows, na_RawTable_rows := F_na_RawTable_rows, na_Table_size := F_na_Table_size, na_RawTable_size := F_na_RawTable_size, na_Counter_rows := F_na_Counter_rows, na_Counter_whole := F_na_Counter_whole, na_Counter_known := F_na_Counter_known, isiT_int := F_isiT_int, isiT_bool := F_isiT_bool, isiT_tuple := F_isiT_tuple, isiT_list := F_isiT_list, isiB_Table := F_isiB_Table, isiC_Table := F_isiC_Table, eqF := F_eqF, eqI := F_eqI, neF := F_neF, nfF := F_nfF }
  exact ⟨PySem.W.fnOf "law" "law" (defArgs st_law) (defBody st_law) (defScope st_law) .none kV44 dc44 pm44 an44 cd44 ct44, fun s v => .of_eq rfl, fun base _ _ => law_ok (ok_law (P := l.prog) (w := w) (base := base) T) plain⟩
end k14

open PySem PySem.W PyProof.Rows
set_option maxRecDepth 100000 in
set_option maxHeartbeats 0 in
theorem PySem.Challenge.cw_fullorring_k14_whole_great_numbers_of_de_holds : PySem.Challenge.rw_fullorring_k14_whole_great_numbers_of_de.Holds := by
  w_on; o_law; k_head; (case hw => w_witness2)
  k_fill
  refine DL.walk (l := PySem.Challenge.rw_fullorring_k14_whole_great_numbers_of_de) (n := 63) (k := 36) (x := "_law_script") rfl (by decide) rfl ⟨rfl, by decide, by decide⟩ (fun w h Y => PySem.W.kIn_of Y) ?F
  case F =>
    intro w mg fa h KX G hmg
    refine' k14.head KX G hmg ?aC0 ?aC1 ?aC2 ?a2 ?l2 ?c2 ?k2 ?a3 ?l3 ?c3 ?k3 ?a4 ?l4 ?c4 ?k4 ?a5 ?l5 ?c5 ?k5 ?a6 ?l6 ?c6 ?k6 ?a7 ?l7 ?c7 ?k7 ?a8 ?l8 ?c8 ?k8 ?a9 ?i9 ?l9 ?c9 ?k9 ?a10 ?i10 ?l10 ?c10 ?k10 ?a11 ?i11 ?l11 ?c11 ?k11 ?a12 ?i12 ?l12 ?c12 ?k12 ?a13 ?l13 ?c13 ?k13 ?a14 ?l14 ?c14 ?k14 ?a15 ?l15 ?c15 ?k15 ?a16 ?l16 ?c16 ?k16 ?a17 ?l17 ?c17 ?k17 ?a18 ?l18 ?c18 ?k18 ?a19 ?l19 ?c19 ?k19 ?a20 ?l20 ?c20 ?k20 ?a21 ?l21 ?c21 ?k21 ?a22 ?l22 ?c22 ?k22 ?a23 ?l23 ?c23 ?k23 ?a24 ?l24 ?c24 ?k24 ?a25 ?l25 ?c25 ?k25 ?a26 ?l26 ?c26 ?k26 ?a27 ?l27 ?c27 ?k27 ?a28 ?i28 ?l28 ?c28 ?k28 ?a29 ?i29 ?l29 ?c29 ?k29 ?a30 ?i30 ?l30 ?c30 ?k30 ?a31 ?i31 ?l31 ?c31 ?k31 ?a32 ?l32 ?c32 ?k32 ?a33 ?l33 ?c33 ?k33 ?a34 ?l34 ?c34 ?k34 ?a35 ?l35 ?c35 ?k35 ?a36 ?l36 ?c36 ?k36 ?a37 ?l37 ?c37 ?k37 ?a38 ?l38 ?c38 ?k38 ?a39 ?l39 ?c39 ?k39 ?a40 ?l40 ?c40 ?k40 ?a42 ?l42 ?c42 ?k42 ?a43 ?l43 ?c43 ?k43 ?a44 ?l44 ?c44 ?k44 ?z_all ?z_bool ?z_enumerate ?z_int ?z_isinstance ?z_len ?z_list ?z_min ?z_range ?z_set ?z_sorted ?z_sum ?z_tuple ?z_zip ?q_MOST_BESIDE ?q_MOST_PEOPLE ?hn ?ht ?pg0 ?hd0 ?po0 ?sa0 ?ha0 ?hm0 ?pg1 ?hd1 ?po1 ?sa1 ?ha1 ?hm1 ?pg2 ?hd2 ?po2 ?sa2 ?ha2 ?hm2 ?w1_12 ?mk1 ?kC1 ?w2_28 ?mk2 ?kC2 ?w0_9 ?mk0 ?kC0 ?w0_10 ?w1_10 ?w2_30 ?w2_29 ?w2_31 ?na0_rows ?na1_rows ?na0_size ?na1_size ?na2_rows ?na2_whole ?na2_known ?it0_int ?it1_int ?it2_int ?it0_bool ?it1_bool ?it2_bool ?it0_tuple ?it1_tuple ?it2_tuple ?it0_list ?it1_list ?it2_list ?jc0 ?jt0 ?ib0_NoneType ?ib0_bool ?ib0_int ?ib0_str ?ib0_list ?ib0_tuple ?ib0_dict ?ic0_1 ?id0_1 ?ic0_2 ?id0_2 ?w0_11 ?w1_11 ?ne0 ?ob0 ?ne1 ?ob1 ?nf0_0 ?nf0_2 ?nf1_0 ?nf1_1 ?nf1_2 ?nb0_NoneType ?nb0_bool ?nb0_int ?nb0_str ?nb0_list ?nb0_tuple ?nb0_dict ?nb1_NoneType ?nb1_bool ?nb1_int ?nb1_str ?nb1_list ?nb1_tuple ?nb1_dict ?plain
    (case aC0 => k_is)
    (case aC1 => k_is)
    (case aC2 => k_is)
    (case a2 => k_is)
    (case l2 => k_is)
    (case c2 => k_is)
    (case k2 => k_is)
    (case a3 => k_is)
    (case l3 => k_is)
    (case c3 => k_is)
    (case k3 => k_is)
    (case a4 => k_is)
    (case l4 => k_is)
    (case c4 => k_is)
    (case k4 => k_is)
    (case a5 => k_is)
    (case l5 => k_is)
    (case c5 => k_is)
    (case k5 => k_is)
    (case a6 => k_is)
    (case l6 => k_is)
    (case c6 => k_is)
    (case k6 => k_is)
    (case a7 => k_is)
    (case l7 => k_is)
    (case c7 => k_is)
    (case k7 => k_is)
    (case a8 => k_is)
    (case l8 => k_is)
    (case c8 => k_is)
    (case k8 => k_is)
    (case a9 => k_is)
    (case i9 => k_is)
    (case l9 => k_is)
    (case c9 => k_is)
    (case k9 => k_is)
    (case a10 => k_is)
    (case i10 => k_is)
    (case l10 => k_is)
    (case c10 => k_is)
    (case k10 => k_is)
    (case a11 => k_is)
    (case i11 => k_is)
    (case l11 => k_is)
    (case c11 => k_is)
    (case k11 => k_is)
    (case a12 => k_is)
    (case i12 => k_is)
    (case l12 => k_is)
    (case c12 => k_is)
    (case k12 => k_is)
    (case a13 => k_is)
    (case l13 => k_is)
    (case c13 => k_is)
    (case k13 => k_is)
    (case a14 => k_is)
    (case l14 => k_is)
    (case c14 => k_is)
    (case k14 => k_is)
    (case a15 => k_is)
    (case l15 => k_is)
    (case c15 => k_is)
    (case k15 => k_is)
    (case a16 => k_is)
    (case l16 => k_is)
    (case c16 => k_is)
    (case k16 => k_is)
    (case a17 => k_is)
    (case l17 => k_is)
    (case c17 => k_is)
    (case k17 => k_is)
    (case a18 => k_is)
    (case l18 => k_is)
    (case c18 => k_is)
    (case k18 => k_is)
    (case a19 => k_is)
    (case l19 => k_is)
    (case c19 => k_is)
    (case k19 => k_is)
    (case a20 => k_is)
    (case l20 => k_is)
    (case c20 => k_is)
    (case k20 => k_is)
    (case a21 => k_is)
    (case l21 => k_is)
    (case c21 => k_is)
    (case k21 => k_is)
    (case a22 => k_is)
    (case l22 => k_is)
    (case c22 => k_is)
    (case k22 => k_is)
    (case a23 => k_is)
    (case l23 => k_is)
    (case c23 => k_is)
    (case k23 => k_is)
    (case a24 => k_is)
    (case l24 => k_is)
    (case c24 => k_is)
    (case k24 => k_is)
    (case a25 => k_is)
    (case l25 => k_is)
    (case c25 => k_is)
    (case k25 => k_is)
    (case a26 => k_is)
    (case l26 => k_is)
    (case c26 => k_is)
    (case k26 => k_is)
    (case a27 => k_is)
    (case l27 => k_is)
    (case c27 => k_is)
    (case k27 => k_is)
    (case a28 => k_is)
    (case i28 => k_is)
    (case l28 => k_is)
    (case c28 => k_is)
    (case k28 => k_is)
    (case a29 => k_is)
    (case i29 => k_is)
    (case l29 => k_is)
    (case c29 => k_is)
    (case k29 => k_is)
    (case a30 => k_is)
    (case i30 => k_is)
    (case l30 => k_is)
    (case c30 => k_is)
    (case k30 => k_is)
    (case a31 => k_is)
    (case i31 => k_is)
    (case l31 => k_is)
    (case c31 => k_is)
    (case k31 => k_is)
    (case a32 => k_is)
    (case l32 => k_is)
    (case c32 => k_is)
    (case k32 => k_is)
    (case a33 => k_is)
    (case l33 => k_is)
    (case c33 => k_is)
    (case k33 => k_is)
    (case a34 => k_is)
    (case l34 => k_is)
    (case c34 => k_is)
    (case k34 => k_is)
    (case a35 => k_is)
    (case l35 => k_is)
    (case c35 => k_is)
    (case k35 => k_is)
    (case a36 => k_is)
    (case l36 => k_is)
    (case c36 => k_is)
    (case k36 => k_is)
    (case a37 => k_is)
    (case l37 => k_is)
    (case c37 => k_is)
    (case k37 => k_is)
    (case a38 => k_is)
    (case l38 => k_is)
    (case c38 => k_is)
    (case k38 => k_is)
    (case a39 => k_is)
    (case l39 => k_is)
    (case c39 => k_is)
    (case k39 => k_is)
    (case a40 => k_is)
    (case l40 => k_is)
    (case c40 => k_is)
    (case k40 => k_is)
    (case a42 => k_is)
    (case l42 => k_is)
    (case c42 => k_is)
    (case k42 => k_is)
    (case a43 => k_is)
    (case l43 => k_is)
    (case c43 => k_is)
    (case k43 => k_is)
    (case a44 => k_is)
    (case l44 => k_is)
    (case c44 => k_is)
    (case k44 => k_is)
    (case z_all => k_is)
    (case z_bool => k_is)
    (case z_enumerate => k_is)
    (case z_int => k_is)
    (case z_isinstance => k_is)
    (case z_len => k_is)
    (case z_list => k_is)
    (case z_min => k_is)
    (case z_range => k_is)
    (case z_set => k_is)
    (case z_sorted => k_is)
    (case z_sum => k_is)
    (case z_tuple => k_is)
    (case z_zip => k_is)
    (case q_MOST_BESIDE => k_is)
    (case q_MOST_PEOPLE => k_is)
    (case hn => k_is)
    (case ht => k_is)
    (case pg0 => k_is)
    (case hd0 => k_is)
    (case po0 => k_is)
    (case sa0 => k_is)
    (case ha0 => k_is)
    (case hm0 => k_is)
    (case pg1 => k_is)
    (case hd1 => k_is)
    (case po1 => k_is)
    (case sa1 => k_is)
    (case ha1 => k_is)
    (case hm1 => k_is)
    (case pg2 => k_is)
    (case hd2 => k_is)
    (case po2 => k_is)
    (case sa2 => k_is)
    (case ha2 => k_is)
    (case hm2 => k_is)
    (case w1_12 => k_is)
    (case mk1 => k_is)
    (case kC1 => k_is)
    (case w2_28 => k_is)
    (case mk2 => k_is)
    (case kC2 => k_is)
    (case w0_9 => k_is)
    (case mk0 => k_is)
    (case kC0 => k_is)
    (case w0_10 => k_is)
    (case w1_10 => k_is)
    (case w2_30 => k_is)
    (case w2_29 => k_is)
    (case w2_31 => k_is)
    (case na0_rows => k_is)
    (case na1_rows => k_is)
    (case na0_size => k_is)
    (case na1_size => k_is)
    (case na2_rows => k_is)
    (case na2_whole => k_is)
    (case na2_known => k_is)
    (case it0_int => k_is)
    (case it1_int => k_is)
    (case it2_int => k_is)
    (case it0_bool => k_is)
    (case it1_bool => k_is)
    (case it2_bool => k_is)
    (case it0_tuple => k_is)
    (case it1_tuple => k_is)
    (case it2_tuple => k_is)
    (case it0_list => k_is)
    (case it1_list => k_is)
    (case it2_list => k_is)
    (case jc0 => k_is)
    (case jt0 => k_is)
    (case ib0_NoneType => k_is)
    (case ib0_bool => k_is)
    (case ib0_int => k_is)
    (case ib0_str => k_is)
    (case ib0_list => k_is)
    (case ib0_tuple => k_is)
    (case ib0_dict => k_is)
    (case ic0_1 => k_is)
    (case id0_1 => decide)
    (case ic0_2 => k_is)
    (case id0_2 => decide)
    (case w0_11 => k_is)
    (case w1_11 => k_is)
    (case ne0 => k_is)
    (case ob0 => k_is)
    (case ne1 => k_is)
    (case ob1 => k_is)
    (case nf0_0 => k_is)
    (case nf0_2 => k_is)
    (case nf1_0 => k_is)
    (case nf1_1 => k_is)
    (case nf1_2 => k_is)
    (case nb0_NoneType => k_is)
    (case nb0_bool => k_is)
    (case nb0_int => k_is)
    (case nb0_str => k_is)
    (case nb0_list => k_is)
    (case nb0_tuple => k_is)
    (case nb0_dict => k_is)
    (case nb1_NoneType => k_is)
    (case nb1_bool => k_is)
    (case nb1_int => k_is)
    (case nb1_str => k_is)
    (case nb1_list => k_is)
    (case nb1_tuple => k_is)
    (case nb1_dict => k_is)
    (case plain => exact k14.law_true)

