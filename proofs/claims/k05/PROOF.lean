import PyProof.Rows.All
import Wide.All
import OpenK.AllK
import Wide.FinOn
import HandS.ForMost
import HandS.Wide
import HandS.Walk
import HandS.Flow
import HandS.IsInst
import HandS.Zip
import HandS.HeadHook1
import HandS.Lambda
import HandS.WideBits
import HandS.Defaults
import HandS.Deep
import HandS.HeadHook2
import HandS.TupAny
import HandS.Codes
import HandS.Style
import KE.KUnpackStar
import HandS.Sort
import KE.KRevSl
import HandS.Exc
import HandS.ExcOwn
import HandS.ExcIs
import HandS.RaiseMore
import KE.KExcIs
import PyProof.ExcBaseAll.ValueError
import PyProof.ExcBaseAll.ZeroDivisionError
import PyProof.ExcBaseAll.IndexError
import HandS.MakeKwOnly
import KE.DataMinMax
import HandS.Rev
import HandS.Text
import HandS.FStr
import HandS.StrMore
import HandS.Dict
import HandS.CallLocal
import KE.GoesEnumKw
import HandS.Iter
import HandS.Comp
import PyProof.Rows.RegReprOcc
import HandS.Head0
import HandS.Head1
import HandS.Head2
import KE.GoesMore
import HandS.ExcField
import HandS.ExcInit
import HandS.SetFor
import PyProof.AssignAttr
import HandS.More
import HandS.SortRule
import KE.KDictCopyH
import HandS.DictComp
import HandS.NoneIn
import HandS.Small
import KE.DatumOrd
import HandS.SortInts
import HandS.Strs
import KE.KCallOwn
import KE.KDflt
import HandS.EndTab
import HandS.HeadHook4
import HandS.HeadWalk
import HandS.HeadEnd
import PySem.Challenge.RW_toolroad_k05_texts_and_over_nought
set_option Elab.async false
set_option linter.all false
set_option autoImplicit false
set_option maxRecDepth 100000
set_option maxHeartbeats 0
set_option synthInstance.maxHeartbeats 0
set_option synthInstance.maxSize 100000
/-! DL: readings by data: shared data (Dp over a shared heap) and owned things (lists, lists of lists, objects), each with its footprint. -/
namespace DL
open PySem PySem.Spec L2
abbrev Fg := PySem.W.Frag
/-! ### data: as the library's, and instances, dicts, defs -/
def insD (C : Str) (xs : List Str) (ds : List PyData) : PyData := .dict ((.none, .str C) :: (xs.map PyData.str).zip ds)
def keyD : Key → PyData
  | .inl i => .int i
  | .inr x => .str x
def dctD (ks : List Key) (ds : List PyData) : PyData := .dict ((.bool false, .none) :: (ks.map keyD).zip ds)
/-- a def of the module, by its name -/
def fnD (f : Str) : PyData := .dict [(.bool true, .str f)]
/-- a thing of which no more is known than that it isn't None; a thing by its address -/
abbrev anyD : PyData := .dict [(.bool true, .none)]
abbrev adrD (a : Addr) : PyData := .dict [(.bool true, .int (a : Nat))]
/-- the built-in types that are asked for by isinstance -/
def sixT : List String := ["NoneType", "bool", "int", "str", "list", "tuple"]
/-- an own class of plain instances -/
structure InsOk (K : Fg) (C : Str) : Prop where
  cl : Cls K (He.ga K C)
  ha : PySem.W.findIn K (.ref (He.ga K C)) "__class__" = some (some (.builtin "object.__class__"))
  hn : PySem.W.specialIn K (.builtin "object.__class__") "__get__" = some (some (.builtin "getset_descriptor.__get__"))
  tk : PySem.W.takesIn K (.builtin "object.__class__") = some true
  hm : PySem.W.mroIn K (He.ga K C) (.type "object") = some true
  no : ∀ T ∈ sixT, PySem.W.kitOne K (.ref (He.ga K C)) (.type T) = some false
mutual
inductive Dp (K : Fg) (H : Hp) : V → PyData → Prop
  | non : Dp K H .non .none
  | bl (b : Bool) : Dp K H (.bl b) (.bool b)
  | int (i : Int) : Dp K H (.int i) (.int i)
  | str (x : Str) : Dp K H (.str x) (.str x)
  | lst {a : Addr} {xs : List V} {ds : List PyData} : SqL K H a xs → DpAll K H xs ds → Dp K H (.ref a) (.list ds)
  | tup {a : Addr} {xs : List V} {ds : List PyData} : SqT K H a xs → DpAll K H xs ds → Dp K H (.ref a) (.tuple ds)
  | ins {a dx : Addr} {C : Str} {xs : List Str} {vs : List V} {ds : List PyData} : InsOk K C → H a = some (.ins (He.ga K C) dx (xs.zip vs)) → H dx = some (.own a) → xs.length = vs.length → DpAll K H vs ds → Dp K H (.ref a) (insD C xs ds)
  | dct {a : Addr} {ks : List Key} {vs : List V} {ds : List PyData} : H a = some (.dK (ks.zip vs)) → ks.length = vs.length → DpAll K H vs ds → Dp K H (.ref a) (dctD ks ds)
  | fn (f : Str) : Dp K H (.ref (He.fAd K (f, none))) (fnD f)
  | any {v : V} : v ≠ .non → Dp K H v anyD
  | adr (a : Addr) : Dp K H (.ref a) (adrD a)
inductive DpAll (K : Fg) (H : Hp) : List V → List PyData → Prop
  | nil : DpAll K H [] []
  | cons {v : V} {vs : List V} {d : PyData} {ds : List PyData} : Dp K H v d → DpAll K H vs ds → DpAll K H (v :: vs) (d :: ds)
end
theorem sqt_mono {K : Fg} {H H' : Hp} {a : Addr} {xs : List V} (e : Same H H') (h : SqT K H a xs) : SqT K H' a xs := by
  rcases h with (h | ⟨o, h⟩) | h
  · exact .inl (.inl (e _ _ h))
  · exact .inl (.inr ⟨o, e _ _ h⟩)
  · exact .inr h
section
variable {K : Fg} {H H' : Hp}
theorem Dp.up {v : V} {d : PyData} (h : Dp K H v d) (e : Same H H') : Dp K H' v d :=
  Dp.rec (motive_1 := fun v d _ => Dp K H' v d) (motive_2 := fun vs ds _ => DpAll K H' vs ds) .non .bl .int .str (fun s _ a => .lst (e.seq s) a) (fun s _ a => .tup (sqt_mono e s) a)
    (fun h0 h1 h2 h3 _ a => .ins h0 (e _ _ h1) (e _ _ h2) h3 a) (fun h1 h2 _ a => .dct (e _ _ h1) h2 a) (fun f => .fn f) (fun h => .any h) (fun a => .adr a) .nil (fun _ _ a b => .cons a b) h
theorem DpAll.up {vs : List V} {ds : List PyData} (h : DpAll K H vs ds) (e : Same H H') : DpAll K H' vs ds :=
  DpAll.rec (motive_1 := fun v d _ => Dp K H' v d) (motive_2 := fun vs ds _ => DpAll K H' vs ds) .non .bl .int .str (fun s _ a => .lst (e.seq s) a) (fun s _ a => .tup (sqt_mono e s) a)
    (fun h0 h1 h2 h3 _ a => .ins h0 (e _ _ h1) (e _ _ h2) h3 a) (fun h1 h2 _ a => .dct (e _ _ h1) h2 a) (fun f => .fn f) (fun h => .any h) (fun a => .adr a) .nil (fun _ _ a b => .cons a b) h
/-- what the library's == may look at -/
theorem Dp.lib {v : V} {d : PyData} (h : Dp K H v d) : d.canLay0 = true → L2.Dp K H v d :=
  Dp.rec (motive_1 := fun v d _ => d.canLay0 = true → L2.Dp K H v d) (motive_2 := fun vs ds _ => PyData.canLayAll0 ds = true → L2.DpAll K H vs ds) (fun _ => .non) (fun b _ => .bl b) (fun i _ => .int i) (fun x _ => .str x) (fun s _ a c => .lst s (a c)) (fun s _ a c => .tup s (a c))
    (fun _ _ _ _ _ _ c => nomatch c) (fun _ _ _ _ c => nomatch c) (fun _ c => nomatch c) (fun _ c => nomatch c) (fun _ c => nomatch c) (fun _ => .nil) (fun _ _ a b c => by
      have c' := Bool.and_eq_true_iff.mp c
      exact .cons (a c'.1) (b c'.2)) h
theorem Dp.lb {v : V} {d : PyData} (h : Dp K H v d) (s : SeqAt.shaped d = true) : L2.Dp K H v d := h.lib (SeqAt.canLay_of_shaped s)
theorem DpAll.len : ∀ {vs : List V} {ds : List PyData}, DpAll K H vs ds → vs.length = ds.length
  | _, _, .nil => rfl
  | _, _, .cons _ t => by rw [List.length_cons, List.length_cons, DpAll.len t]
theorem DpAll.get : ∀ {vs : List V} {ds : List PyData} {i : Nat} {d : PyData}, DpAll K H vs ds → ds[i]? = some d → ∃ v, vs[i]? = some v ∧ Dp K H v d
  | _, _, _, _, .nil, e => by simp at e
  | _, _, 0, _, .cons h _, e => by simp at e; subst e; exact ⟨_, rfl, h⟩
  | _, _, i + 1, d, .cons _ t, e => by
    obtain ⟨v, h1, h2⟩ := DpAll.get (i := i) (d := d) t (by simpa using e)
    exact ⟨v, by simpa using h1, h2⟩
theorem DpAll.app : ∀ {vs ws : List V} {ds es : List PyData}, DpAll K H vs ds → DpAll K H ws es → DpAll K H (vs ++ ws) (ds ++ es)
  | _, _, _, _, .nil, h => h
  | _, _, _, _, .cons a t, h => .cons a (DpAll.app t h)
theorem DpAll.set {v : V} {d : PyData} (h : Dp K H v d) : ∀ {vs : List V} {ds : List PyData} (i : Nat), DpAll K H vs ds → DpAll K H (vs.set i v) (ds.set i d)
  | _, _, _, .nil => .nil
  | _, _, 0, .cons _ t => .cons h t
  | _, _, i + 1, .cons a t => .cons a (DpAll.set h i t)
theorem DpAll.drop : ∀ {vs : List V} {ds : List PyData} (n : Nat), DpAll K H vs ds → DpAll K H (vs.drop n) (ds.drop n)
  | _, _, 0, h => h
  | _, _, _ + 1, .nil => .nil
  | _, _, n + 1, .cons _ t => DpAll.drop n t
theorem DpAll.take : ∀ {vs : List V} {ds : List PyData} (n : Nat), DpAll K H vs ds → DpAll K H (vs.take n) (ds.take n)
  | _, _, 0, _ => .nil
  | _, _, _ + 1, .nil => .nil
  | _, _, n + 1, .cons a t => .cons a (DpAll.take n t)
theorem DpAll.ints : ∀ (ns : List Int), DpAll K H (ns.map V.int) (ns.map PyData.int)
  | [] => .nil
  | n :: r => .cons (.int n) (DpAll.ints r)
end
/-! ### slots by data -/
/-- a field: shared data, or a list of the object's own -/
inductive Fv where
  | d (d : PyData)
  | l (xs : List PyData)
  /-- a list whose address is known -/
  | la (b : Addr) (xs : List PyData)
/-- owned things: a list of lists; an object -/
inductive Ob where
  | nst (xss : List (List PyData))
  | ins (C : Str) (FS : List Str) (fs : List Fv)
  | dct (ks : List Key) (ds : List PyData)
  /-- the table of a def's code object, for the code objects of that name -/
  | tab (q : Str)
/-- shared data; an owned list, an owned thing (p: the caller's, of an argument); the exception that was caught -/
inductive Sl where
  | sh (d : PyData)
  | ow (p : Bool) (xs : List PyData)
  | ob (p : Bool) (o : Ob)
  | xn (C : Str)
def Sl.own : Sl → Bool
  | .sh _ => false
  | .xn _ => false
  | _ => true
def Sl.prm : Sl → Bool
  | .sh _ => false
  | .xn _ => false
  | .ow p _ => p
  | .ob p _ => p
abbrev DSt := List (Option Sl)
/-- an exception: its class by its name, its fields -/
structure Xd where
  C : Str
  fs : List (Str × PyData)
/-- the entry: the heap, its shared part, what the caller lends, what is guarded, what the slots held; to which slot a lent address belongs -/
structure Ent where
  H0 : Hp
  Hs0 : Hp
  own : List Addr
  G : List (Addr × HO)
  σ0 : St
  xa : Option (Addr × Str)
  blk : Addr → Nat
/-- a callee's -/
abbrev Ent.at (H Hs : Hp) (own : List Addr) (σ0 : St) : Ent := ⟨H, Hs, own, [], σ0, none, fun _ => 0⟩
/-! footprints -/
inductive FvAt (K : Fg) (Hs H : Hp) : V → Fv → List Addr → Prop
  | d {v : V} {d : PyData} : Dp K Hs v d → FvAt K Hs H v (.d d) []
  | l {a : Addr} {ws : List V} {xs : List PyData} : H a = some (.lst ws) → DpAll K Hs ws xs → FvAt K Hs H (.ref a) (.l xs) [a]
  | la {a : Addr} {ws : List V} {xs : List PyData} : H a = some (.lst ws) → DpAll K Hs ws xs → FvAt K Hs H (.ref a) (.la a xs) [a]
inductive FsAt (K : Fg) (Hs H : Hp) : List V → List Fv → List Addr → Prop
  | nil : FsAt K Hs H [] [] []
  | cons {v : V} {f : Fv} {vs : List V} {fs : List Fv} {A B : List Addr} : FvAt K Hs H v f A → FsAt K Hs H vs fs B → FsAt K Hs H (v :: vs) (f :: fs) (A ++ B)
inductive LsAt (K : Fg) (Hs H : Hp) : List V → List (List PyData) → List Addr → Prop
  | nil : LsAt K Hs H [] [] []
  | cons {a : Addr} {ws vs : List V} {xs : List PyData} {xss : List (List PyData)} {A : List Addr} : H a = some (.lst ws) → DpAll K Hs ws xs → LsAt K Hs H vs xss A → LsAt K Hs H (.ref a :: vs) (xs :: xss) (a :: A)
inductive At (K : Fg) (Hs H : Hp) : V → Sl → List Addr → Prop
  | ow {a : Addr} {p : Bool} {ws : List V} {xs : List PyData} : H a = some (.lst ws) → DpAll K Hs ws xs → At K Hs H (.ref a) (.ow p xs) [a]
  | nst {a : Addr} {p : Bool} {vs : List V} {xss : List (List PyData)} {A : List Addr} : H a = some (.lst vs) → LsAt K Hs H vs xss A → (a :: A).Nodup → At K Hs H (.ref a) (.ob p (.nst xss)) (a :: A)
  | ins {a dx : Addr} {p : Bool} {C : Str} {FS : List Str} {vs : List V} {fs : List Fv} {A : List Addr} : InsOk K C → FS.length = vs.length → H a = some (.ins (He.ga K C) dx (FS.zip vs)) → H dx = some (.own a) → FsAt K Hs H vs fs A → (a :: dx :: A).Nodup → At K Hs H (.ref a) (.ob p (.ins C FS fs)) (a :: dx :: A)
  | dct {a : Addr} {p : Bool} {ks : List Key} {vs : List V} {ds : List PyData} : H a = some (.dK (ks.zip vs)) → ks.length = vs.length → DpAll K Hs vs ds → At K Hs H (.ref a) (.ob p (.dct ks ds)) [a]
  | tab {a : Addr} {p : Bool} {q : Str} {ps : Array Value} : H a = some (.tbl ps) → TriplesOk ps.toList → (∀ (pos : Pos) (cv : Value), codeAmong pos ps.toList = some cv → ∃ c, cv = .ref c ∧ Hs c = some (LamX.CodeO c q)) → At K Hs H (.ref a) (.ob p (.tab q)) [a]
section
variable {K : Fg} {Hs H Hs' H' : Hp}
theorem FvAt.fr {v : V} {f : Fv} {A : List Addr} (h : FvAt K Hs H v f A) (e : Same Hs Hs') (k : ∀ a ∈ A, H' a = H a) : FvAt K Hs' H' v f A := by
  cases h with
  | d h => exact .d (h.up e)
  | l h1 h2 => exact .l ((k _ (List.mem_singleton.mpr rfl)).trans h1) (h2.up e)
  | la h1 h2 => exact .la ((k _ (List.mem_singleton.mpr rfl)).trans h1) (h2.up e)
theorem FsAt.fr {vs : List V} {fs : List Fv} {A : List Addr} (h : FsAt K Hs H vs fs A) (e : Same Hs Hs') (k : ∀ a ∈ A, H' a = H a) : FsAt K Hs' H' vs fs A := by
  induction h with
  | nil => exact .nil
  | cons h _ ih => exact .cons (h.fr e fun a m => k a (List.mem_append_left _ m)) (ih fun a m => k a (List.mem_append_right _ m))
theorem LsAt.fr {vs : List V} {xss : List (List PyData)} {A : List Addr} (h : LsAt K Hs H vs xss A) (e : Same Hs Hs') (k : ∀ a ∈ A, H' a = H a) : LsAt K Hs' H' vs xss A := by
  induction h with
  | nil => exact .nil
  | cons h1 h2 _ ih => exact .cons ((k _ (List.mem_cons_self ..)).trans h1) (h2.up e) (ih fun a m => k a (List.mem_cons_of_mem _ m))
theorem At.fr {v : V} {s : Sl} {A : List Addr} (h : At K Hs H v s A) (e : Same Hs Hs') (k : ∀ a ∈ A, H' a = H a) : At K Hs' H' v s A := by
  cases h with
  | ow h1 h2 => exact .ow ((k _ (List.mem_singleton.mpr rfl)).trans h1) (h2.up e)
  | nst h1 h2 h3 => exact .nst ((k _ (List.mem_cons_self ..)).trans h1) (h2.fr e fun a m => k a (List.mem_cons_of_mem _ m)) h3
  | ins h5 h6 h1 h2 h3 h4 => exact .ins h5 h6 ((k _ (List.mem_cons_self ..)).trans h1) ((k _ (List.mem_cons_of_mem _ (List.mem_cons_self ..))).trans h2) (h3.fr e fun a m => k a (List.mem_cons_of_mem _ (List.mem_cons_of_mem _ m))) h4
  | dct h1 h2 h3 => exact .dct ((k _ (List.mem_singleton.mpr rfl)).trans h1) h2 (h3.up e)
  | tab h1 h2 h3 => exact .tab ((k _ (List.mem_singleton.mpr rfl)).trans h1) h2 fun pos cv z => (h3 pos cv z).elim fun c z => ⟨c, z.1, e _ _ z.2⟩
theorem FvAt.live {v : V} {f : Fv} {A : List Addr} (h : FvAt K Hs H v f A) : ∀ a ∈ A, H a ≠ none := by
  cases h with
  | d h => exact fun a m => nomatch m
  | l h1 h2 =>
    intro a m
    rw [List.mem_singleton.mp m, h1]
    exact fun z => nomatch z
  | la h1 h2 =>
    intro a m
    rw [List.mem_singleton.mp m, h1]
    exact fun z => nomatch z
theorem FsAt.live {vs : List V} {fs : List Fv} {A : List Addr} (h : FsAt K Hs H vs fs A) : ∀ a ∈ A, H a ≠ none := by
  induction h with
  | nil => exact fun a m => nomatch m
  | cons h _ ih =>
    intro a m
    rcases List.mem_append.mp m with z | z
    · exact h.live a z
    · exact ih a z
theorem LsAt.live {vs : List V} {xss : List (List PyData)} {A : List Addr} (h : LsAt K Hs H vs xss A) : ∀ a ∈ A, H a ≠ none := by
  induction h with
  | nil => exact fun a m => nomatch m
  | cons h1 h2 _ ih =>
    intro a m
    rcases List.mem_cons.mp m with z | z
    · rw [z, h1]
      exact fun z => nomatch z
    · exact ih a z
theorem At.live {v : V} {s : Sl} {A : List Addr} (h : At K Hs H v s A) : ∀ a ∈ A, H a ≠ none := by
  cases h with
  | ow h1 h2 =>
    intro a m
    rw [List.mem_singleton.mp m, h1]
    exact fun z => nomatch z
  | nst h1 h2 h3 =>
    intro a m
    rcases List.mem_cons.mp m with z | z
    · rw [z, h1]
      exact fun z => nomatch z
    · exact h2.live a z
  | ins h5 h6 h1 h2 h3 h4 =>
    intro a m
    rcases List.mem_cons.mp m with z | z
    · rw [z, h1]
      exact fun z => nomatch z
    · rcases List.mem_cons.mp z with z | z
      · rw [z, h2]
        exact fun z => nomatch z
      · exact h3.live a z
  | dct h1 h2 h3 =>
    intro a m
    rw [List.mem_singleton.mp m, h1]
    exact fun z => nomatch z
  | tab h1 h2 h3 =>
    intro a m
    rw [List.mem_singleton.mp m, h1]
    exact fun z => nomatch z
theorem At.head {v : V} {s : Sl} {A : List Addr} (h : At K Hs H v s A) : ∃ a, v = .ref a ∧ a ∈ A := by
  cases h with
  | ow h1 h2 => exact ⟨_, rfl, List.mem_singleton.mpr rfl⟩
  | nst h1 h2 h3 => exact ⟨_, rfl, List.mem_cons_self ..⟩
  | ins h5 h6 h1 h2 h3 h4 => exact ⟨_, rfl, List.mem_cons_self ..⟩
  | dct h1 h2 h3 => exact ⟨_, rfl, List.mem_singleton.mpr rfl⟩
  | tab h1 h2 h3 => exact ⟨_, rfl, List.mem_singleton.mpr rfl⟩
theorem At.owned {v : V} {s : Sl} {A : List Addr} (h : At K Hs H v s A) : s.own = true := by cases h <;> rfl
end
structure Fps (K : Fg) (Z : Ent) (Hs H : Hp) (σ : St) (δ : DSt) (f : Nat → List Addr) : Prop where
  at_ : ∀ (i : Nat) (s : Sl), δ[i]? = some (some s) → s.own = true → ∃ v : V, σ[i]? = some (some v) ∧ At K Hs H v s (f i)
  emp : ∀ i : Nat, (∀ s : Sl, δ[i]? = some (some s) → s.own = false) → f i = []
  hs : ∀ (i : Nat) (a : Addr), a ∈ f i → Hs a = none
  old : ∀ (i : Nat) (a : Addr), a ∈ f i → Z.H0 a = none ∨ (a ∈ Z.own ∧ Z.blk a = i)
  mine : ∀ (i : Nat) (s : Sl) (a : Addr), δ[i]? = some (some s) → s.prm = false → a ∈ f i → Z.H0 a = none ∧ a ∉ Z.own
  dis : ∀ (i j : Nat) (a : Addr), i ≠ j → a ∈ f i → a ∉ f j
  g : ∀ (i : Nat) (a : Addr) (o : HO), a ∈ f i → (a, o) ∉ Z.G
structure Rl (K : Fg) (Z : Ent) (Hs H : Hp) (σ : St) (δ : DSt) : Prop where
  len : σ.length = δ.length
  sub : Same Hs H
  ext : Same Z.Hs0 Hs
  fr : ∀ (b : Addr) (o : HO), Z.H0 b = some o → b ∉ Z.own → H b = some o
  new : ∀ (b : Addr), Hs b ≠ none → Z.Hs0 b ≠ none ∨ Z.H0 b = none
  hid : ∀ (b : Addr), b ∈ Z.own → Hs b = none ∧ H b ≠ none
  shr : ∀ (i : Nat) (d : PyData), δ[i]? = some (some (Sl.sh d)) → ∃ v : V, σ[i]? = some (some v) ∧ Dp K Hs v d
  fps : ∃ f, Fps K Z Hs H σ δ f
  grd : ∀ (a : Addr) (o : HO), (a, o) ∈ Z.G → H a = some o ∧ Hs a = none ∧ a ∉ Z.own
  prm : ∀ (i : Nat) (s : Sl), δ[i]? = some (some s) → s.prm = true → σ[i]? = Z.σ0[i]?
  exn : ∀ (i : Nat) (C : Str), δ[i]? = some (some (Sl.xn C)) → ∃ a, σ[i]? = some (some (V.ref a)) ∧ Z.xa = some (a, C)
theorem get_set {α : Type} {l : List (Option α)} {i j : Nat} {x : Option α} {y : α} (h : (l.set i x)[j]? = some (some y)) : (i = j ∧ x = some y) ∨ (i ≠ j ∧ l[j]? = some (some y)) := by
  rw [List.getElem?_set] at h
  by_cases e : i = j
  · subst e
    rw [if_pos rfl] at h
    split at h
    · exact .inl ⟨rfl, Option.some.inj h⟩
    · cases h
  · rw [if_neg e] at h
    exact .inr ⟨e, h⟩
theorem get_lt {α : Type} {l : List α} {i : Nat} {x : α} (h : l[i]? = some x) : i < l.length := (List.getElem?_eq_some_iff.mp h).1
theorem set_lt {l : DSt} {i j : Nat} {x : Option Sl} {y : Option Sl} (h : (l.set i x)[j]? = some y) : j < l.length := by
  have := get_lt h
  rw [List.length_set] at this
  exact this
theorem set_self {σ : St} {i : Nat} {v : V} (h : σ[i]? = some (some v)) : σ.set i (some v) = σ := by
  obtain ⟨hi, e⟩ := List.getElem?_eq_some_iff.mp h
  rw [← e]
  exact List.set_getElem_self hi
theorem same_new {H : Hp} {p : Addr} {o : HO} (h : H p = none) : Same H (upd H p o) := fun b x e => by
  rw [upd_ne (ne_of_none e h)]
  exact e
section
variable {K : Fg} {Z : Ent} {Hs H Hs' H' : Hp} {σ : St} {δ : DSt}
theorem Rl.hsn (R : Rl K Z Hs H σ δ) {p : Addr} (h : H p = none) : Hs p = none := R.sub.free h
theorem Rl.won (R : Rl K Z Hs H σ δ) {p : Addr} (h : H p = none) : p ∉ Z.own := fun e => (R.hid p e).2 h
theorem Rl.h0n (R : Rl K Z Hs H σ δ) {p : Addr} (h : H p = none) : Z.H0 p = none := by
  cases q : Z.H0 p with
  | none => rfl
  | some o =>
    by_cases e : p ∈ Z.own
    · exact absurd h (R.hid p e).2
    · rw [R.fr p o q e] at h
      cases h
theorem Rl.nog (R : Rl K Z Hs H σ δ) {p : Addr} {o : HO} (h : H p = none) : (p, o) ∉ Z.G := fun m => by
  rw [(R.grd p o m).1] at h
  cases h
theorem Fps.live {f : Nat → List Addr} (F : Fps K Z Hs H σ δ f) (i : Nat) {a : Addr} (m : a ∈ f i) : H a ≠ none := by
  cases e : δ[i]? with
  | none =>
    rw [F.emp i (fun s z => by rw [e] at z; cases z)] at m
    exact nomatch m
  | some o =>
    cases o with
    | none =>
      rw [F.emp i (fun s z => by rw [e] at z; cases z)] at m
      exact nomatch m
    | some s =>
      cases ho : s.own with
      | false =>
        rw [F.emp i (fun s' z => by rw [e] at z; cases z; exact ho)] at m
        exact nomatch m
      | true =>
        obtain ⟨v, _, h⟩ := F.at_ i s e ho
        exact h.live a m
/-- all that is there stays; new shared things -/
theorem Rl.grow (R : Rl K Z Hs H σ δ) (hs : Same Hs Hs') (sb : Same Hs' H') (keep : ∀ (b : Addr) (o : HO), H b = some o → H' b = some o) (nw : ∀ b : Addr, Hs' b ≠ none → Hs b ≠ none ∨ H b = none) : Rl K Z Hs' H' σ δ := by
  have hidden : ∀ b : Addr, H b ≠ none → Hs b = none → Hs' b = none := fun b h n => by
    cases q : Hs' b with
    | none => rfl
    | some x =>
      rcases nw b (by rw [q]; exact fun z => nomatch z) with z | z
      · exact absurd n z
      · exact absurd z h
  have eqH : ∀ b : Addr, H b ≠ none → H' b = H b := fun b h => by
    cases q : H b with
    | none => exact absurd q h
    | some o => exact keep b o q
  refine ⟨R.len, sb, R.ext.trans hs, fun b o e n => keep b o (R.fr b o e n), fun b n => ?_, fun b e => ?_, fun i d e => ?_, ?_, fun a o m => ?_, R.prm, R.exn⟩
  · rcases nw b n with z | z
    · exact R.new b z
    · exact .inr (R.h0n z)
  · obtain ⟨h1, h2⟩ := R.hid b e
    exact ⟨hidden b h2 h1, by rw [eqH b h2]; exact h2⟩
  · obtain ⟨v, a, b⟩ := R.shr i d e
    exact ⟨v, a, b.up hs⟩
  · obtain ⟨f, F⟩ := R.fps
    refine ⟨f, ⟨fun i s e o => ?_, F.emp, fun i a m => hidden a (F.live i m) (F.hs i a m), F.old, F.mine, F.dis, F.g⟩⟩
    obtain ⟨v, h1, h2⟩ := F.at_ i s e o
    exact ⟨v, h1, h2.fr hs fun a m => eqH a (F.live i m)⟩
  · obtain ⟨h1, h2, h3⟩ := R.grd a o m
    exact ⟨keep a o h1, hidden a (by rw [h1]; exact fun z => nomatch z) h2, h3⟩
/-- a new shared object -/
theorem Rl.alloc (R : Rl K Z Hs H σ δ) {p : Addr} {o : HO} (h : H p = none) : Rl K Z (upd Hs p o) (upd H p o) σ δ := by
  refine R.grow (same_new (R.hsn h)) (fun b x e => ?_) (fun b x e => by rw [upd_ne (ne_of_none e h)]; exact e) (fun b n => ?_)
  · by_cases hb : b = p
    · subst hb
      rw [upd_same] at e ⊢
      exact e
    · rw [upd_ne hb] at e ⊢
      exact R.sub b x e
  · by_cases hb : b = p
    · subst hb
      exact .inr h
    · rw [upd_ne hb] at n
      exact .inl n
/-- a new object of one's own -/
theorem Rl.allocO (R : Rl K Z Hs H σ δ) {p : Addr} {o : HO} (h : H p = none) : Rl K Z Hs (upd H p o) σ δ :=
  R.grow (Same.refl _) (fun b x e => by rw [upd_ne (ne_of_none (R.sub b x e) h)]; exact R.sub b x e) (fun b x e => by rw [upd_ne (ne_of_none e h)]; exact e) (fun b n => .inl n)
/-- a slot is given something: shared, or with a footprint of its own -/
theorem Rl.put (R : Rl K Z Hs H σ δ) {i : Nat} {v : V} {s : Sl} {A : List Addr} (hsh : ∀ d, s = .sh d → Dp K Hs v d ∧ A = []) (hat : s.own = true → At K Hs H v s A) (h1 : ∀ a ∈ A, Hs a = none) (h2 : ∀ a ∈ A, Z.H0 a = none ∨ (a ∈ Z.own ∧ Z.blk a = i)) (h3 : s.prm = false → ∀ a ∈ A, Z.H0 a = none ∧ a ∉ Z.own)
    (h4 : ∀ f, Fps K Z Hs H σ δ f → ∀ (j : Nat) (a : Addr), j ≠ i → a ∈ A → a ∉ f j) (h5 : ∀ (a : Addr) (o : HO), a ∈ A → (a, o) ∉ Z.G) (h6 : s.prm = true → some (some v) = Z.σ0[i]?) (h7 : ∀ C, s = .xn C → (∃ a, v = .ref a ∧ Z.xa = some (a, C)) ∧ A = []) (hi : i < σ.length) : Rl K Z Hs H (σ.set i (some v)) (δ.set i (some s)) := by
  refine ⟨by rw [List.length_set, List.length_set, R.len], R.sub, R.ext, R.fr, R.new, R.hid, fun j d z => ?_, ?_, R.grd, fun j t z p => ?_, fun j C z => ?_⟩
  · rcases get_set z with ⟨rfl, z'⟩ | ⟨ne, z⟩
    · cases z'
      exact ⟨v, by rw [List.getElem?_set_self hi], (hsh d rfl).1⟩
    · obtain ⟨u, a, b⟩ := R.shr j d z
      exact ⟨u, by rw [List.getElem?_set_ne ne]; exact a, b⟩
  · obtain ⟨f, F⟩ := R.fps
    have no := h4 f F
    refine ⟨fun j => if j = i then A else f j, ⟨fun j t z o => ?_, fun j h => ?_, fun j a m => ?_, fun j a m => ?_, fun j t a z p m => ?_, fun j k a ne m m' => ?_, fun j a o m => ?_⟩⟩
    · rcases get_set z with ⟨rfl, z'⟩ | ⟨ne, z⟩
      · cases z'
        exact ⟨v, by rw [List.getElem?_set_self hi], by rw [if_pos rfl]; exact hat o⟩
      · obtain ⟨u, a, b⟩ := F.at_ j t z o
        exact ⟨u, by rw [List.getElem?_set_ne ne]; exact a, by rw [if_neg ne.symm]; exact b⟩
    · by_cases e : j = i
      · subst e
        rw [if_pos rfl]
        have : s.own = false := h s (by rw [List.getElem?_set_self (by rw [← R.len]; exact hi)])
        cases s with
        | sh d => exact (hsh d rfl).2
        | ow _ _ => cases this
        | ob _ _ => cases this
        | xn C => exact (h7 C rfl).2
      · rw [if_neg e]
        refine F.emp j fun t z => h t ?_
        rw [List.getElem?_set_ne (fun q => e q.symm)]
        exact z
    · by_cases e : j = i
      · rw [if_pos e] at m
        exact h1 a m
      · rw [if_neg e] at m
        exact F.hs j a m
    · by_cases e : j = i
      · rw [if_pos e] at m
        rw [e]
        exact h2 a m
      · rw [if_neg e] at m
        exact F.old j a m
    · rcases get_set z with ⟨rfl, z'⟩ | ⟨ne, z⟩
      · cases z'
        rw [if_pos rfl] at m
        exact h3 p a m
      · rw [if_neg ne.symm] at m
        exact F.mine j t a z p m
    · by_cases e : j = i
      · rw [if_pos e] at m
        rw [if_neg (fun q => ne (e.trans q.symm))] at m'
        exact no k a (fun q => ne (e.trans q.symm)) m m'
      · rw [if_neg e] at m
        by_cases e2 : k = i
        · rw [if_pos e2] at m'
          exact no j a e m' m
        · rw [if_neg e2] at m'
          exact F.dis j k a ne m m'
    · by_cases e : j = i
      · rw [if_pos e] at m
        exact h5 a o m
      · rw [if_neg e] at m
        exact F.g j a o m
  · rcases get_set z with ⟨rfl, z'⟩ | ⟨ne, z⟩
    · cases z'
      rw [List.getElem?_set_self hi]
      exact h6 p
    · rw [List.getElem?_set_ne ne]
      exact R.prm j t z p
  · rcases get_set z with ⟨rfl, z'⟩ | ⟨ne, z⟩
    · cases z'
      obtain ⟨⟨a, rfl, h⟩, _⟩ := h7 C rfl
      exact ⟨a, by rw [List.getElem?_set_self hi], h⟩
    · obtain ⟨a, h1, h2⟩ := R.exn j C z
      exact ⟨a, by rw [List.getElem?_set_ne ne]; exact h1, h2⟩
theorem Rl.set_out (R : Rl K Z Hs H σ δ) {i : Nat} {v : Option V} {s : Option Sl} (hi : ¬ i < σ.length) : Rl K Z Hs H (σ.set i v) (δ.set i s) := by
  rw [List.set_eq_of_length_le (by omega), List.set_eq_of_length_le (by rw [← R.len]; omega)]
  exact R
theorem Rl.set (R : Rl K Z Hs H σ δ) {i : Nat} {v : V} {d : PyData} (h : Dp K Hs v d) : Rl K Z Hs H (σ.set i (some v)) (δ.set i (some (.sh d))) := by
  by_cases hi : i < σ.length
  · exact R.put (A := []) (fun d' e => by cases e; exact ⟨h, rfl⟩) (fun z => nomatch z) (fun a m => nomatch m) (fun a m => nomatch m) (fun _ a m => nomatch m) (fun _ _ _ a _ m => nomatch m) (fun a o m => nomatch m) (fun z => nomatch z) (fun C e => nomatch e) hi
  · exact R.set_out hi
/-- a slot is forgotten -/
theorem Rl.erase (R : Rl K Z Hs H σ δ) (i : Nat) : Rl K Z Hs H σ (δ.set i none) := by
  refine ⟨by rw [List.length_set, R.len], R.sub, R.ext, R.fr, R.new, R.hid, fun j e z => ?_, ?_, R.grd, fun j t z p => ?_, fun j C z => ?_⟩
  · rcases get_set z with ⟨rfl, z'⟩ | ⟨ne, z⟩
    · cases z'
    · exact R.shr j e z
  · obtain ⟨f, F⟩ := R.fps
    refine ⟨fun j => if j = i then [] else f j, ⟨fun j t z o => ?_, fun j h => ?_, fun j a m => ?_, fun j a m => ?_, fun j t a z p m => ?_, fun j k a ne m m' => ?_, fun j a o m => ?_⟩⟩
    · rcases get_set z with ⟨rfl, z'⟩ | ⟨ne, z⟩
      · cases z'
      · rw [if_neg ne.symm]
        exact F.at_ j t z o
    · by_cases e : j = i
      · rw [if_pos e]
      · rw [if_neg e]
        exact F.emp j fun t z => h t (by rw [List.getElem?_set_ne (fun q => e q.symm)]; exact z)
    · by_cases e : j = i
      · rw [if_pos e] at m
        exact nomatch m
      · rw [if_neg e] at m
        exact F.hs j a m
    · by_cases e : j = i
      · rw [if_pos e] at m
        exact nomatch m
      · rw [if_neg e] at m
        exact F.old j a m
    · rcases get_set z with ⟨rfl, z'⟩ | ⟨ne, z⟩
      · cases z'
      · rw [if_neg ne.symm] at m
        exact F.mine j t a z p m
    · by_cases e : j = i
      · rw [if_pos e] at m
        exact nomatch m
      · rw [if_neg e] at m
        by_cases e2 : k = i
        · rw [if_pos e2] at m'
          exact nomatch m'
        · rw [if_neg e2] at m'
          exact F.dis j k a ne m m'
    · by_cases e : j = i
      · rw [if_pos e] at m
        exact nomatch m
      · rw [if_neg e] at m
        exact F.g j a o m
  · rcases get_set z with ⟨rfl, z'⟩ | ⟨ne, z⟩
    · cases z'
    · exact R.prm j t z p
  · rcases get_set z with ⟨rfl, z'⟩ | ⟨ne, z⟩
    · cases z'
    · exact R.exn j C z
/-- what a new thing of one's own is -/
structure FrA (K : Fg) (Z : Ent) (Hs H : Hp) (σ : St) (δ : DSt) (v : V) (s : Sl) (A : List Addr) : Prop where
  at_ : At K Hs H v s A
  hs : ∀ a ∈ A, Hs a = none
  mine : ∀ a ∈ A, Z.H0 a = none ∧ a ∉ Z.own
  dis : ∀ f, Fps K Z Hs H σ δ f → ∀ (j : Nat) (a : Addr), a ∈ A → a ∉ f j
  g : ∀ (a : Addr) (o : HO), a ∈ A → (a, o) ∉ Z.G
theorem Rl.setA (R : Rl K Z Hs H σ δ) {i : Nat} {v : V} {s : Sl} {A : List Addr} (h : FrA K Z Hs H σ δ v s A) (hp : s.prm = false) : Rl K Z Hs H (σ.set i (some v)) (δ.set i (some s)) := by
  by_cases hi : i < σ.length
  · exact R.put (A := A) (fun d e => by have := h.at_.owned; rw [e] at this; cases this) (fun _ => h.at_) h.hs (fun a m => .inl (h.mine a m).1) (fun _ => h.mine) (fun f F j a _ m => h.dis f F j a m) h.g (fun z => by rw [hp] at z; cases z) (fun C e => by have := h.at_.owned; rw [e] at this; cases this) hi
  · exact R.set_out hi
abbrev FrO (K : Fg) (Z : Ent) (Hs H : Hp) (σ : St) (δ : DSt) (v : V) (xs : List PyData) : Prop := ∃ A, FrA K Z Hs H σ δ v (.ow false xs) A
theorem Rl.setO (R : Rl K Z Hs H σ δ) {i : Nat} {v : V} {xs : List PyData} (h : FrO K Z Hs H σ δ v xs) : Rl K Z Hs H (σ.set i (some v)) (δ.set i (some (.ow false xs))) := by
  obtain ⟨A, h⟩ := h
  exact R.setA h rfl
theorem FrA.lst {v : V} {p : Bool} {xs : List PyData} {A : List Addr} (h : FrA K Z Hs H σ δ v (.ow p xs) A) : ∃ a ws, v = .ref a ∧ A = [a] ∧ H a = some (.lst ws) ∧ DpAll K Hs ws xs := by
  cases h.at_ with
  | ow h1 h2 => exact ⟨_, _, rfl, rfl, h1, h2⟩
theorem FrO.lst {v : V} {xs : List PyData} (h : FrO K Z Hs H σ δ v xs) : ∃ a ws, v = .ref a ∧ H a = some (.lst ws) ∧ Hs a = none ∧ DpAll K Hs ws xs ∧ Z.H0 a = none ∧ a ∉ Z.own := by
  obtain ⟨A, h⟩ := h
  obtain ⟨a, ws, rfl, rfl, h1, h2⟩ := h.lst
  have m : a ∈ [a] := List.mem_singleton.mpr rfl
  exact ⟨a, ws, rfl, h1, h.hs a m, h2, (h.mine a m).1, (h.mine a m).2⟩
/-- a thing at addresses that are new -/
theorem FrA.fresh (R : Rl K Z Hs H σ δ) {v : V} {s : Sl} {A : List Addr} (R' : Rl K Z Hs' H' σ δ) (h : At K Hs' H' v s A) (hn : ∀ a ∈ A, H a = none) (hs : ∀ a ∈ A, Hs' a = none) (live : ∀ f, Fps K Z Hs' H' σ δ f → ∀ (j : Nat) (a : Addr), a ∈ f j → H a ≠ none) : FrA K Z Hs' H' σ δ v s A :=
  ⟨h, hs, fun a m => ⟨R.h0n (hn a m), R.won (hn a m)⟩, fun f F j a m m' => live f F j a m' (hn a m), fun a o m => R.nog (hn a m)⟩
theorem At.uniq {v : V} {s : Sl} {A B : List Addr} (h : At K Hs H v s A) (h' : At K Hs' H v s B) : A = B := by
  have kv : ∀ {v : V} {f : Fv} {A B : List Addr}, FvAt K Hs H v f A → FvAt K Hs' H v f B → A = B := fun h h' => by
    cases h with
    | d _ => cases h' with
      | d _ => rfl
    | l _ _ => cases h' with
      | l _ _ => rfl
    | la _ _ => cases h' with
      | la _ _ => rfl
  have ks : ∀ {vs : List V} {fs : List Fv} {A B : List Addr}, FsAt K Hs H vs fs A → FsAt K Hs' H vs fs B → A = B := fun {vs fs A B} h => by
    intro h'
    induction h generalizing B with
    | nil => cases h'; rfl
    | cons a _ ih =>
      cases h' with
      | cons a' b' => rw [kv a a', ih b']
  have kl : ∀ {vs : List V} {xss : List (List PyData)} {A B : List Addr}, LsAt K Hs H vs xss A → LsAt K Hs' H vs xss B → A = B := fun {vs xss A B} h => by
    intro h'
    induction h generalizing B with
    | nil => cases h'; rfl
    | cons a _ _ ih =>
      cases h' with
      | cons a' _ b' => rw [ih b']
  cases h with
  | ow _ _ => cases h' with
    | ow _ _ => rfl
  | nst a b _ => cases h' with
    | nst a' b' _ =>
      rw [a] at a'
      cases a'
      rw [kl b b']
  | @ins a0 dx p C FS vs fs A _ l a _ b _ =>
    cases h' with
    | @ins _ dx' _ _ _ vs' _ B _ l' a' _ b' _ =>
      rw [a] at a'
      have e1 : dx = dx' := by injection (Option.some.inj a')
      have e2 : FS.zip vs = FS.zip vs' := by injection (Option.some.inj a')
      have e3 : vs = vs' := by
        have q := congrArg (List.map Prod.snd) e2
        rw [List.map_snd_zip (by omega), List.map_snd_zip (by omega)] at q
        exact q
      subst e1 e3
      rw [ks b b']
  | dct _ _ _ => cases h' with
    | dct _ _ _ => rfl
  | tab _ _ _ => cases h' with
    | tab _ _ _ => rfl
/-- the footprints are told by the heap -/
theorem Fps.same {f f' : Nat → List Addr} {Hs2 : Hp} {Z2 : Ent} (F : Fps K Z Hs H σ δ f) (F' : Fps K Z2 Hs2 H σ δ f') (i : Nat) : f i = f' i := by
  cases e : δ[i]? with
  | none => rw [F.emp i (fun s z => by rw [e] at z; cases z), F'.emp i fun s z => by rw [e] at z; cases z]
  | some o =>
    cases o with
    | none => rw [F.emp i (fun s z => by rw [e] at z; cases z), F'.emp i fun s z => by rw [e] at z; cases z]
    | some s =>
      cases ho : s.own with
      | false => rw [F.emp i (fun s' z => by rw [e] at z; cases z; exact ho), F'.emp i fun s' z => by rw [e] at z; cases z; exact ho]
      | true =>
        obtain ⟨v, h1, h2⟩ := F.at_ i s e ho
        obtain ⟨v', h1', h2'⟩ := F'.at_ i s e ho
        rw [h1] at h1'
        cases h1'
        exact h2.uniq h2'
/-- a slot that stands as it stood keeps its footprint -/
theorem Fps.eqj {f f' : Nat → List Addr} {Z2 : Ent} {Hs2 H2 : Hp} {σ2 : St} {δ2 : DSt} (F : Fps K Z Hs H σ δ f) (F' : Fps K Z2 Hs2 H2 σ2 δ2 f') (j : Nat) (hd : δ2[j]? = δ[j]?) (hv : ∀ v, σ[j]? = some (some v) → σ2[j]? = some (some v)) (keep : ∀ a ∈ f j, H2 a = H a) : f' j = f j := by
  have no : (∀ s : Sl, δ[j]? = some (some s) → s.own = false) → f' j = f j := fun h => by
    rw [F.emp j h, F'.emp j (fun s z => h s (by rw [← hd]; exact z))]
  cases e : δ[j]? with
  | none => exact no fun s z => by rw [e] at z; cases z
  | some o =>
    cases o with
    | none => exact no fun s z => by rw [e] at z; cases z
    | some t =>
      cases ho : t.own with
      | false => exact no fun s z => by rw [e] at z; cases z; exact ho
      | true =>
        obtain ⟨u, h1, h2⟩ := F.at_ j t e ho
        obtain ⟨u', h1', h2'⟩ := F'.at_ j t (by rw [hd]; exact e) ho
        rw [hv u h1] at h1'
        cases h1'
        exact h2'.uniq (h2.fr (Hs' := Hs) (H' := H2) (Same.refl _) keep)
/-- an owned thing with another mark -/
def Sl.as (p : Bool) : Sl → Sl
  | .sh d => .sh d
  | .ow _ xs => .ow p xs
  | .ob _ o => .ob p o
  | .xn C => .xn C
theorem Sl.as_own {p : Bool} {s : Sl} : (s.as p).own = s.own := by cases s <;> rfl
theorem Sl.as_prm {p : Bool} {s : Sl} (h : s.own = true) : (s.as p).prm = p := by
  cases s with
  | sh d => cases h
  | ow _ _ => rfl
  | ob _ _ => rfl
  | xn C => cases h
theorem At.as {v : V} {s : Sl} {A : List Addr} (p : Bool) (h : At K Hs H v s A) : At K Hs H v (s.as p) A := by
  cases h with
  | ow h1 h2 => exact .ow h1 h2
  | nst h1 h2 h3 => exact .nst h1 h2 h3
  | ins h5 h6 h1 h2 h3 h4 => exact .ins h5 h6 h1 h2 h3 h4
  | dct h1 h2 h3 => exact .dct h1 h2 h3
  | tab h1 h2 h3 => exact .tab h1 h2 h3
/-- a heap that keeps what is there keeps the footprints -/
theorem Fps.back {f : Nat → List Addr} (R : Rl K Z Hs H σ δ) (F : Fps K Z Hs' H' σ δ f) (keep : ∀ (b : Addr) (o : HO), H b = some o → H' b = some o) : ∀ (j : Nat) (a : Addr), a ∈ f j → H a ≠ none := by
  intro j a m
  obtain ⟨f0, F0⟩ := R.fps
  have e : f j = f0 j := by
    cases e : δ[j]? with
    | none => rw [F.emp j (fun s z => by rw [e] at z; cases z), F0.emp j (fun s z => by rw [e] at z; cases z)]
    | some o =>
      cases o with
      | none => rw [F.emp j (fun s z => by rw [e] at z; cases z), F0.emp j (fun s z => by rw [e] at z; cases z)]
      | some s =>
        cases ho : s.own with
        | false => rw [F.emp j (fun s' z => by rw [e] at z; cases z; exact ho), F0.emp j (fun s' z => by rw [e] at z; cases z; exact ho)]
        | true =>
          obtain ⟨v, h1, h2⟩ := F.at_ j s e ho
          obtain ⟨v', h1', h2'⟩ := F0.at_ j s e ho
          rw [h1] at h1'
          cases h1'
          have k := h2'.fr (Hs' := Hs) (H' := H') (Same.refl _) fun a m => by
            cases q : H a with
            | none => exact absurd q (h2'.live a m)
            | some o => exact keep a o q
          exact h2.uniq k
  rw [e] at m
  exact F0.live j m
/-- a new thing beside a slot that is given another one -/
theorem FrA.put {u v : V} {s t : Sl} {A B : List Addr} {i : Nat} (R : Rl K Z Hs H σ δ) (c : FrA K Z Hs H σ δ u t B) (hat : s.own = true → At K Hs H v s A) (hd : ∀ a ∈ B, a ∉ A) : FrA K Z Hs H (σ.set i (some v)) (δ.set i (some s)) u t B := by
  refine ⟨c.at_, c.hs, c.mine, fun f' F' j a m m' => ?_, c.g⟩
  obtain ⟨f, F⟩ := R.fps
  by_cases e : j = i
  · subst e
    by_cases hj : j < δ.length
    · have hz : (δ.set j (some s))[j]? = some (some s) := List.getElem?_set_self hj
      cases ho : s.own with
      | false =>
        rw [F'.emp j (fun q z => by rw [hz] at z; cases z; exact ho)] at m'
        exact nomatch m'
      | true =>
        obtain ⟨v', k1, k2⟩ := F'.at_ j s hz ho
        rw [List.getElem?_set_self (by rw [R.len]; exact hj)] at k1
        cases k1
        rw [k2.uniq (hat ho)] at m'
        exact hd a m m'
    · rw [F'.emp j (fun q z => absurd (set_lt z) hj)] at m'
      exact nomatch m'
  · rw [F.eqj F' j (List.getElem?_set_ne (fun q => e q.symm)) (fun w z => by rw [List.getElem?_set_ne (fun q => e q.symm)]; exact z) fun _ _ => rfl] at m'
    exact c.dis f F j a m m'
/-- the frame alone -/
theorem Rl.mk0 (sub : Same Hs H) (ext : Same Z.Hs0 Hs) (fr : ∀ (b : Addr) (o : HO), Z.H0 b = some o → b ∉ Z.own → H b = some o) (new : ∀ (b : Addr), Hs b ≠ none → Z.Hs0 b ≠ none ∨ Z.H0 b = none) (hid : ∀ (b : Addr), b ∈ Z.own → Hs b = none ∧ H b ≠ none)
    (grd : ∀ (a : Addr) (o : HO), (a, o) ∈ Z.G → H a = some o ∧ Hs a = none ∧ a ∉ Z.own) : Rl K Z Hs H [] [] :=
  ⟨rfl, sub, ext, fr, new, hid, fun i d e => (nomatch e), ⟨fun _ => [], ⟨fun i s e => (nomatch e), fun _ _ => rfl, fun i a m => (nomatch m), fun i a m => (nomatch m), fun i s a e => (nomatch e), fun i j a n m => (nomatch m), fun i a o m => nomatch m⟩⟩, grd, fun i s e => (nomatch e), fun i C e => nomatch e⟩
theorem FrO.new (R : Rl K Z Hs H σ δ) {p : Addr} {ws : List V} {xs : List PyData} (h : H p = none) (d : DpAll K Hs ws xs) : FrO K Z Hs (upd H p (.lst ws)) σ δ (.ref p) xs :=
  ⟨[p], FrA.fresh R (R.allocO h) (.ow upd_same d) (fun a m => by rw [List.mem_singleton.mp m]; exact h) (fun a m => by rw [List.mem_singleton.mp m]; exact R.hsn h) fun f F => F.back R fun b o e => by rw [upd_ne (ne_of_none e h)]; exact e⟩
/-- an owned list is to be seen -/
theorem Rl.own (R : Rl K Z Hs H σ δ) (i : Nat) (p : Bool) (xs : List PyData) (h : δ[i]? = some (some (Sl.ow p xs))) : ∃ (a : Addr) (ws : List V), σ[i]? = some (some (V.ref a)) ∧ H a = some (.lst ws) ∧ Hs a = none ∧ DpAll K Hs ws xs := by
  obtain ⟨f, F⟩ := R.fps
  obtain ⟨v, h1, h2⟩ := F.at_ i _ h rfl
  have hs := F.hs i
  generalize f i = A at h2 hs
  cases h2 with
  | ow k1 k2 => exact ⟨_, _, h1, k1, hs _ (List.mem_singleton.mpr rfl), k2⟩
/-- an owned dict is to be seen -/
theorem Rl.ownD (R : Rl K Z Hs H σ δ) (i : Nat) (p : Bool) (ks : List Key) (ds : List PyData) (h : δ[i]? = some (some (Sl.ob p (.dct ks ds)))) : ∃ (a : Addr) (vs : List V), σ[i]? = some (some (V.ref a)) ∧ H a = some (.dK (ks.zip vs)) ∧ Hs a = none ∧ ks.length = vs.length ∧ DpAll K Hs vs ds := by
  obtain ⟨f, F⟩ := R.fps
  obtain ⟨v, h1, h2⟩ := F.at_ i _ h rfl
  have hs := F.hs i
  generalize f i = A at h2 hs
  cases h2 with
  | dct k1 k2 k3 => exact ⟨_, _, h1, k1, hs _ (List.mem_singleton.mpr rfl), k2, k3⟩
theorem Fps.lst {f : Nat → List Addr} (F : Fps K Z Hs H σ δ f) {i : Nat} {p : Bool} {xs : List PyData} {a : Addr} (h : δ[i]? = some (some (Sl.ow p xs))) (hv : σ[i]? = some (some (V.ref a))) : f i = [a] := by
  obtain ⟨v, k1, k2⟩ := F.at_ i _ h rfl
  rw [hv] at k1
  cases k1
  generalize f i = A at k2
  cases k2 with
  | ow _ _ => rfl
/-- an address that is no one's -/
structure Nw (K : Fg) (Z : Ent) (Hs H : Hp) (σ : St) (δ : DSt) (a : Addr) : Prop where
  h0 : Z.H0 a = none
  ow : a ∉ Z.own
  fp : ∀ f, Fps K Z Hs H σ δ f → ∀ j : Nat, a ∉ f j
  g : ∀ o : HO, (a, o) ∉ Z.G
theorem Rl.nw (R : Rl K Z Hs H σ δ) {a : Addr} (h : H a = none) : Nw K Z Hs H σ δ a := ⟨R.h0n h, R.won h, fun f F j m => F.live j m h, fun o => R.nog h⟩
theorem FrA.nw {v : V} {s : Sl} {A : List Addr} (c : FrA K Z Hs H σ δ v s A) {a : Addr} (m : a ∈ A) : Nw K Z Hs H σ δ a := ⟨(c.mine a m).1, (c.mine a m).2, fun f F j => c.dis f F j a m, fun o => c.g a o m⟩
/-- an owned thing is changed, within its footprint and at new addresses -/
theorem Rl.chgG (R : Rl K Z Hs H σ δ) {i : Nat} {s s' : Sl} {v : V} {A : List Addr} (hd : δ[i]? = some (some s)) (ho : s.own = true) (hv : σ[i]? = some (some v)) (hp : s'.prm = s.prm) (hs : Same Hs Hs') (sb : Same Hs' H')
    (keep : ∀ f, Fps K Z Hs H σ δ f → ∀ (b : Addr) (o : HO), b ∉ f i → H b = some o → H' b = some o) (live : ∀ b : Addr, H b ≠ none → H' b ≠ none) (nw : ∀ b : Addr, Hs' b ≠ none → Hs b ≠ none ∨ H b = none)
    (hat : At K Hs' H' v s' A) (hA : ∀ f, Fps K Z Hs H σ δ f → ∀ a ∈ A, a ∈ f i ∨ Nw K Z Hs H σ δ a) (hAs : ∀ a ∈ A, Hs' a = none) : Rl K Z Hs' H' σ (δ.set i (some s')) := by
  obtain ⟨f, F⟩ := R.fps
  have keep := keep f F
  have hA := hA f F
  have hi : i < σ.length := get_lt hv
  have hidden : ∀ b : Addr, H b ≠ none → Hs b = none → Hs' b = none := fun b h n => by
    cases q : Hs' b with
    | none => rfl
    | some x =>
      rcases nw b (by rw [q]; exact fun z => nomatch z) with z | z
      · exact absurd n z
      · exact absurd z h
  have R1 : Rl K Z Hs' H' σ (δ.set i none) := by
    refine ⟨by rw [List.length_set, R.len], sb, R.ext.trans hs, fun b o e n => ?_, fun b n => ?_, fun b e => ?_, fun j d z => ?_, ?_, fun a o m => ?_, (R.erase i).prm, (R.erase i).exn⟩
    · refine keep b o (fun m => ?_) (R.fr b o e n)
      rcases F.old i b m with z | z
      · rw [z] at e
        cases e
      · exact n z.1
    · rcases nw b n with z | z
      · exact R.new b z
      · exact .inr (R.h0n z)
    · obtain ⟨h1, h2⟩ := R.hid b e
      exact ⟨hidden b h2 h1, live b h2⟩
    · rcases get_set z with ⟨rfl, z'⟩ | ⟨ne, z⟩
      · cases z'
      · obtain ⟨u, a, b⟩ := R.shr j d z
        exact ⟨u, a, b.up hs⟩
    · have E := (R.erase i).fps
      obtain ⟨f2, F2⟩ := E
      have e2 : ∀ j, j ≠ i → f2 j = f j := fun j ne => by
        cases e : δ[j]? with
        | none => rw [F2.emp j (fun s z => by rw [List.getElem?_set_ne (fun q => ne q.symm), e] at z; cases z), F.emp j (fun s z => by rw [e] at z; cases z)]
        | some o =>
          cases o with
          | none => rw [F2.emp j (fun s z => by rw [List.getElem?_set_ne (fun q => ne q.symm), e] at z; cases z), F.emp j (fun s z => by rw [e] at z; cases z)]
          | some t =>
            cases ho : t.own with
            | false => rw [F2.emp j (fun s' z => by rw [List.getElem?_set_ne (fun q => ne q.symm), e] at z; cases z; exact ho), F.emp j (fun s' z => by rw [e] at z; cases z; exact ho)]
            | true =>
              obtain ⟨u, h1, h2⟩ := F.at_ j t e ho
              obtain ⟨u', h1', h2'⟩ := F2.at_ j t (by rw [List.getElem?_set_ne (fun q => ne q.symm)]; exact e) ho
              rw [h1] at h1'
              cases h1'
              exact h2'.uniq h2
      have ei : f2 i = [] := F2.emp i fun t z => by
        rcases get_set z with ⟨_, z'⟩ | ⟨ne, _⟩
        · cases z'
        · exact absurd rfl ne
      have kept : ∀ j a, a ∈ f2 j → H' a = H a := fun j a m => by
        by_cases e : j = i
        · rw [e, ei] at m
          exact nomatch m
        · have l := F2.live j m
          cases q : H a with
          | none => exact absurd q l
          | some o => exact keep a o (fun m' => F.dis j i a e (by rw [← e2 j e]; exact m) m') q
      refine ⟨f2, ⟨fun j t z o => ?_, F2.emp, fun j a m => hidden a (F2.live j m) (F2.hs j a m), F2.old, F2.mine, F2.dis, F2.g⟩⟩
      obtain ⟨u, h1, h2⟩ := F2.at_ j t z o
      exact ⟨u, h1, h2.fr hs fun a m => kept j a m⟩
    · obtain ⟨h1, h2, h3⟩ := R.grd a o m
      exact ⟨keep a o (fun m' => F.g i a o m' m) h1, hidden a (by rw [h1]; exact fun z => nomatch z) h2, h3⟩
  have R2 := R1.put (i := i) (v := v) (s := s') (A := A) (fun d e => by have := hat.owned; rw [e] at this; cases this) (fun _ => hat) hAs
    (fun a m => by
      rcases hA a m with z | z
      · exact F.old i a z
      · exact .inl z.h0)
    (fun p a m => by
      rcases hA a m with z | z
      · exact F.mine i s a hd (hp ▸ p) z
      · exact ⟨z.h0, z.ow⟩)
    (fun f1 F1 j a ne m m' => by
      have old : a ∈ f j := by
        cases e : δ[j]? with
        | none =>
          rw [F1.emp j (fun s z => by rw [List.getElem?_set_ne (fun q => ne q.symm), e] at z; cases z)] at m'
          exact nomatch m'
        | some o =>
          cases o with
          | none =>
            rw [F1.emp j (fun s z => by rw [List.getElem?_set_ne (fun q => ne q.symm), e] at z; cases z)] at m'
            exact nomatch m'
          | some t =>
            cases ho : t.own with
            | false =>
              rw [F1.emp j (fun s z => by rw [List.getElem?_set_ne (fun q => ne q.symm), e] at z; cases z; exact ho)] at m'
              exact nomatch m'
            | true =>
              obtain ⟨u, h1, h2⟩ := F.at_ j t e ho
              obtain ⟨u', h1', h2'⟩ := F1.at_ j t (by rw [List.getElem?_set_ne (fun q => ne q.symm)]; exact e) ho
              rw [h1] at h1'
              cases h1'
              have k := h2.fr (Hs' := Hs) (H' := H') (Same.refl _) fun b mb => by
                have l := h2.live b mb
                cases q : H b with
                | none => exact absurd q l
                | some o => exact keep b o (fun m2 => F.dis j i b ne mb m2) q
              rw [← h2'.uniq k]
              exact m'
      rcases hA a m with z | z
      · exact F.dis j i a ne old z
      · exact z.fp f F j old)
    (fun a o m => by
      rcases hA a m with z | z
      · exact F.g i a o z
      · exact z.g o) (fun p => by rw [← hv]; exact R.prm i s hd (hp ▸ p)) (fun C e => by have := hat.owned; rw [e] at this; cases this) hi
  rw [List.set_set, set_self hv] at R2
  exact R2
theorem Rl.chg (R : Rl K Z Hs H σ δ) {i : Nat} {s s' : Sl} {v : V} {A : List Addr} (hd : δ[i]? = some (some s)) (ho : s.own = true) (hv : σ[i]? = some (some v)) (hp : s'.prm = s.prm) (hs : Same Hs Hs') (sb : Same Hs' H')
    (keep : ∀ f, Fps K Z Hs H σ δ f → ∀ (b : Addr) (o : HO), b ∉ f i → H b = some o → H' b = some o) (live : ∀ b : Addr, H b ≠ none → H' b ≠ none) (nw : ∀ b : Addr, Hs' b ≠ none → Hs b ≠ none ∨ H b = none)
    (hat : At K Hs' H' v s' A) (hA : ∀ f, Fps K Z Hs H σ δ f → ∀ a ∈ A, a ∈ f i ∨ H a = none) (hAs : ∀ a ∈ A, Hs' a = none) : Rl K Z Hs' H' σ (δ.set i (some s')) :=
  R.chgG hd ho hv hp hs sb keep live nw hat (fun f F a m => (hA f F a m).imp id fun z => R.nw z) hAs
/-- an owned list is changed -/
theorem Rl.mut (R : Rl K Z Hs H σ δ) {i : Nat} {p : Bool} {xs xs' : List PyData} {a : Addr} {ws' : List V} (h : δ[i]? = some (some (Sl.ow p xs))) (ha : σ[i]? = some (some (V.ref a))) (hd : DpAll K Hs ws' xs') :
    Rl K Z Hs (upd H a (.lst ws')) σ (δ.set i (some (.ow p xs'))) := by
  obtain ⟨a', ws, h1, h2, h3, h4⟩ := R.own i p xs h
  rw [h1] at ha
  cases ha
  have fi : ∀ f, Fps K Z Hs H σ δ f → f i = [a] := fun f F => by
    obtain ⟨v, k1, k2⟩ := F.at_ i _ h rfl
    rw [h1] at k1
    cases k1
    exact k2.uniq (.ow h2 h4)
  refine R.chg (A := [a]) (s' := .ow p xs') h rfl h1 rfl (Same.refl _) (fun b x e => ?_) (fun f F b o n e => ?_) (fun b n => ?_) (fun b n => .inl n) (.ow upd_same hd) (fun f F b m => .inl (by rw [fi f F]; exact m)) (fun b m => by rw [List.mem_singleton.mp m]; exact h3)
  · rw [upd_ne (ne_of_none e h3)]
    exact R.sub b x e
  · rw [fi f F] at n
    rw [upd_ne (fun q => n (List.mem_singleton.mpr q))]
    exact e
  · by_cases q : b = a
    · subst q
      rw [upd_same]
      exact fun z => nomatch z
    · rw [upd_ne q]
      exact n
/-- an owned slot let go -/
theorem Rl.moveA (R : Rl K Z Hs H σ δ) {i : Nat} {s : Sl} (h : δ[i]? = some (some s)) (ho : s.own = true) (hp : s.prm = false) : ∃ v A, σ[i]? = some (some v) ∧ Rl K Z Hs H σ (δ.set i none) ∧ FrA K Z Hs H σ (δ.set i none) v s A := by
  obtain ⟨f, F⟩ := R.fps
  obtain ⟨v, h1, h2⟩ := F.at_ i s h ho
  refine ⟨v, f i, h1, R.erase i, ⟨h2, F.hs i, fun a m => F.mine i s a h hp m, fun f2 F2 j a m m' => ?_, F.g i⟩⟩
  by_cases e : j = i
  · rw [e, F2.emp i fun t z => by
      rcases get_set z with ⟨_, z'⟩ | ⟨ne, _⟩
      · cases z'
      · exact absurd rfl ne] at m'
    exact nomatch m'
  · refine F.dis i j a (fun q => e q.symm) m ?_
    cases q : δ[j]? with
    | none =>
      rw [F2.emp j (fun s z => by rw [List.getElem?_set_ne (fun q => e q.symm), q] at z; cases z)] at m'
      exact nomatch m'
    | some o =>
      cases o with
      | none =>
        rw [F2.emp j (fun s z => by rw [List.getElem?_set_ne (fun q => e q.symm), q] at z; cases z)] at m'
        exact nomatch m'
      | some t =>
        cases ht : t.own with
        | false =>
          rw [F2.emp j (fun s z => by rw [List.getElem?_set_ne (fun q => e q.symm), q] at z; cases z; exact ht)] at m'
          exact nomatch m'
        | true =>
          obtain ⟨u, k1, k2⟩ := F.at_ j t q ht
          obtain ⟨u', k1', k2'⟩ := F2.at_ j t (by rw [List.getElem?_set_ne (fun q => e q.symm)]; exact q) ht
          rw [k1] at k1'
          cases k1'
          rw [← k2'.uniq k2]
          exact m'
theorem Rl.move (R : Rl K Z Hs H σ δ) {i : Nat} {xs : List PyData} (h : δ[i]? = some (some (Sl.ow false xs))) : ∃ v : V, σ[i]? = some (some v) ∧ Rl K Z Hs H σ (δ.set i none) ∧ FrO K Z Hs H σ (δ.set i none) v xs := by
  obtain ⟨v, A, h1, h2, h3⟩ := R.moveA h rfl rfl
  exact ⟨v, h1, h2, A, h3⟩
/-- a new list of one's own is shared -/
theorem FrO.share (R : Rl K Z Hs H σ δ) {v : V} {xs : List PyData} (h : FrO K Z Hs H σ δ v xs) : ∃ Hs', Same Hs Hs' ∧ Rl K Z Hs' H σ δ ∧ Dp K Hs' v (.list xs) := by
  obtain ⟨A, h⟩ := h
  obtain ⟨a, ws, rfl, rfl, h1, h3⟩ := h.lst
  have m : a ∈ [a] := List.mem_singleton.mpr rfl
  have h2 := h.hs a m
  have h4 := h.mine a m
  have e1 : Same Hs (upd Hs a (.lst ws)) := same_new h2
  refine ⟨upd Hs a (.lst ws), e1, ⟨R.len, fun b x e => ?_, R.ext.trans e1, R.fr, fun b n => ?_, fun b e => ?_, fun i d e => ?_, ?_, fun b u mg => ?_, R.prm, R.exn⟩, .lst (SqL.of upd_same) (h3.up e1)⟩
  · by_cases hb : b = a
    · subst hb
      rw [upd_same] at e
      rw [← e]
      exact h1
    · rw [upd_ne hb] at e
      exact R.sub b x e
  · by_cases hb : b = a
    · subst hb
      exact .inr h4.1
    · rw [upd_ne hb] at n
      exact R.new b n
  · obtain ⟨z1, z2⟩ := R.hid b e
    have hb : b ≠ a := fun q => h4.2 (q ▸ e)
    rw [upd_ne hb]
    exact ⟨z1, z2⟩
  · obtain ⟨v, a, b⟩ := R.shr i d e
    exact ⟨v, a, b.up e1⟩
  · obtain ⟨f, F⟩ := R.fps
    refine ⟨f, ⟨fun i s e o => ?_, F.emp, fun i b mb => ?_, F.old, F.mine, F.dis, F.g⟩⟩
    · obtain ⟨u, k1, k2⟩ := F.at_ i s e o
      exact ⟨u, k1, k2.fr e1 fun _ _ => rfl⟩
    · have hb : b ≠ a := fun q => h.dis f F i a m (q ▸ mb)
      rw [upd_ne hb]
      exact F.hs i b mb
  · obtain ⟨g1, g2, g3⟩ := R.grd b u mg
    have hb : b ≠ a := fun z => h.g a u m (z ▸ mg)
    exact ⟨g1, by rw [upd_ne hb]; exact g2, g3⟩
/-- what an owned thing is, once it is shared -/
def fvD : Fv → PyData
  | .d d => d
  | .l xs => .list xs
  | .la _ xs => .list xs
def frzD : Ob → PyData
  | .nst xss => .list (xss.map .list)
  | .ins C FS fs => insD C FS (fs.map fvD)
  | .dct ks ds => dctD ks ds
  | .tab _ => anyD
def ownD : Sl → PyData
  | .sh d => d
  | .ow _ xs => .list xs
  | .ob _ o => frzD o
  | .xn _ => .none
/-- H at A, else Hs -/
def mix (Hs H : Hp) (A : List Addr) : Hp := fun b => if b ∈ A then H b else Hs b
theorem mix_in {A : List Addr} {b : Addr} (m : b ∈ A) : mix Hs H A b = H b := if_pos m
theorem mix_out {A : List Addr} {b : Addr} (m : b ∉ A) : mix Hs H A b = Hs b := if_neg m
theorem mix_same {A : List Addr} (h : ∀ a ∈ A, Hs a = none) : Same Hs (mix Hs H A) := fun b o e => by
  rw [mix_out fun m => by rw [h b m] at e; cases e]
  exact e
theorem LsAt.dpm {vs : List V} {xss : List (List PyData)} {A : List Addr} (h : LsAt K Hs H vs xss A) (e : Same Hs Hs') (k : ∀ a ∈ A, Hs' a = H a) : DpAll K Hs' vs (xss.map PyData.list) := by
  induction h with
  | nil => exact .nil
  | cons h1 h2 _ ih => exact .cons (.lst (SqL.of ((k _ (List.mem_cons_self ..)).trans h1)) (h2.up e)) (ih fun a m => k a (List.mem_cons_of_mem _ m))
theorem FsAt.dpm {vs : List V} {fs : List Fv} {A : List Addr} (h : FsAt K Hs H vs fs A) (e : Same Hs Hs') (k : ∀ a ∈ A, Hs' a = H a) : DpAll K Hs' vs (fs.map fvD) := by
  induction h with
  | nil => exact .nil
  | @cons v f vs fs A B h1 _ ih =>
    refine .cons ?_ (ih fun a m => k a (List.mem_append_right _ m))
    cases h1 with
    | d h => exact h.up e
    | @l a ws xs h1 h2 => exact .lst (SqL.of ((k a (List.mem_append_left _ (List.mem_singleton.mpr rfl))).trans h1)) (h2.up e)
    | @la a ws xs h1 h2 => exact .lst (SqL.of ((k a (List.mem_append_left _ (List.mem_singleton.mpr rfl))).trans h1)) (h2.up e)
theorem At.dpm {v : V} {s : Sl} {A : List Addr} (h : At K Hs H v s A) (e : Same Hs Hs') (k : ∀ a ∈ A, Hs' a = H a) : Dp K Hs' v (ownD s) := by
  cases h with
  | @ow a p ws xs h1 h2 => exact .lst (SqL.of ((k a (List.mem_singleton.mpr rfl)).trans h1)) (h2.up e)
  | @nst a p vs xss A h1 h2 h3 => exact .lst (SqL.of ((k a (List.mem_cons_self ..)).trans h1)) (h2.dpm e fun b m => k b (List.mem_cons_of_mem _ m))
  | @ins a dx p C FS vs fs A h5 h6 h1 h2 h3 h4 =>
    refine .ins h5 ((k a (List.mem_cons_self ..)).trans h1) ((k dx (List.mem_cons_of_mem _ (List.mem_cons_self ..))).trans h2) h6 (h3.dpm e fun b m => k b (List.mem_cons_of_mem _ (List.mem_cons_of_mem _ m)))
  | @dct a p ks vs ds h1 h2 h3 => exact .dct ((k a (List.mem_singleton.mpr rfl)).trans h1) h2 (h3.up e)
  | tab h1 h2 h3 => exact .any fun z => nomatch z
/-- a new thing of one's own is shared -/
theorem FrA.share (R : Rl K Z Hs H σ δ) {v : V} {s : Sl} {A : List Addr} (h : FrA K Z Hs H σ δ v s A) : ∃ Hs', Same Hs Hs' ∧ Rl K Z Hs' H σ δ ∧ Dp K Hs' v (ownD s) := by
  have e1 : Same Hs (mix Hs H A) := mix_same h.hs
  refine ⟨mix Hs H A, e1, ⟨R.len, fun b x e => ?_, R.ext.trans e1, R.fr, fun b n => ?_, fun b e => ?_, fun i d e => ?_, ?_, fun b u mg => ?_, R.prm, R.exn⟩, h.at_.dpm e1 fun a m => mix_in m⟩
  · by_cases hb : b ∈ A
    · rw [mix_in hb] at e
      exact e
    · rw [mix_out hb] at e
      exact R.sub b x e
  · by_cases hb : b ∈ A
    · exact .inr (h.mine b hb).1
    · rw [mix_out hb] at n
      exact R.new b n
  · obtain ⟨z1, z2⟩ := R.hid b e
    rw [mix_out fun q => (h.mine b q).2 e]
    exact ⟨z1, z2⟩
  · obtain ⟨v, a, b⟩ := R.shr i d e
    exact ⟨v, a, b.up e1⟩
  · obtain ⟨f, F⟩ := R.fps
    refine ⟨f, ⟨fun i s e o => ?_, F.emp, fun i b mb => ?_, F.old, F.mine, F.dis, F.g⟩⟩
    · obtain ⟨u, k1, k2⟩ := F.at_ i s e o
      exact ⟨u, k1, k2.fr e1 fun _ _ => rfl⟩
    · rw [mix_out fun q => h.dis f F i b q mb]
      exact F.hs i b mb
  · obtain ⟨g1, g2, g3⟩ := R.grd b u mg
    exact ⟨g1, by rw [mix_out fun z => h.g b u z mg]; exact g2, g3⟩
end
end DL

namespace DL
open PySem PySem.Spec L2

/-! ### judgements by data -/
abbrev DE := DSt → (PyData → DSt → Prop) → Prop
abbrev DT := DSt → (Bool → DSt → Prop) → Prop
abbrev DL' := DSt → (List PyData → DSt → Prop) → Prop
def lE (K : Fg) (Z : Ent) (t : DE) : TE := fun σ H Q => ∃ Hs δ, Rl K Z Hs H σ δ ∧ t δ fun d δ' => ∀ v Hs' H', Same Hs Hs' → Rl K Z Hs' H' σ δ' → Dp K Hs' v d → Q v H'
def lT (K : Fg) (Z : Ent) (t : DT) : TT := fun σ H Q => ∃ Hs δ, Rl K Z Hs H σ δ ∧ t δ fun b δ' => ∀ Hs' H', Same Hs Hs' → Rl K Z Hs' H' σ δ' → Q b H'
def lO (K : Fg) (Z : Ent) (t : DL') : TE := fun σ H Q => ∃ Hs δ, Rl K Z Hs H σ δ ∧ t δ fun xs δ' => ∀ v Hs' H', Same Hs Hs' → Rl K Z Hs' H' σ δ' → FrO K Z Hs' H' σ δ' v xs → Q v H'
def lA (K : Fg) (Z : Ent) (t : DL') : TA := fun σ H Q => ∃ Hs δ, Rl K Z Hs H σ δ ∧ t δ fun ds δ' => ∀ vs Hs' H', Same Hs Hs' → Rl K Z Hs' H' σ δ' → DpAll K Hs' vs ds → Q vs H'
structure De (X : Cx) (Z : Ent) (e : Expr) (t : DE) : Prop where
  run : PE X e (lE X.K Z t)
  mono : ∀ (δ : DSt) (Q Q' : PyData → DSt → Prop), (∀ d δ', Q d δ' → Q' d δ') → t δ Q → t δ Q'
structure Dt (X : Cx) (Z : Ent) (e : Expr) (t : DT) : Prop where
  run : PT X e (lT X.K Z t)
  mono : ∀ (δ : DSt) (Q Q' : Bool → DSt → Prop), (∀ d δ', Q d δ' → Q' d δ') → t δ Q → t δ Q'
structure Dw (X : Cx) (Z : Ent) (e : Expr) (t : DT) : Prop where
  run : PW X e (lT X.K Z t)
  mono : ∀ (δ : DSt) (Q Q' : Bool → DSt → Prop), (∀ d δ', Q d δ' → Q' d δ') → t δ Q → t δ Q'
structure Do (X : Cx) (Z : Ent) (e : Expr) (t : DL') : Prop where
  run : PE X e (lO X.K Z t)
  mono : ∀ (δ : DSt) (Q Q' : List PyData → DSt → Prop), (∀ d δ', Q d δ' → Q' d δ') → t δ Q → t δ Q'
structure Da (X : Cx) (Z : Ent) (es : List Expr) (t : DL') : Prop where
  run : PA X es (lA X.K Z t)
  mono : ∀ (δ : DSt) (Q Q' : List PyData → DSt → Prop), (∀ d δ', Q d δ' → Q' d δ') → t δ Q → t δ Q'
theorem pe_imp {X : Cx} {e : Expr} {t t' : TE} (h : PE X e t) (i : ∀ σ H Q, t' σ H Q → t σ H Q) : PE X e t' := ⟨fun pins s σ H Q I h' => h.run pins s σ H Q I (i σ H Q h')⟩
theorem pt_imp {X : Cx} {e : Expr} {t t' : TT} (h : PT X e t) (i : ∀ σ H Q, t' σ H Q → t σ H Q) : PT X e t' := ⟨fun pins s σ H Q I h' => h.run pins s σ H Q I (i σ H Q h')⟩
theorem pw_imp {X : Cx} {e : Expr} {t t' : TT} (h : PW X e t) (i : ∀ σ H Q, t' σ H Q → t σ H Q) : PW X e t' := ⟨fun w pins s σ H Q I h' => h.run w pins s σ H Q I (i σ H Q h')⟩
theorem pa_imp {X : Cx} {e : List Expr} {t t' : TA} (h : PA X e t) (i : ∀ σ H Q, t' σ H Q → t σ H Q) : PA X e t' := ⟨fun p pins s σ H Q I h' => h.run p pins s σ H Q I (i σ H Q h')⟩
theorem ps_imp {X : Cx} {e : Stmt} {t t' : TS} (h : PS X e t) (i : ∀ D σ H, t' D σ H → t D σ H) : PS X e t' := ⟨fun pins s σ H D I h' => h.run pins s σ H D I (i D σ H h')⟩
theorem pss_imp {X : Cx} {e : List Stmt} {t t' : TS} (h : PSs X e t) (i : ∀ D σ H, t' D σ H → t D σ H) : PSs X e t' := ⟨fun pins s σ H D I h' => h.run pins s σ H D I (i D σ H h')⟩

section
variable {X : Cx} {Z : Ent} {pos : Pos}
/-! ### names, constants -/
/-- a name: shared data, or a list of one's own that is shared from here on -/
def dVar (i : Nat) : DE := fun δ Q => match δ[i]? with
  | some (some (.sh d)) => Q d δ
  | some (some (.ow false xs)) => Q (.list xs) (δ.set i (some (.sh (.list xs))))
  | _ => False
theorem de_var (i : Nat) {x : Str} (hN : X.N[i]? = some x := by rfl) (hv : Vis X.env.scope x := by first | exact Or.inl rfl | exact Or.inr (Or.inl rfl) | exact Or.inr (Or.inr rfl)) (hd : (x == ("__debug__" : Str)) = false := by decide)
    (hcd : (x == ("__classdict__" : Str)) = false := by decide) : De X Z (.Name x pos) (dVar i) := by
  refine ⟨pe_imp (pe_var hN hv hd hcd) fun σ H Q ⟨Hs, δ, R, h⟩ => ?_, fun δ Q Q' hq h => ?_⟩
  · unfold dVar at h
    split at h
    · rename_i d e
      obtain ⟨v, h1, h2⟩ := R.shr i d e
      exact ⟨v, h1, h v Hs H (Same.refl _) R h2⟩
    · rename_i xs e
      obtain ⟨v, h1, R1, f⟩ := R.move e
      obtain ⟨Hs', s1, R2, dp⟩ := f.share R1
      refine ⟨v, h1, h v Hs' H s1 ?_ dp⟩
      have R3 := R2.set (i := i) dp
      rw [set_self h1, List.set_set] at R3
      exact R3
    · exact h.elim
  · unfold dVar at h ⊢
    split at h
    · exact hq _ _ h
    · exact hq _ _ h
    · exact h
def dC (d : PyData) : DE := fun δ Q => Q d δ
theorem de_c {e : Expr} {v : V} {d : PyData} (h : PE X e (tC v)) (hd : ∀ H, Dp X.K H v d) : De X Z e (dC d) :=
  ⟨pe_imp h fun σ H Q ⟨Hs, δ, R, q⟩ => q v Hs H (Same.refl _) R (hd Hs), fun δ Q Q' hq h => hq _ _ h⟩
theorem de_int {i : Int} {j} : De X Z (.Constant (.int i) j pos) (dC (.int i)) := de_c pe_int fun _ => .int i
theorem de_bl {b : Bool} {j} : De X Z (.Constant (.bool b) j pos) (dC (.bool b)) := de_c pe_bl fun _ => .bl b
theorem de_str {x : Str} {j} : De X Z (.Constant (.str x) j pos) (dC (.str x)) := de_c pe_str fun _ => .str x
/-- a new list shared at once -/
def dShare (t : DL') : DE := fun δ Q => t δ fun xs δ' => Q (.list xs) δ'
theorem Do.sh {e : Expr} {t : DL'} (h : Do X Z e t) : De X Z e (dShare t) := by
  refine ⟨pe_imp h.run fun σ H Q ⟨Hs, δ, R, q⟩ => ⟨Hs, δ, R, h.mono _ _ _ (fun xs δ' q v Hs' H' s1 R1 f => ?_) q⟩, fun δ Q Q' hq q => h.mono _ _ _ (fun _ _ z => hq _ _ z) q⟩
  obtain ⟨Hs2, s2, R2, dp⟩ := f.share R1
  exact q v Hs2 H' (s1.trans s2) R2 dp

/-! ### arguments, displays -/
def dNil : DL' := fun δ Q => Q [] δ
def dCons (t : DE) (r : DL') : DL' := fun δ Q => t δ fun d δ1 => r δ1 fun ds δ2 => Q (d :: ds) δ2
theorem da_nil : Da X Z [] dNil := ⟨pa_imp pa_nil fun σ H Q ⟨Hs, δ, R, q⟩ => q [] Hs H (Same.refl _) R .nil, fun δ Q Q' hq h => hq _ _ h⟩
theorem da_cons {e : Expr} {es : List Expr} {t : DE} {r : DL'} (h : De X Z e t) (hr : Da X Z es r) (hs : starEach (e :: es) X.env = (false, eval e X.env) :: starEach es X.env := by rfl) : Da X Z (e :: es) (dCons t r) := by
  refine ⟨pa_imp (pa_cons h.run hr.run hs) fun σ H Q ⟨Hs, δ, R, q⟩ => ⟨Hs, δ, R, h.mono _ _ _ (fun d δ1 q v Hs1 H1 s1 R1 dp => ⟨Hs1, δ1, R1, hr.mono _ _ _ (fun ds δ2 q vs Hs2 H2 s2 R2 dps => ?_) q⟩) q⟩,
    fun δ Q Q' hq q => h.mono _ _ _ (fun _ _ z => hr.mono _ _ _ (fun _ _ z => hq _ _ z) z) q⟩
  exact q (v :: vs) Hs2 H2 (s1.trans s2) R2 (.cons (dp.up s2) dps)
def dTup (t : DL') : DE := fun δ Q => t δ fun ds δ' => ds.length ≤ sizeLine ∧ Q (.tuple ds) δ'
theorem de_tup {es : List Expr} {t : DL'} {x1} (h : Da X Z es t) : De X Z (.Tuple es x1 pos) (dTup t) := by
  refine ⟨pe_imp (pe_tup h.run) fun σ H Q ⟨Hs, δ, R, q⟩ => ⟨Hs, δ, R, h.mono _ _ _ (fun ds δ1 q vs Hs1 H1 s1 R1 dps => ⟨by rw [dps.len]; exact q.1, fun p np => ?_⟩) q⟩, fun δ Q Q' hq q => h.mono _ _ _ (fun _ _ z => ⟨z.1, hq _ _ z.2⟩) q⟩
  have s2 : Same Hs1 (upd Hs1 p (.tup vs)) := same_new (R1.hsn np)
  exact q.2 (.ref p) _ _ (s1.trans s2) (R1.alloc np) (.tup (SqT.of upd_same) (dps.up s2))
def dLst (t : DL') : DL' := fun δ Q => t δ fun ds δ' => ds.length ≤ sizeLine ∧ Q ds δ'
theorem do_lst {es : List Expr} {t : DL'} (h : Da X Z es t) : Do X Z (.List es pos) (dLst t) := by
  refine ⟨pe_imp (pe_lst h.run) fun σ H Q ⟨Hs, δ, R, q⟩ => ⟨Hs, δ, R, h.mono _ _ _ (fun ds δ1 q vs Hs1 H1 s1 R1 dps => ⟨by rw [dps.len]; exact q.1, fun p np => ?_⟩) q⟩, fun δ Q Q' hq q => h.mono _ _ _ (fun _ _ z => ⟨z.1, hq _ _ z.2⟩) q⟩
  exact q.2 (.ref p) Hs1 _ s1 (R1.allocO np) (FrO.new R1 np dps)

/-! ### operators -/
abbrev D2 := PyData → PyData → (PyData → Prop) → Prop
structure OpD (X : Cx) (Z : Ent) (f : Value → Value → Sem Value) (r : D2) : Prop where
  ex : ∃ r0 : R2, OpR X f r0 ∧ ∀ (d e : PyData) (x y : V) (Hs H : Hp) (σ : St) (δ : DSt) (Q : VK), Rl X.K Z Hs H σ δ → Dp X.K Hs x d → Dp X.K Hs y e →
    r d e (fun z => ∀ v Hs' H', Same Hs Hs' → Rl X.K Z Hs' H' σ δ → Dp X.K Hs' v z → Q v H') → r0 x y H Q
  mono : ∀ (d e : PyData) (Q Q' : PyData → Prop), (∀ z, Q z → Q' z) → r d e Q → r d e Q'
theorem OpD.or {f : Value → Value → Sem Value} {r r' : D2} (h : OpD X Z f r) (h' : OpD X Z f r') : OpD X Z f (fun d e Q => r d e Q ∨ r' d e Q) := by
  obtain ⟨r0, a, b⟩ := h.ex
  obtain ⟨r1, a', b'⟩ := h'.ex
  refine ⟨⟨_, a.or a', fun d e x y Hs H σ δ Q R dx dy q => ?_⟩, fun d e Q Q' hq q => ?_⟩
  · rcases q with q | q
    · exact .inl (b d e x y Hs H σ δ Q R dx dy q)
    · exact .inr (b' d e x y Hs H σ δ Q R dx dy q)
  · rcases q with q | q
    · exact .inl (h.mono d e Q Q' hq q)
    · exact .inr (h'.mono d e Q Q' hq q)
theorem OpD.imp {f : Value → Value → Sem Value} {r r' : D2} (h : OpD X Z f r) (i : ∀ d e Q, r' d e Q → r d e Q) (m : ∀ (d e : PyData) (Q Q' : PyData → Prop), (∀ z, Q z → Q' z) → r' d e Q → r' d e Q') : OpD X Z f r' := by
  obtain ⟨r0, a, b⟩ := h.ex
  exact ⟨⟨r0, a, fun d e x y Hs H σ δ Q R dx dy q => b d e x y Hs H σ δ Q R dx dy (i _ _ _ q)⟩, m⟩
def dOp (r : D2) (ta tb : DE) : DE := fun δ Q => ta δ fun d δ1 => tb δ1 fun e δ2 => r d e fun z => Q z δ2
theorem de_opP {a b e : Expr} {ta tb : DE} {r : D2} {f : Value → Value → Sem Value} (ho : OpD X Z f r) (ha : De X Z a ta) (hb : De X Z b tb) (hp : ∀ r0 : R2, OpR X f r0 → PE X e (tOp r0 (lE X.K Z ta) (lE X.K Z tb))) : De X Z e (dOp r ta tb) := by
  obtain ⟨r0, h0, h1⟩ := ho.ex
  refine ⟨pe_imp (hp r0 h0) fun σ H Q ⟨Hs, δ, R, q⟩ => ⟨Hs, δ, R, ha.mono _ _ _ (fun d δ1 q v Hs1 H1 s1 R1 dp => ⟨Hs1, δ1, R1, hb.mono _ _ _ (fun d2 δ2 q v2 Hs2 H2 s2 R2 dp2 => ?_) q⟩) q⟩,
    fun δ Q Q' hq q => ha.mono _ _ _ (fun _ _ z => hb.mono _ _ _ (fun _ _ z => ho.mono _ _ _ _ (fun _ z => hq _ _ z) z) z) q⟩
  refine h1 d d2 v v2 Hs2 H2 σ δ2 Q R2 (dp.up s2) dp2 (ho.mono _ _ _ _ (fun z q v3 Hs3 H3 s3 R3 dp3 => ?_) q)
  exact q v3 Hs3 H3 ((s1.trans s2).trans s3) R3 dp3
theorem de_op {a b : Expr} {ta tb : DE} {r : D2} {op : Operator} (ho : OpD X Z (binaryOp op) r) (ha : De X Z a ta) (hb : De X Z b tb) : De X Z (.BinOp a op b pos) (dOp r ta tb) := de_opP ho ha hb fun _ h => pe_op h ha.run hb.run
theorem de_cmp {a b : Expr} {ta tb : DE} {r : D2} {op : CmpOp} (ho : OpD X Z (compareOp op) r) (ha : De X Z a ta) (hb : De X Z b tb) (hm : behindInMarks op b = false := by first | exact nomark _ | rfl) : De X Z (.Compare a [op] [b] pos) (dOp r ta tb) := de_opP ho ha hb fun _ h => pe_cmpR h ha.run hb.run hm
/-- two ints -/
def rII (C : Int → Int → Prop) (g : Int → Int → PyData) : D2 := fun d e Q => match d, e with
  | .int i, .int j => C i j ∧ Q (g i j)
  | _, _ => False
theorem rII_mono {C : Int → Int → Prop} {g : Int → Int → PyData} (d e : PyData) (Q Q' : PyData → Prop) (h : ∀ z, Q z → Q' z) (q : rII C g d e Q) : rII C g d e Q' := by
  unfold rII at q ⊢
  split at q
  · exact ⟨q.1, h _ q.2⟩
  · exact q
theorem opd_I {f : Value → Value → Sem Value} {C : Int → Int → Prop} {g : Int → Int → V} {g' : Int → Int → PyData} (h : OpR X f (rI C g)) (hd : ∀ i j H, Dp X.K H (g i j) (g' i j)) : OpD X Z f (rII C g') := by
  refine ⟨⟨_, h, fun d e x y Hs H σ δ Q R dx dy q => ?_⟩, rII_mono⟩
  unfold rII at q
  split at q
  · rename_i i j
    cases dx
    cases dy
    exact ⟨i, j, rfl, rfl, q.1, q.2 _ Hs H (Same.refl _) R (hd i j Hs)⟩
  · exact q.elim
theorem opd_I0 {f : Value → Value → Sem Value} {g : Int → Int → V} {g' : Int → Int → PyData} (h : OpR X f (rI0 g)) (hd : ∀ i j H, Dp X.K H (g i j) (g' i j)) : OpD X Z f (rII (fun _ _ => True) g') := by
  refine ⟨⟨_, h, fun d e x y Hs H σ δ Q R dx dy q => ?_⟩, rII_mono⟩
  unfold rII at q
  split at q
  · rename_i i j
    cases dx
    cases dy
    exact ⟨i, j, rfl, rfl, q.2 _ Hs H (Same.refl _) R (hd i j Hs)⟩
  · exact q.elim
abbrev rAddI : D2 := rII (fun _ _ => True) fun i j => .int (i + j)
abbrev rSubI : D2 := rII (fun _ _ => True) fun i j => .int (i - j)
abbrev rMulI : D2 := rII CMulW fun i j => .int (i * j)
/-- // by a divisor other than 0, of less than 9000 bits -/
def CDivA (_ j : Int) : Prop := j ≠ 0 ∧ j.natAbs.log2 < 9000
abbrev rDivI : D2 := rII CDivA fun i j => .int (i.fdiv j)
abbrev rModI : D2 := rII (fun _ j => j ≠ 0) fun i j => .int (i.fmod j)
theorem op_fdivA : OpR X (binaryOp .FloorDiv) (rI CDivA fun i j => .int (i.fdiv j)) := opI fun i j _ _ _ _ _ hc q => PyProof.Rows.floordiv_int hc.1 q (.inl (PyProof.noPylong_of_log2 hc.2))
theorem od_add : OpD X Z (binaryOp .Add) rAddI := opd_I0 op_add fun _ _ _ => .int _
theorem od_sub : OpD X Z (binaryOp .Sub) rSubI := opd_I0 op_sub fun _ _ _ => .int _
theorem od_mul : OpD X Z (binaryOp .Mult) rMulI := opd_I op_mulW fun _ _ _ => .int _
theorem od_div : OpD X Z (binaryOp .FloorDiv) rDivI := opd_I op_fdivA fun _ _ _ => .int _
theorem od_mod : OpD X Z (binaryOp .Mod) rModI := opd_I op_modN fun _ _ _ => .int _
theorem od_lt : OpD X Z (compareOp .Lt) (rII (fun _ _ => True) fun i j => .bool (decide (i < j))) := opd_I0 op_lt fun _ _ _ => .bl _
theorem od_gt : OpD X Z (compareOp .Gt) (rII (fun _ _ => True) fun i j => .bool (decide (j < i))) := opd_I0 op_gt fun _ _ _ => .bl _
def rEqq : D2 := fun d e Q => SeqAt.shaped d = true ∧ SeqAt.shaped e = true ∧ Q (.bool (PyData.eqv d e))
def rNeq : D2 := fun d e Q => SeqAt.shaped d = true ∧ SeqAt.shaped e = true ∧ Q (.bool (!PyData.eqv d e))
theorem Rl.up {K : Fg} {Hs H : Hp} {σ : St} {δ : DSt} {v : V} {d : PyData} (R : Rl K Z Hs H σ δ) (h : Dp K Hs v d) : Dp K H v d := h.up R.sub
theorem od_eq (hu : X.A.units + 64 < cLine) : OpD X Z (compareOp .Eq) rEqq :=
  ⟨⟨_, op_eqD hu, fun d e x y Hs H σ δ Q R dx dy q => ⟨d, e, (R.up dx).lb q.1, (R.up dy).lb q.2.1, q.1, q.2.1, q.2.2 _ Hs H (Same.refl _) R (.bl _)⟩⟩, fun d e Q Q' hq q => ⟨q.1, q.2.1, hq _ q.2.2⟩⟩
theorem od_ne (hu : X.A.units + 64 < cLine) : OpD X Z (compareOp .NotEq) rNeq :=
  ⟨⟨_, op_neD hu, fun d e x y Hs H σ δ Q R dx dy q => ⟨d, e, (R.up dx).lb q.1, (R.up dy).lb q.2.1, q.1, q.2.1, q.2.2 _ Hs H (Same.refl _) R (.bl _)⟩⟩, fun d e Q Q' hq q => ⟨q.1, q.2.1, hq _ q.2.2⟩⟩
/-- a subscript -/
def rIx : D2 := fun d e Q => match d, e with
  | .tuple xs, .int i => ∃ z, atI xs i = some z ∧ Q z
  | .list xs, .int i => ∃ z, atI xs i = some z ∧ Q z
  | _, _ => False
theorem atI_dp {K : Fg} {H : Hp} {vs : List V} {ds : List PyData} {i : Int} {z : PyData} (h : DpAll K H vs ds) (e : atI ds i = some z) : ∃ v, atI vs i = some v ∧ Dp K H v z := by
  unfold atI at e ⊢
  rw [h.len]
  cases q : ixN ds.length i with
  | none => rw [q] at e; cases e
  | some j =>
    rw [q] at e
    exact h.get e
theorem de_ix {a b : Expr} {ta tb : DE} (ha : De X Z a ta) (hb : De X Z b tb) (hs : PlainIx b := by exact fun _ _ => rfl) : De X Z (.Subscript a b pos) (dOp rIx ta tb) := by
  have mono : ∀ (d e : PyData) (Q Q' : PyData → Prop), (∀ z, Q z → Q' z) → rIx d e Q → rIx d e Q' := fun d e Q Q' hq q => by
    unfold rIx at q ⊢
    split at q
    · obtain ⟨z, a, b⟩ := q
      exact ⟨z, a, hq _ b⟩
    · obtain ⟨z, a, b⟩ := q
      exact ⟨z, a, hq _ b⟩
    · exact q
  refine ⟨pe_imp (pe_ix ix_seq ha.run hb.run hs) fun σ H Q ⟨Hs, δ, R, q⟩ => ⟨Hs, δ, R, ha.mono _ _ _ (fun d δ1 q v Hs1 H1 s1 R1 dp => ⟨Hs1, δ1, R1, hb.mono _ _ _ (fun d2 δ2 q v2 Hs2 H2 s2 R2 dp2 => ?_) q⟩) q⟩,
    fun δ Q Q' hq q => ha.mono _ _ _ (fun _ _ z => hb.mono _ _ _ (fun _ _ z => mono _ _ _ _ (fun _ z => hq _ _ z) z) z) q⟩
  unfold rIx at q
  split at q
  · rename_i xs i
    obtain ⟨z, e, q⟩ := q
    cases dp2
    cases dp.up s2 with
    | tup hs ha =>
      obtain ⟨v, e1, e2⟩ := atI_dp ha e
      exact .inr (.inl ⟨_, _, _, v, rfl, rfl, sqt_mono R2.sub hs, e1, q v Hs2 H2 (s1.trans s2) R2 e2⟩)
  · rename_i xs i
    obtain ⟨z, e, q⟩ := q
    cases dp2
    cases dp.up s2 with
    | lst hs ha =>
      obtain ⟨v, e1, e2⟩ := atI_dp ha e
      exact .inl ⟨_, _, _, v, rfl, rfl, R2.sub.seq hs, e1, q v Hs2 H2 (s1.trans s2) R2 e2⟩
  · exact q.elim
/-- a subscript of a name: a list of one's own, or shared -/
def dIxO (i : Nat) (tb : DE) : DE := fun δ Q => match δ[i]? with
  | some (some _) => tb δ fun e δ' => match e, δ'[i]? with
    | .int j, some (some (.ow _ xs)) => ∃ z, atI xs j = some z ∧ Q z δ'
    | .int j, some (some (.sh d)) => rIx d (.int j) fun z => Q z δ'
    | _, _ => False
  | _ => False
theorem rIx_mono (d e : PyData) (Q Q' : PyData → Prop) (hq : ∀ z, Q z → Q' z) (q : rIx d e Q) : rIx d e Q' := by
  unfold rIx at q ⊢
  split at q
  · obtain ⟨z, a, b⟩ := q
    exact ⟨z, a, hq _ b⟩
  · obtain ⟨z, a, b⟩ := q
    exact ⟨z, a, hq _ b⟩
  · exact q
theorem ix_run {Hs H : Hp} {σ : St} {δ : DSt} {x y : V} {d e : PyData} {Q : VK} (R : Rl X.K Z Hs H σ δ) (dx : Dp X.K Hs x d) (dy : Dp X.K Hs y e) (q : rIx d e fun z => ∀ v, Dp X.K Hs v z → Q v H) : L2.rIx X.K x y H Q := by
  unfold rIx at q
  split at q
  · rename_i xs i
    obtain ⟨z, e, q⟩ := q
    cases dy
    cases dx with
    | tup hs ha =>
      obtain ⟨v, e1, e2⟩ := atI_dp ha e
      exact .inr (.inl ⟨_, _, _, v, rfl, rfl, sqt_mono R.sub hs, e1, q v e2⟩)
  · rename_i xs i
    obtain ⟨z, e, q⟩ := q
    cases dy
    cases dx with
    | lst hs ha =>
      obtain ⟨v, e1, e2⟩ := atI_dp ha e
      exact .inl ⟨_, _, _, v, rfl, rfl, R.sub.seq hs, e1, q v e2⟩
  · exact q.elim
theorem Rl.thereS {K : Fg} {Hs H : Hp} {σ : St} {δ : DSt} (R : Rl K Z Hs H σ δ) {i : Nat} {s : Sl} (h : δ[i]? = some (some s)) : ∃ v, σ[i]? = some (some v) := by
  cases s with
  | sh d => obtain ⟨v, e, _⟩ := R.shr i d h; exact ⟨v, e⟩
  | ow p xs => obtain ⟨a, _, e, _⟩ := R.own i p xs h; exact ⟨_, e⟩
  | ob p o =>
    obtain ⟨f, F⟩ := R.fps
    obtain ⟨v, e, _⟩ := F.at_ i _ h rfl
    exact ⟨v, e⟩
  | xn C => obtain ⟨a, e, _⟩ := R.exn i C h; exact ⟨_, e⟩
theorem de_ixo (i : Nat) {x : Str} {b : Expr} {tb : DE} {p1 : Pos} (hb : De X Z b tb) (hN : X.N[i]? = some x := by rfl) (hv : Vis X.env.scope x := by first | exact Or.inl rfl | exact Or.inr (Or.inl rfl) | exact Or.inr (Or.inr rfl)) (hs : PlainIx b := by exact fun _ _ => rfl)
    (hd : (x == ("__debug__" : Str)) = false := by decide) (hcd : (x == ("__classdict__" : Str)) = false := by decide) : De X Z (.Subscript (.Name x p1) b pos) (dIxO i tb) := by
  refine ⟨pe_imp (pe_ix ix_seq (pe_var hN hv hd hcd) hb.run hs) fun σ H Q ⟨Hs, δ, R, q⟩ => ?_, fun δ Q Q' hq q => ?_⟩
  · unfold dIxO at q
    split at q
    · rename_i s0 e0
      obtain ⟨v0, hv⟩ := R.thereS e0
      refine ⟨_, hv, Hs, δ, R, hb.mono _ _ _ (fun d2 δ2 q v2 Hs2 H2 s2 R2 dp2 => ?_) q⟩
      split at q
      · rename_i j pp xs e
        obtain ⟨z, e1, q⟩ := q
        obtain ⟨a, ws, h1, h2, h3, h4⟩ := R2.own _ _ _ e
        rw [hv] at h1
        cases h1
        cases dp2
        obtain ⟨v, e2, e3⟩ := atI_dp h4 e1
        exact .inl ⟨_, _, _, v, rfl, rfl, SqL.of h2, e2, q v Hs2 H2 s2 R2 e3⟩
      · rename_i j d e
        obtain ⟨v, h1, h2⟩ := R2.shr _ _ e
        rw [hv] at h1
        cases h1
        exact ix_run R2 h2 dp2 (rIx_mono _ _ _ _ (fun z q v dv => q v Hs2 H2 s2 R2 dv) q)
      · exact q.elim
    · exact q.elim
  · unfold dIxO at q ⊢
    split at q
    · refine hb.mono _ _ _ (fun d δ' z => ?_) q
      split at z
      · obtain ⟨w, a, b⟩ := z
        exact ⟨w, a, hq _ _ b⟩
      · exact rIx_mono _ _ _ _ (fun _ z => hq _ _ z) z
      · exact z
    · exact q
end
end DL

namespace DL
open PySem PySem.Spec L2
section
variable {X : Cx} {Z : Ent} {pos : Pos}
/-! ### truth -/
def tru : PyData → Option Bool
  | .none => some false
  | .bool b => some b
  | .int i => some (i != 0)
  | .str y => if y.length ≤ sizeLine then some ((y.length : Int) != 0) else none
  | .list xs => some (!xs.isEmpty)
  | .tuple xs => some (!xs.isEmpty)
  | .dict _ => none
theorem isEmpty_dp {K : Fg} {H : Hp} {vs : List V} {ds : List PyData} (h : DpAll K H vs ds) : vs.isEmpty = ds.isEmpty := by
  cases h <;> rfl
theorem tru_dp {K : Fg} {H : Hp} {v : V} {d : PyData} {k : Bool} (h : Dp K H v d) (e : tru d = some k) : TruV K v H k := by
  cases h with
  | non => exact (Option.some.inj e).symm
  | bl b => exact (Option.some.inj e).symm
  | int i => exact (Option.some.inj e).symm
  | str x =>
    have e' : (if x.length ≤ sizeLine then some ((x.length : Int) != 0) else none) = some k := e
    split at e'
    · rename_i hl
      exact ⟨hl, (Option.some.inj e').symm⟩
    · cases e'
  | lst hs ha => exact .inl ⟨_, hs, by rw [isEmpty_dp ha]; exact (Option.some.inj e).symm⟩
  | tup hs ha => exact .inr (.inl ⟨_, hs, by rw [isEmpty_dp ha]; exact (Option.some.inj e).symm⟩)
  | ins _ _ _ _ _ => exact nomatch e
  | dct _ _ _ => exact nomatch e
  | fn _ => exact nomatch e
  | any _ => exact nomatch e
  | adr _ => exact nomatch e
def dTru (t : DE) : DT := fun δ Q => t δ fun d δ' => ∃ k, tru d = some k ∧ Q k δ'
theorem dt_val {a : Expr} {t : DE} (h : De X Z a t) (he : ∀ whole, isTrue a X.env whole = (do let v ← whole; standAt a.pos; holding [v] (truthy v)) := by intro _; rfl) : Dt X Z a (dTru t) := by
  refine ⟨pt_imp (pt_truth h.run he) fun σ H Q ⟨Hs, δ, R, q⟩ => ⟨Hs, δ, R, h.mono _ _ _ (fun d δ1 q v Hs1 H1 s1 R1 dp => ?_) q⟩, fun δ Q Q' hq q => h.mono _ _ _ (fun d δ' ⟨k, e, z⟩ => ⟨k, e, hq _ _ z⟩) q⟩
  obtain ⟨k, e, q⟩ := q
  exact ⟨k, tru_dp (R1.up dp) e, q Hs1 H1 s1 R1⟩
/-- a comparison as a test: it gives a truth -/
def dTst (t : DE) : DT := fun δ Q => t δ fun d δ' => match d with
  | .bool k => Q k δ'
  | _ => False
theorem dt_cmpP {e : Expr} {t : DE} {t0 : TE} (h : De X Z e t) (hp : PT X e (tTest t0)) (hi : ∀ σ H Q, lE X.K Z t σ H Q → t0 σ H Q) : Dt X Z e (dTst t) := by
  refine ⟨pt_imp hp fun σ H Q ⟨Hs, δ, R, q⟩ => hi _ _ _ ⟨Hs, δ, R, h.mono _ _ _ (fun d δ1 q v Hs1 H1 s1 R1 dp => ?_) q⟩, fun δ Q Q' hq q => h.mono _ _ _ (fun d δ' z => ?_) q⟩
  · split at q
    · cases dp
      exact ⟨_, rfl, q Hs1 H1 s1 R1⟩
    · exact q.elim
  · split at z
    · exact hq _ _ z
    · exact z
theorem lE_op {ta tb : DE} {r : D2} {r0 : R2} {a b : Expr} (ha : De X Z a ta) (hb : De X Z b tb) (hm : ∀ (d e : PyData) (Q Q' : PyData → Prop), (∀ z, Q z → Q' z) → r d e Q → r d e Q') (h1 : ∀ (d e : PyData) (x y : V) (Hs H : Hp) (σ : St) (δ : DSt) (Q : VK), Rl X.K Z Hs H σ δ → Dp X.K Hs x d → Dp X.K Hs y e →
    r d e (fun z => ∀ v Hs' H', Same Hs Hs' → Rl X.K Z Hs' H' σ δ → Dp X.K Hs' v z → Q v H') → r0 x y H Q) : ∀ σ H Q, lE X.K Z (dOp r ta tb) σ H Q → tOp r0 (lE X.K Z ta) (lE X.K Z tb) σ H Q := fun σ H Q ⟨Hs, δ, R, q⟩ => by
  refine ⟨Hs, δ, R, ha.mono _ _ _ (fun d δ1 q v Hs1 H1 s1 R1 dp => ⟨Hs1, δ1, R1, hb.mono _ _ _ (fun d2 δ2 q v2 Hs2 H2 s2 R2 dp2 => ?_) q⟩) q⟩
  refine h1 d d2 v v2 Hs2 H2 σ δ2 Q R2 (dp.up s2) dp2 (hm _ _ _ _ (fun z q v3 Hs3 H3 s3 R3 dp3 => ?_) q)
  exact q v3 Hs3 H3 ((s1.trans s2).trans s3) R3 dp3
theorem dt_cmp {a b : Expr} {ta tb : DE} {r : D2} {op : CmpOp} (ho : OpD X Z (compareOp op) r) (ha : De X Z a ta) (hb : De X Z b tb) (hm : behindInMarks op b = false := by first | exact nomark _ | rfl) : Dt X Z (.Compare a [op] [b] pos) (dTst (dOp r ta tb)) := by
  obtain ⟨r0, h0, h1⟩ := ho.ex
  exact dt_cmpP (de_cmp ho ha hb hm) (pt_cmpR h0 ha.run hb.run hm) (lE_op ha hb ho.mono h1)
/-! ### and, or, not as tests -/
def dOr (t u : DT) : DT := fun δ Q => t δ fun c δ1 => match c with
  | true => Q true δ1
  | false => u δ1 Q
def dNot (t : DT) : DT := fun δ Q => t δ fun c δ1 => Q (!c) δ1
theorem Dw.pt {e : Expr} {t : DT} (h : Dw X Z e t) : Dt X Z e t := ⟨h.run.pt, h.mono⟩
theorem dw_or1 {a : Expr} {t : DT} (h : Dt X Z a t) : Dw X Z (.BoolOp .Or [a] pos) t := ⟨pw_or1 h.run, h.mono⟩
theorem dw_or {a b : Expr} {rest : List Expr} {t u : DT} (h : Dt X Z a t) (h2 : Dw X Z (.BoolOp .Or (b :: rest) pos) u) : Dw X Z (.BoolOp .Or (a :: b :: rest) pos) (dOr t u) := by
  refine ⟨pw_imp (pw_or h.run h2.run) fun σ H Q ⟨Hs, δ, R, q⟩ => ⟨Hs, δ, R, h.mono _ _ _ (fun c δ1 q Hs1 H1 s1 R1 => ?_) q⟩, fun δ Q Q' hq q => h.mono _ _ _ (fun c δ' z => ?_) q⟩
  · cases c with
    | true =>
      rw [if_pos rfl]
      exact q Hs1 H1 s1 R1
    | false =>
      rw [if_neg Bool.false_ne_true]
      exact ⟨Hs1, δ1, R1, h2.mono _ _ _ (fun c δ2 q Hs2 H2 s2 R2 => q Hs2 H2 (s1.trans s2) R2) q⟩
  · cases c with
    | true => exact hq _ _ z
    | false => exact h2.mono _ _ _ hq z
theorem dt_not {a : Expr} {t : DT} (h : Dt X Z a t) : Dt X Z (.UnaryOp .Not a pos) (dNot t) :=
  ⟨pt_imp (pt_not h.run) fun σ H Q ⟨Hs, δ, R, q⟩ => ⟨Hs, δ, R, q⟩, fun δ Q Q' hq q => h.mono _ _ _ (fun c δ' z => hq _ _ z) q⟩
/-! ### and, or, not as values -/
def dAndV (t u : DE) : DE := fun δ Q => t δ fun d δ1 => ∃ k, tru d = some k ∧ match k with
  | true => u δ1 Q
  | false => Q d δ1
def dNotV (t : DE) : DE := fun δ Q => t δ fun d δ1 => ∃ k, tru d = some k ∧ Q (.bool (!k)) δ1
theorem de_one {a : Expr} {t : DE} {op} (h : De X Z a t) : De X Z (.BoolOp op [a] pos) t := ⟨pe_one h.run, h.mono⟩
theorem de_and {a b : Expr} {rest : List Expr} {t u : DE} (h : De X Z a t) (h2 : De X Z (.BoolOp .And (b :: rest) pos) u) : De X Z (.BoolOp .And (a :: b :: rest) pos) (dAndV t u) := by
  refine ⟨pe_imp (pe_andT h.run h2.run) fun σ H Q ⟨Hs, δ, R, q⟩ => ⟨Hs, δ, R, h.mono _ _ _ (fun d δ1 q v Hs1 H1 s1 R1 dp => ?_) q⟩, fun δ Q Q' hq q => h.mono _ _ _ (fun d δ' z => ?_) q⟩
  · obtain ⟨k, e, q⟩ := q
    refine ⟨k, tru_dp (R1.up dp) e, ?_⟩
    cases k with
    | true =>
      rw [if_pos rfl]
      exact ⟨Hs1, δ1, R1, h2.mono _ _ _ (fun c δ2 q v2 Hs2 H2 s2 R2 dp2 => q v2 Hs2 H2 (s1.trans s2) R2 dp2) q⟩
    | false =>
      rw [if_neg Bool.false_ne_true]
      exact q v Hs1 H1 s1 R1 dp
  · obtain ⟨k, e, z⟩ := z
    refine ⟨k, e, ?_⟩
    cases k with
    | true => exact h2.mono _ _ _ hq z
    | false => exact hq _ _ z
theorem de_not {a : Expr} {t : DE} (h : De X Z a t) : De X Z (.UnaryOp .Not a pos) (dNotV t) := by
  refine ⟨pe_imp (pe_notT h.run) fun σ H Q ⟨Hs, δ, R, q⟩ => ⟨Hs, δ, R, h.mono _ _ _ (fun d δ1 q v Hs1 H1 s1 R1 dp => ?_) q⟩, fun δ Q Q' hq q => h.mono _ _ _ (fun d δ' ⟨k, e, z⟩ => ⟨k, e, hq _ _ z⟩) q⟩
  obtain ⟨k, e, q⟩ := q
  exact ⟨k, tru_dp (R1.up dp) e, q _ Hs1 H1 s1 R1 (.bl _)⟩
/-! ### if .. else -/
/-! ### built-ins -/
abbrev D1 := List PyData → (PyData → Prop) → Prop
structure ClD (X : Cx) (Z : Ent) (f : Value) (r : D1) : Prop where
  ex : ∃ r0 : List V → Hp → VK → Prop, CallR X f r0 ∧ ∀ (ds : List PyData) (vs : List V) (Hs H : Hp) (σ : St) (δ : DSt) (Q : VK), Rl X.K Z Hs H σ δ → DpAll X.K Hs vs ds →
    r ds (fun z => ∀ v Hs' H', Same Hs Hs' → Rl X.K Z Hs' H' σ δ → Dp X.K Hs' v z → Q v H') → r0 vs H Q
  mono : ∀ (ds : List PyData) (Q Q' : PyData → Prop), (∀ z, Q z → Q' z) → r ds Q → r ds Q'
def dCB (r : D1) (t : DL') : DE := fun δ Q => t δ fun ds δ' => r ds fun z => Q z δ'
theorem de_bP {e : Expr} {es : List Expr} {t : DL'} {r : D1} {f : Value} (hc : ClD X Z f r) (ha : Da X Z es t) (hp : ∀ r0, CallR X f r0 → PE X e (tCB r0 (lA X.K Z t))) : De X Z e (dCB r t) := by
  obtain ⟨r0, h0, h1⟩ := hc.ex
  refine ⟨pe_imp (hp r0 h0) fun σ H Q ⟨Hs, δ, R, q⟩ => ⟨Hs, δ, R, ha.mono _ _ _ (fun ds δ1 q vs Hs1 H1 s1 R1 dps => ?_) q⟩, fun δ Q Q' hq q => ha.mono _ _ _ (fun ds δ' z => hc.mono _ _ _ (fun _ z => hq _ _ z) z) q⟩
  exact h1 ds vs Hs1 H1 σ δ1 Q R1 dps (hc.mono _ _ _ (fun z q v Hs2 H2 s2 R2 dp => q v Hs2 H2 (s1.trans s2) R2 dp) q)
theorem de_b {x : Str} {id : String} {e : Expr} {es : List Expr} {t : DL'} {r : D1} {p : Pos} (hc : ClD X Z (.builtin id) r) (hg : Gl X x) (hm : X.mg x = none) (hv : bootBuiltins x = some (.builtin id)) (ha : Da X Z (e :: es) t) (hn : x ≠ "__name__" := by decide) (hdb : (x == ("__debug__" : Str)) = false := by decide)
    (he : starEach (e :: es) X.env = (false, eval e X.env) :: starEach es X.env := by rfl) (hpl : (backTo pos (starEach es X.env)).any (·.1) = false := by rfl) : De X Z (.Call (.Name x p) (e :: es) [] pos) (dCB r t) :=
  de_bP hc ha fun _ h => pe_callB h hg hm hv ha.run hn hdb he hpl
theorem de_ty {x : Str} {T : String} {e : Expr} {es : List Expr} {t : DL'} {r : D1} {p : Pos} (hc : ClD X Z (.type T) r) (hg : Gl X x) (hm : X.mg x = none) (hv : bootBuiltins x = some (.type T)) (ha : Da X Z (e :: es) t) (hn : x ≠ "__name__" := by decide) (hdb : (x == ("__debug__" : Str)) = false := by decide)
    (he : starEach (e :: es) X.env = (false, eval e X.env) :: starEach es X.env := by rfl) (hpl : (backTo pos (starEach es X.env)).any (·.1) = false := by rfl) : De X Z (.Call (.Name x p) (e :: es) [] pos) (dCB r t) :=
  de_bP hc ha fun _ h => pe_callTy h hg hm hv ha.run hn hdb he hpl
def rAbs : D1 := fun ds Q => match ds with
  | [.int i] => Q (.int (if i < 0 then -i else i))
  | _ => False
theorem cd_abs : ClD X Z (.builtin "abs") rAbs := by
  refine ⟨⟨_, call_abs, fun ds vs Hs H σ δ Q R dps q => ?_⟩, fun ds Q Q' hq q => ?_⟩
  · unfold rAbs at q
    split at q
    · cases dps with
      | cons d1 d2 =>
        cases d1
        cases d2
        exact ⟨_, rfl, q _ Hs H (Same.refl _) R (.int _)⟩
    · exact q.elim
  · unfold rAbs at q ⊢
    split at q
    · exact hq _ q
    · exact q
def rMax : D1 := fun ds Q => match ds with
  | [.int i, .int j] => Q (.int (if j > i then j else i))
  | _ => False
def rMin : D1 := fun ds Q => match ds with
  | [.int i, .int j] => Q (.int (if j < i then j else i))
  | _ => False
theorem cd_max (hc : X.calm = true) : ClD X Z (.builtin "max") rMax := by
  refine ⟨⟨_, call_max2 hc, fun ds vs Hs H σ δ Q R dps q => ?_⟩, fun ds Q Q' hq q => ?_⟩
  · unfold rMax at q
    split at q
    · cases dps with
      | cons d1 d2 =>
        cases d1
        cases d2 with
        | cons d2 d3 =>
          cases d2
          cases d3
          exact ⟨_, _, rfl, q _ Hs H (Same.refl _) R (.int _)⟩
    · exact q.elim
  · unfold rMax at q ⊢
    split at q
    · exact hq _ q
    · exact q
theorem cd_min (hc : X.calm = true) : ClD X Z (.builtin "min") rMin := by
  refine ⟨⟨_, call_min2 hc, fun ds vs Hs H σ δ Q R dps q => ?_⟩, fun ds Q Q' hq q => ?_⟩
  · unfold rMin at q
    split at q
    · cases dps with
      | cons d1 d2 =>
        cases d1
        cases d2 with
        | cons d2 d3 =>
          cases d2
          cases d3
          exact ⟨_, _, rfl, q _ Hs H (Same.refl _) R (.int _)⟩
    · exact q.elim
  · unfold rMin at q ⊢
    split at q
    · exact hq _ q
    · exact q
def rLen : D1 := fun ds Q => match ds with
  | [.list xs] => Q (.int xs.length)
  | [.tuple xs] => Q (.int xs.length)
  | [.str x] => x.length ≤ sizeLine ∧ Q (.int x.length)
  | _ => False
theorem cd_len : ClD X Z (.builtin "len") rLen := by
  refine ⟨⟨_, call_len_seq.or call_len_str, fun ds vs Hs H σ δ Q R dps q => ?_⟩, fun ds Q Q' hq q => ?_⟩
  · unfold rLen at q
    split at q
    · cases dps with
      | cons d1 d2 =>
        cases d2
        cases d1 with
        | lst hs ha =>
          refine .inl ⟨_, _, rfl, .inl (R.sub.seq hs), ?_⟩
          rw [ha.len]
          exact q _ Hs H (Same.refl _) R (.int _)
    · cases dps with
      | cons d1 d2 =>
        cases d2
        cases d1 with
        | tup hs ha =>
          refine .inl ⟨_, _, rfl, .inr (sqt_mono R.sub hs), ?_⟩
          rw [ha.len]
          exact q _ Hs H (Same.refl _) R (.int _)
    · cases dps with
      | cons d1 d2 =>
        cases d2
        cases d1
        exact .inr ⟨_, rfl, q.1, q.2 _ Hs H (Same.refl _) R (.int _)⟩
    · exact q.elim
  · unfold rLen at q ⊢
    split at q
    · exact hq _ q
    · exact hq _ q
    · exact ⟨q.1, hq _ q.2⟩
    · exact q
/-- isinstance(e, T), T a built-in class by its name -/
def tyName : PyData → String
  | .none => "NoneType"
  | .bool _ => "bool"
  | .int _ => "int"
  | .str _ => "str"
  | .list _ => "list"
  | .tuple _ => "tuple"
  | .dict _ => "dict"
def isT (T : String) (n : String) : Bool := n == T || (n == "bool" && T == "int")
def kitFor (T : String) : Bool := sixT.all (fun n => kitB n T == some (isT T n)) && sixT.contains T && kitB "dict" T == some (isT T "dict") && !isT T "dict"
/-- no def as a value -/
def noF : PyData → Bool
  | .dict ((.bool true, _) :: _) => false
  | _ => true
theorem noF_non : noF .none = true := rfl
theorem noF_bool {b : Bool} : noF (.bool b) = true := rfl
theorem noF_int {i : Int} : noF (.int i) = true := rfl
theorem noF_str {x : Str} : noF (.str x) = true := rfl
theorem noF_list {xs : List PyData} : noF (.list xs) = true := rfl
theorem noF_tup {xs : List PyData} : noF (.tuple xs) = true := rfl
theorem noF_ins {C : Str} {xs : List Str} {ds : List PyData} : noF (insD C xs ds) = true := rfl
theorem tyx_dp {K : Fg} {H : Hp} {v : V} {d : PyData} {T : String} (h : Dp K H v d) (hf : noF d = true) (hT : kitFor T = true) : ∃ t, TyX K H v t ∧ PySem.W.kitOne K t (.type T) = some (isT T (tyName d)) := by
  simp only [kitFor, Bool.and_eq_true, List.all_eq_true, beq_iff_eq, List.contains_iff_mem, Bool.not_eq_true'] at hT
  obtain ⟨⟨⟨h6, hm⟩, hd⟩, hn⟩ := hT
  have k6 : ∀ n ∈ sixT, PySem.W.kitOne K (.type n) (.type T) = some (isT T n) := fun n m => kit_ty (h6 n m)
  cases h with
  | non => exact ⟨_, .base .non, k6 _ (by decide)⟩
  | bl b => exact ⟨_, .base (.bl b), k6 _ (by decide)⟩
  | int i => exact ⟨_, .base (.int i), k6 _ (by decide)⟩
  | str x => exact ⟨_, .base (.str x), k6 _ (by decide)⟩
  | lst hs ha =>
    rcases hs with (h | ⟨o, h⟩) | ⟨o, its, n, h, c, _⟩
    · exact ⟨_, .base (.lst h), k6 _ (by decide)⟩
    · exact ⟨_, .base (.frz h), k6 _ (by decide)⟩
    · exact ⟨_, .kList h c, k6 _ (by decide)⟩
  | tup hs ha =>
    rcases hs with (h | ⟨o, h⟩) | ⟨o, its, n, h, c, _⟩
    · exact ⟨_, .base (.tup h), k6 _ (by decide)⟩
    · exact ⟨_, .fTuple h, k6 _ (by decide)⟩
    · exact ⟨_, .kTuple h c, k6 _ (by decide)⟩
  | ins ok h1 h2 h3 h4 =>
    refine ⟨_, .base (.ins h1 ok.cl ok.ha ok.hn ok.tk ok.hm), ?_⟩
    show _ = some (isT T "dict")
    rw [hn]
    exact ok.no T hm
  | dct h1 h2 h3 => exact ⟨_, .base (.dK h1), kit_ty hd⟩
  | fn f => cases hf
  | any _ => cases hf
  | adr _ => cases hf
def dIsi (T : String) (t : DE) : DE := fun δ Q => t δ fun d δ' => noF d = true ∧ Q (.bool (isT T (tyName d))) δ'
theorem de_isi {e : Expr} {t : DE} {x : Str} {T : String} {p p2 : Pos} (ha : De X Z e t) (hk : kitFor T = true) (hg : Gl X "isinstance") (hm : X.mg "isinstance" = none) (hgT : Gl X x) (hmT : X.mg x = none) (hvT : bootBuiltins x = some (.type T))
    (hv : bootBuiltins "isinstance" = some (.builtin "isinstance")) (hnT : x ≠ "__name__" := by decide) (hdT : (x == ("__debug__" : Str)) = false := by decide)
    (h1 : starEach [e, .Name x p2] X.env = (false, eval e X.env) :: starEach [.Name x p2] X.env := by rfl) (h2 : starEach [.Name x p2] X.env = (false, eval (.Name x p2) X.env) :: starEach [] X.env := by rfl) (hpl : (backTo pos (starEach [.Name x p2] X.env)).any (·.1) = false := by rfl) :
    De X Z (.Call (.Name "isinstance" p) [e, .Name x p2] [] pos) (dIsi T t) := by
  have hT : PE X (.Name x p2) (tC (.ty T)) := pe_bltn hgT hmT hvT rfl hnT hdT
  refine ⟨pe_imp (pe_callB call_isi hg hm hv (pa_cons ha.run (pa_cons hT pa_nil h2) h1) (by decide) (by decide) h1 hpl) fun σ H Q ⟨Hs, δ, R, q⟩ => ⟨Hs, δ, R, ha.mono _ _ _ (fun d δ1 q v Hs1 H1 s1 R1 dp => ?_) q⟩, fun δ Q Q' hq q => ha.mono _ _ _ (fun d δ' z => ⟨z.1, hq _ _ z.2⟩) q⟩
  obtain ⟨t, h1, h2⟩ := tyx_dp (R1.up dp) q.1 hk
  exact ⟨v, .ty T, t, .type T, _, rfl, .ty T, h1, h2, q.2 _ Hs1 H1 s1 R1 (.bl _)⟩
end
end DL

namespace DL
open PySem PySem.Spec L2
/-! ### defs: promises by data -/
inductive Res where
  | d (d : PyData)
  | o (xs : List PyData)
  | b (o : Ob)
def ResOk (K : Fg) (Z : Ent) (Hs H : Hp) (σ : St) (δ : DSt) (v : V) : Res → Prop
  | .d d => Dp K Hs v d
  | .o xs => FrO K Z Hs H σ δ v xs
  | .b o => ∃ A, FrA K Z Hs H σ δ v (.ob false o) A
/-- shared data handed in; nothing is changed -/
abbrev FP := List PyData → (Res → Prop) → Prop
def spP (K : Fg) (f : FP) : Sp := fun vs H Q _ => ∃ Hs ds, Same Hs H ∧ DpAll K Hs vs ds ∧ f ds fun r => ∀ v Hs' H', Rl K (.at H Hs [] []) Hs' H' [] [] → ResOk K (.at H Hs [] []) Hs' H' [] [] v r → Q v H'
/-- a list of the caller's own handed in first, which may be changed; then shared data -/
abbrev FB := List PyData → List PyData → (Res → List PyData → Prop) → Prop
def spB (K : Fg) (f : FB) : Sp := fun vs H Q _ => ∃ Hs b ws xs us ds, vs = .ref b :: us ∧ Same Hs H ∧ Hs b = none ∧ H b = some (.lst ws) ∧ DpAll K Hs ws xs ∧ DpAll K Hs us ds ∧
  f xs ds fun r xs' => ∀ v Hs' H', Rl K (.at H Hs [b] [some (.ref b)]) Hs' H' [some (.ref b)] [some (.ow true xs')] → ResOk K (.at H Hs [b] [some (.ref b)]) Hs' H' [some (.ref b)] [some (.ow true xs')] v r → Q v H'
section
variable {K : Fg} {Z : Ent} {Hs H Hs' H' : Hp} {σ : St} {δ : DSt}
theorem Rl.after (R : Rl K Z Hs H σ δ) (C : Rl K (.at H Hs [] []) Hs' H' [] []) : Rl K Z Hs' H' σ δ :=
  R.grow C.ext C.sub (fun b o e => C.fr b o e (fun z => nomatch z)) fun b n => C.new b n
theorem FrA.after {v : V} {s : Sl} {A : List Addr} (R : Rl K Z Hs H σ δ) (C : Rl K (.at H Hs [] []) Hs' H' [] []) (f : FrA K (.at H Hs [] []) Hs' H' [] [] v s A) : FrA K Z Hs' H' σ δ v s A :=
  FrA.fresh R (R.after C) f.at_ (fun a m => (f.mine a m).1) f.hs fun f' F => F.back R fun b o e => C.fr b o e (fun z => nomatch z)
theorem FrO.after {v : V} {xs : List PyData} (R : Rl K Z Hs H σ δ) (C : Rl K (.at H Hs [] []) Hs' H' [] []) (f : FrO K (.at H Hs [] []) Hs' H' [] [] v xs) : FrO K Z Hs' H' σ δ v xs := by
  obtain ⟨A, f⟩ := f
  exact ⟨A, f.after R C⟩
/-- behind a call that was handed the owned thing of slot i -/
theorem Rl.afterA {v : V} {i : Nat} {s s' : Sl} {f : Nat → List Addr} (R : Rl K Z Hs H σ δ) (F : Fps K Z Hs H σ δ f) (h : δ[i]? = some (some s)) (ho : s.own = true) (hv : σ[i]? = some (some v)) (ho' : s'.own = true) (C : Rl K (.at H Hs (f i) [some v]) Hs' H' [some v] [some s']) :
    Rl K Z Hs' H' σ (δ.set i (some (s'.as s.prm))) := by
  obtain ⟨g, G⟩ := C.fps
  obtain ⟨v', g1, g2⟩ := G.at_ 0 s' rfl ho'
  cases g1
  refine R.chg (A := g 0) h ho hv (Sl.as_prm ho') C.ext C.sub (fun f2 F2 b o n e => C.fr b o e (by rw [F.same F2 i]; exact n)) (fun b n => ?_) (fun b n => C.new b n) (g2.as _) (fun f2 F2 a m => ?_) (G.hs 0)
  · by_cases q : b ∈ f i
    · exact (C.hid b q).2
    · cases e : H b with
      | none => exact absurd e n
      | some o =>
        rw [C.fr b o e q]
        exact fun z => nomatch z
  · rcases G.old 0 a m with z | z
    · exact .inr z
    · exact .inl (by rw [← F.same F2 i]; exact z.1)
theorem FrA.afterA {v u : V} {i : Nat} {s s' t : Sl} {A : List Addr} {f : Nat → List Addr} (R : Rl K Z Hs H σ δ) (F : Fps K Z Hs H σ δ f) (h : δ[i]? = some (some s)) (ho : s.own = true) (hv : σ[i]? = some (some v)) (ho' : s'.own = true) (C : Rl K (.at H Hs (f i) [some v]) Hs' H' [some v] [some s'])
    (c : FrA K (.at H Hs (f i) [some v]) Hs' H' [some v] [some s'] u t A) : FrA K Z Hs' H' σ (δ.set i (some (s'.as s.prm))) u t A := by
  obtain ⟨g, G⟩ := C.fps
  obtain ⟨v', g1, g2⟩ := G.at_ 0 s' rfl ho'
  cases g1
  refine ⟨c.at_, c.hs, fun a m => ⟨R.h0n (c.mine a m).1, R.won (c.mine a m).1⟩, fun f' F' j a m m' => ?_, fun a o m => R.nog (c.mine a m).1⟩
  by_cases q : j = i
  · subst q
    obtain ⟨v', k1, k2⟩ := F'.at_ j _ (List.getElem?_set_self (get_lt h)) (by rw [Sl.as_own]; exact ho')
    rw [hv] at k1
    cases k1
    rw [k2.uniq (g2.as _)] at m'
    exact c.dis g G 0 a m m'
  · have e := F.eqj F' j (List.getElem?_set_ne (fun z => q z.symm)) (fun _ z => z) fun b mb => by
      cases e : H b with
      | none => exact absurd e (F.live j mb)
      | some o => exact C.fr b o e (F.dis j i b q mb)
    rw [e] at m'
    exact F.live j m' (c.mine a m).1
/-- the same for a list -/
theorem Rl.afterB {b : Addr} {i : Nat} {p : Bool} {xs xs' : List PyData} (R : Rl K Z Hs H σ δ) (h : δ[i]? = some (some (Sl.ow p xs))) (hb : σ[i]? = some (some (V.ref b))) (C : Rl K (.at H Hs [b] [some (.ref b)]) Hs' H' [some (.ref b)] [some (.ow true xs')]) :
    Rl K Z Hs' H' σ (δ.set i (some (.ow p xs'))) := by
  obtain ⟨f, F⟩ := R.fps
  exact R.afterA F h rfl hb (s' := .ow true xs') rfl (by rw [F.lst h hb]; exact C)
theorem FrO.afterB {v : V} {b : Addr} {i : Nat} {p : Bool} {xs xs' zs : List PyData} (R : Rl K Z Hs H σ δ) (h : δ[i]? = some (some (Sl.ow p xs))) (hb : σ[i]? = some (some (V.ref b))) (C : Rl K (.at H Hs [b] [some (.ref b)]) Hs' H' [some (.ref b)] [some (.ow true xs')]) (c : FrO K (.at H Hs [b] [some (.ref b)]) Hs' H' [some (.ref b)] [some (.ow true xs')] v zs) : FrO K Z Hs' H' σ (δ.set i (some (.ow p xs'))) v zs := by
  obtain ⟨f, F⟩ := R.fps
  obtain ⟨A, c⟩ := c
  exact ⟨A, FrA.afterA R F h rfl hb (s' := .ow true xs') rfl (by rw [F.lst h hb]; exact C) (by rw [F.lst h hb]; exact c)⟩
end
section
variable {X : Cx} {Z : Ent} {pos : Pos}
/-! ### calls of defs -/
def asD : Res → PyData
  | .d d => d
  | .o xs => .list xs
  | .b o => frzD o
def dCall (f : FP) (dd : List PyData) (t : DL') : DE := fun δ Q => t δ fun ds δ' => f (ds ++ dd) fun r => Q (asD r) δ'
def dCallO (f : FP) (dd : List PyData) (t : DL') : DL' := fun δ Q => t δ fun ds δ' => f (ds ++ dd) fun r => match r with
  | .o xs => Q xs δ'
  | .d _ => False
  | .b _ => False
class FMono (f : FP) : Prop where
  m : ∀ (ds : List PyData) (Q Q' : Res → Prop), (∀ r, Q r → Q' r) → f ds Q → f ds Q'
class BMono (f : FB) : Prop where
  m : ∀ (xs ds : List PyData) (Q Q' : Res → List PyData → Prop), (∀ r y, Q r y → Q' r y) → f xs ds Q → f xs ds Q'
section
variable {CX : CXT} {k : Nat} {g : Addr} {fd : FuncData} {ps : List Str} {f : FP} {fb : FB} {x : Str} {e : Expr} {es : List Expr} {t : DL'} {p : Pos} {dvs : List V} {dus : List Value} {dd : List PyData}
theorem call_run {σ : St} {H : Hp} {Q : VK} (fm : FMono f) (hdd : ∀ H, DpAll X.K H dvs dd) {Hs : Hp} {δ : DSt} (R : Rl X.K Z Hs H σ δ) {vs : List V} {ds : List PyData} (dps : DpAll X.K Hs vs ds)
    (q : f (ds ++ dd) fun r => ∀ v Hs' H', Same Hs Hs' → Rl X.K Z Hs' H' σ δ → ResOk X.K Z Hs' H' σ δ v r → Q v H') : spP X.K f (vs ++ dvs) H Q E0 := by
  refine ⟨Hs, ds ++ dd, R.sub, dps.app (hdd Hs), fm.m _ _ _ (fun r q v Hs' H' C c => ?_) q⟩
  refine q v Hs' H' C.ext (R.after C) ?_
  cases r with
  | d d => exact c
  | o xs => exact FrO.after R C c
  | b o => exact c.elim fun A c => ⟨A, c.after R C⟩
theorem de_call (F : FnOk X.prog X.w X.K X.mg X.base CX0 k g fd ps (spP X.K f)) (fm : FMono f) (hr : Room k X.A) (hg : Gl X x) (hm : X.mg x = some (.ref g)) (hk : PySem.W.keepIn X.K (.ref g) = true) (hb : Binds X.K fd ps dus) (hd : Vals dvs dus) (hdd : ∀ H, DpAll X.K H dvs dd)
    (ha : Da X Z (e :: es) t) (hdb : (x == ("__debug__" : Str)) = false := by decide) (he : starEach (e :: es) X.env = (false, eval e X.env) :: starEach es X.env := by rfl) (hpl : (backTo pos (starEach es X.env)).any (·.1) = false := by rfl) :
    De X Z (.Call (.Name x p) (e :: es) [] pos) (dCall f dd t) := by
  refine ⟨pe_imp (pe_call F hr hg hm hk hb hd pass0 ha.run hdb he hpl) fun σ H Q ⟨Hs, δ, R, q⟩ => ⟨Hs, δ, R, ha.mono _ _ _ (fun ds δ1 q vs Hs1 H1 s1 R1 dps => ?_) q⟩, fun δ Q Q' hq q => ha.mono _ _ _ (fun ds δ' z => fm.m _ _ _ (fun r z => hq _ _ z) z) q⟩
  refine call_run fm hdd R1 dps (fm.m _ _ _ (fun r q v Hs2 H2 s2 R2 c => ?_) q)
  cases r with
  | d d => exact q v Hs2 H2 (s1.trans s2) R2 c
  | o xs =>
    obtain ⟨Hs3, s3, R3, dp⟩ := FrO.share R2 c
    exact q v Hs3 H2 ((s1.trans s2).trans s3) R3 dp
  | b o =>
    obtain ⟨A, c⟩ := c
    obtain ⟨Hs3, s3, R3, dp⟩ := FrA.share R2 c
    exact q v Hs3 H2 ((s1.trans s2).trans s3) R3 dp
theorem do_call (F : FnOk X.prog X.w X.K X.mg X.base CX0 k g fd ps (spP X.K f)) (fm : FMono f) (hr : Room k X.A) (hg : Gl X x) (hm : X.mg x = some (.ref g)) (hk : PySem.W.keepIn X.K (.ref g) = true) (hb : Binds X.K fd ps dus) (hd : Vals dvs dus) (hdd : ∀ H, DpAll X.K H dvs dd)
    (ha : Da X Z (e :: es) t) (hdb : (x == ("__debug__" : Str)) = false := by decide) (he : starEach (e :: es) X.env = (false, eval e X.env) :: starEach es X.env := by rfl) (hpl : (backTo pos (starEach es X.env)).any (·.1) = false := by rfl) :
    Do X Z (.Call (.Name x p) (e :: es) [] pos) (dCallO f dd t) := by
  refine ⟨pe_imp (pe_call F hr hg hm hk hb hd pass0 ha.run hdb he hpl) fun σ H Q ⟨Hs, δ, R, q⟩ => ⟨Hs, δ, R, ha.mono _ _ _ (fun ds δ1 q vs Hs1 H1 s1 R1 dps => ?_) q⟩, fun δ Q Q' hq q => ha.mono _ _ _ (fun ds δ' z => fm.m _ _ _ (fun r z => ?_) z) q⟩
  · refine call_run fm hdd R1 dps (fm.m _ _ _ (fun r q v Hs2 H2 s2 R2 c => ?_) q)
    cases r with
    | d d => exact q.elim
    | o xs => exact q v Hs2 H2 (s1.trans s2) R2 c
    | b o => exact q.elim
  · cases r with
    | d d => exact z
    | o xs => exact hq _ _ z
    | b o => exact z
/-- an owned list handed in first -/
def dCallB (i : Nat) (f : FB) (t : DL') : DE := fun δ Q => match δ[i]? with
  | some (some (.ow _ _)) => t δ fun ds δ' => match δ'[i]? with
    | some (some (.ow p xs)) => f xs ds fun r xs' => Q (asD r) (δ'.set i (some (.ow p xs')))
    | _ => False
  | _ => False
theorem de_callB (i : Nat) {y : Str} {py : Pos} (F : FnOk X.prog X.w X.K X.mg X.base CX0 k g fd ps (spB X.K fb)) (fm : BMono fb) (hr : Room k X.A) (hg : Gl X x) (hm : X.mg x = some (.ref g)) (hk : PySem.W.keepIn X.K (.ref g) = true) (hb : Binds X.K fd ps []) (ha : Da X Z es t)
    (hN : X.N[i]? = some y := by rfl) (hv : Vis X.env.scope y := by first | exact Or.inl rfl | exact Or.inr (Or.inl rfl) | exact Or.inr (Or.inr rfl)) (hdy : (y == ("__debug__" : Str)) = false := by decide) (hcd : (y == ("__classdict__" : Str)) = false := by decide)
    (hdb : (x == ("__debug__" : Str)) = false := by decide) (he : starEach (.Name y py :: es) X.env = (false, eval (.Name y py) X.env) :: starEach es X.env := by rfl) (hpl : (backTo pos (starEach es X.env)).any (·.1) = false := by rfl) :
    De X Z (.Call (.Name x p) (.Name y py :: es) [] pos) (dCallB i fb t) := by
  refine ⟨pe_imp (pe_call F hr hg hm hk hb .nil pass0 (pa_cons (pe_var hN hv hdy hcd) ha.run he) hdb he hpl) fun σ H Q ⟨Hs, δ, R, q⟩ => ?_, fun δ Q Q' hq q => ?_⟩
  · unfold dCallB at q
    split at q
    · rename_i p0 xs0 e0
      obtain ⟨b, ws0, hv, _⟩ := R.own _ _ _ e0
      refine ⟨.ref b, hv, Hs, δ, R, ha.mono _ _ _ (fun ds δ1 q vs Hs1 H1 s1 R1 dps => ?_) q⟩
      split at q
      · rename_i p1 xs e1
        obtain ⟨b', ws, h1, h2, h3, h4⟩ := R1.own _ _ _ e1
        rw [hv] at h1
        cases h1
        refine ⟨Hs1, b, ws, xs, vs, ds, by rw [List.append_nil], R1.sub, h3, h2, h4, dps, fm.m _ _ _ _ (fun r xs' q v Hs2 H2 C c => ?_) q⟩
        have R2 := R1.afterB e1 hv C
        cases r with
        | d d => exact q v Hs2 H2 (s1.trans C.ext) R2 c
        | o zs =>
          obtain ⟨Hs3, s3, R3, dp⟩ := FrO.share R2 (FrO.afterB R1 e1 hv C c)
          exact q v Hs3 H2 ((s1.trans C.ext).trans s3) R3 dp
        | b o =>
          obtain ⟨A, c⟩ := c
          obtain ⟨f, F⟩ := R1.fps
          have c2 := FrA.afterA R1 F e1 rfl hv (s' := .ow true xs') rfl (by rw [F.lst e1 hv]; exact C) (by rw [F.lst e1 hv]; exact c)
          obtain ⟨Hs3, s3, R3, dp⟩ := FrA.share R2 c2
          exact q v Hs3 H2 ((s1.trans C.ext).trans s3) R3 dp
      · exact q.elim
    · exact q.elim
  · unfold dCallB at q ⊢
    split at q
    · refine ha.mono _ _ _ (fun ds δ' z => ?_) q
      split at z
      · exact fm.m _ _ _ _ (fun r y z => hq _ _ z) z
      · exact z
    · exact q
end
/-! ### statements -/
structure DEnds where
  nx : DSt → Prop
  rt : PyData → DSt → Prop
  ro : Sl → DSt → Prop
  bk : DSt → Prop
  ct : DSt → Prop
structure EndsOk (K : Fg) (Z : Ent) (Hs0 : Hp) (D : Ends) (N : DEnds) : Prop where
  nx : ∀ σ δ Hs H, Same Hs0 Hs → Rl K Z Hs H σ δ → N.nx δ → D.nx σ H
  rt : ∀ σ δ Hs H v d, Same Hs0 Hs → Rl K Z Hs H σ δ → Dp K Hs v d → N.rt d δ → D.rt v H
  ro : ∀ σ δ Hs H v s, Same Hs0 Hs → Rl K Z Hs H σ δ → (s.prm = false ∧ ∃ A, FrA K Z Hs H σ δ v s A) → N.ro s δ → D.rt v H
  bk : ∀ σ δ Hs H, Same Hs0 Hs → Rl K Z Hs H σ δ → N.bk δ → D.bk σ H
  ct : ∀ σ δ Hs H, Same Hs0 Hs → Rl K Z Hs H σ δ → N.ct δ → D.ct σ H
theorem EndsOk.up {K : Fg} {Hs Hs' : Hp} {D : Ends} {N : DEnds} (h : EndsOk K Z Hs D N) (e : Same Hs Hs') : EndsOk K Z Hs' D N :=
  ⟨fun σ δ a b s => h.nx σ δ a b (e.trans s), fun σ δ a b v d s => h.rt σ δ a b v d (e.trans s), fun σ δ a b v d s => h.ro σ δ a b v d (e.trans s), fun σ δ a b s => h.bk σ δ a b (e.trans s), fun σ δ a b s => h.ct σ δ a b (e.trans s)⟩
abbrev DS := DEnds → DSt → Prop
def lS (K : Fg) (Z : Ent) (t : DS) : TS := fun D σ H => ∃ Hs δ N, Rl K Z Hs H σ δ ∧ EndsOk K Z Hs D N ∧ t N δ
structure Ds (X : Cx) (Z : Ent) (st : Stmt) (t : DS) : Prop where
  run : PS X st (lS X.K Z t)
structure Dss (X : Cx) (Z : Ent) (st : List Stmt) (t : DS) : Prop where
  run : PSs X st (lS X.K Z t)
def dNx : DS := fun N δ => N.nx δ
def dSeq (t u : DS) : DS := fun N δ => t { N with nx := u N } δ
theorem dss_nil : Dss X Z [] dNx := ⟨pss_imp pss_nil fun D σ H ⟨Hs, δ, N, R, ok, q⟩ => ok.nx σ δ Hs H (Same.refl _) R q⟩
theorem dss_cons {st : Stmt} {rest : List Stmt} {t u : DS} (h1 : Ds X Z st t) (h2 : Dss X Z rest u) : Dss X Z (st :: rest) (dSeq t u) := by
  refine ⟨pss_imp (pss_cons h1.run h2.run) fun D σ H ⟨Hs, δ, N, R, ok, q⟩ => ?_⟩
  refine ⟨Hs, δ, { N with nx := u N }, R, ⟨fun σ' δ' Hs' H' s R' q => ?_, ok.rt, ok.ro, ok.bk, ok.ct⟩, q⟩
  exact ⟨Hs', δ', N, R', ok.up s, q⟩
theorem dss_one {st : Stmt} {t : DS} (h1 : Ds X Z st t) : Dss X Z [st] t := ⟨pss_one h1.run⟩
def dNever : DS := fun _ _ => False
theorem ds_never {st : Stmt} : Ds X Z st dNever := ⟨ps_imp ps_never fun D σ H ⟨Hs, δ, N, R, ok, q⟩ => q⟩
def dRet (t : DE) : DS := fun N δ => t δ fun d δ' => N.rt d δ'
theorem ds_ret {e : Expr} {t : DE} (h : De X Z e t) : Ds X Z (.Return (some e) pos) (dRet t) :=
  ⟨ps_imp (ps_ret h.run) fun D σ H ⟨Hs, δ, N, R, ok, q⟩ => ⟨Hs, δ, R, h.mono _ _ _ (fun d δ' q v Hs' H' s R' dp => ok.rt σ δ' Hs' H' v d s R' dp q) q⟩⟩
def dRetO (t : DL') : DS := fun N δ => t δ fun d δ' => N.ro (.ow false d) δ'
theorem ds_retO {e : Expr} {t : DL'} (h : Do X Z e t) : Ds X Z (.Return (some e) pos) (dRetO t) :=
  ⟨ps_imp (ps_ret h.run) fun D σ H ⟨Hs, δ, N, R, ok, q⟩ => ⟨Hs, δ, R, h.mono _ _ _ (fun d δ' q v Hs' H' s R' dp => ok.ro σ δ' Hs' H' v _ s R' ⟨rfl, dp⟩ q) q⟩⟩
def dDrop (t : DE) : DS := fun N δ => t δ fun _ δ' => N.nx δ'
theorem ds_expr {e : Expr} {t : DE} (h : De X Z e t) (hs : swapsWith e none pos.line X.env = pure false := by rfl) : Ds X Z (.Expr e pos) (dDrop t) :=
  ⟨ps_imp (ps_expr h.run hs) fun D σ H ⟨Hs, δ, N, R, ok, q⟩ => ⟨Hs, δ, R, h.mono _ _ _ (fun d δ' q v Hs' H' s R' dp => ok.nx σ δ' Hs' H' s R' q) q⟩⟩
def dIfS (c : DT) (t u : DS) : DS := fun N δ => c δ fun k δ' => match k with
  | true => t N δ'
  | false => u N δ'
theorem ds_if {c : Expr} {a b : List Stmt} {tc : DT} {t u : DS} (hc : Dt X Z c tc) (ha : Dss X Z a t) (hb : Dss X Z b u) : Ds X Z (.If c a b pos) (dIfS tc t u) := by
  refine ⟨ps_imp (ps_if hc.run ha.run hb.run) fun D σ H ⟨Hs, δ, N, R, ok, q⟩ => ⟨Hs, δ, R, hc.mono _ _ _ (fun k δ' q Hs' H' s R' => ?_) q⟩⟩
  cases k with
  | true =>
    rw [if_pos rfl]
    exact ⟨Hs', δ', N, R', ok.up s, q⟩
  | false =>
    rw [if_neg Bool.false_ne_true]
    exact ⟨Hs', δ', N, R', ok.up s, q⟩
/-! ### targets -/
abbrev DG := PyData → DSt → (DSt → Prop) → Prop
abbrev DGs := List PyData → DSt → (DSt → Prop) → Prop
def Agree (ts : List Nat) (σ σ' : St) : Prop := σ'.length = σ.length ∧ ∀ j, j ∉ ts → σ'[j]? = σ[j]?
theorem Agree.refl {ts : List Nat} {σ : St} : Agree ts σ σ := ⟨rfl, fun _ _ => rfl⟩
theorem Agree.trans {ts us : List Nat} {σ σ1 σ2 : St} (a : Agree ts σ σ1) (b : Agree us σ1 σ2) : Agree (ts ++ us) σ σ2 := ⟨b.1.trans a.1, fun j h => by
  rw [List.mem_append, not_or] at h
  rw [b.2 j h.2, a.2 j h.1]⟩
theorem agree_set {σ : St} {i : Nat} {v : Option V} : Agree [i] σ (σ.set i v) := ⟨List.length_set, fun j h => by
  rw [List.getElem?_set_ne]
  intro e
  exact h (by rw [e]; exact List.mem_singleton_self _)⟩
def lG (K : Fg) (Z : Ent) (ts : List Nat) (t : DG) : TG := fun v σ H Q => ∃ Hs δ d, Rl K Z Hs H σ δ ∧ Dp K Hs v d ∧ t d δ fun δ' => ∀ σ', Rl K Z Hs H σ' δ' → Agree ts σ σ' → Q σ' H
structure Dg (X : Cx) (Z : Ent) (tg : Expr) (ts : List Nat) (t : DG) : Prop where
  run : PG X tg (lG X.K Z ts t)
  mono : ∀ (d : PyData) (δ : DSt) (Q Q' : DSt → Prop), (∀ δ', Q δ' → Q' δ') → t d δ Q → t d δ Q'
def gNm (i : Nat) : DG := fun d δ Q => Q (δ.set i (some (.sh d)))
theorem pg_imp {tg : Expr} {t t' : TG} (h : PG X tg t) (i : ∀ v σ H Q, t' v σ H Q → t v σ H Q) : PG X tg t' := ⟨fun pins s σ H v u Q I r h' => h.run pins s σ H v u Q I r (i v σ H Q h')⟩
theorem dg_name {i : Nat} {x : Str} (hN : X.N.Nodup) (hi : X.N[i]? = some x) (hx : Loc X.env.scope x) (hf : X.fn x = true ∨ X.env.scope.names.lookup x = some .local := by first | exact .inl rfl | exact .inr rfl | assumption) : Dg X Z (.Name x pos) [i] (gNm i) :=
  ⟨pg_imp (pg_name hN hi hx hf) fun v σ H Q ⟨Hs, δ, d, R, dp, q⟩ => q _ (R.set dp) agree_set, fun d δ Q Q' hq q => hq _ q⟩
/-! ### assignments -/
def dSet (i : Nat) (t : DE) : DS := fun N δ => t δ fun d δ' => N.nx (δ'.set i (some (.sh d)))
theorem ds_set {i : Nat} {x : Str} {e : Expr} {t : DE} {pos' : Pos} (hN : X.N.Nodup) (hi : X.N[i]? = some x) (hx : Loc X.env.scope x) (he : De X Z e t) (hs : swapsWith e (some (.Name x pos')) pos.line X.env = pure false := by rfl) (hf : X.fn x = true ∨ X.env.scope.names.lookup x = some .local := by first | exact .inl rfl | exact .inr rfl | assumption) :
    Ds X Z (.Assign [.Name x pos'] e pos) (dSet i t) :=
  ⟨ps_imp (ps_set hN hi hx he.run hs hf) fun D σ H ⟨Hs, δ, N, R, ok, q⟩ => ⟨Hs, δ, R, he.mono _ _ _ (fun d δ' q v Hs' H' s R' dp => ok.nx _ _ Hs' H' s (R'.set dp) q) q⟩⟩
def dSetO (i : Nat) (t : DL') : DS := fun N δ => t δ fun xs δ' => N.nx (δ'.set i (some (.ow false xs)))
theorem ds_setO {i : Nat} {x : Str} {e : Expr} {t : DL'} {pos' : Pos} (hN : X.N.Nodup) (hi : X.N[i]? = some x) (hx : Loc X.env.scope x) (he : Do X Z e t) (hs : swapsWith e (some (.Name x pos')) pos.line X.env = pure false := by rfl) (hf : X.fn x = true ∨ X.env.scope.names.lookup x = some .local := by first | exact .inl rfl | exact .inr rfl | assumption) :
    Ds X Z (.Assign [.Name x pos'] e pos) (dSetO i t) :=
  ⟨ps_imp (ps_set hN hi hx he.run hs hf) fun D σ H ⟨Hs, δ, N, R, ok, q⟩ => ⟨Hs, δ, R, he.mono _ _ _ (fun d δ' q v Hs' H' s R' f => ok.nx _ _ Hs' H' s (R'.setO f) q) q⟩⟩
def dPar (i j : Nat) (t : DL') : DS := fun N δ => t δ fun ds δ' => match ds with
  | [d, e] => N.nx ((δ'.set i (some (.sh d))).set j (some (.sh e)))
  | _ => False
theorem ds_par {i j : Nat} {x y : Str} {a b : Expr} {t : DL'} {px py pt : Pos} {kt k2 pt2} (hc : X.calm = true) (hN : X.N.Nodup) (hi : X.N[i]? = some x) (hj : X.N[j]? = some y) (hij : i ≠ j)
    (hx : X.env.scope.names.lookup x = some .local) (hy : X.env.scope.names.lookup y = some .local) (ha : Da X Z [a, b] t)
    (hp : ∀ ta, PA X [a, b] ta → PS X (.Assign [.Tuple [.Name x px, .Name y py] kt pt] (.Tuple [a, b] k2 pt2) pos) (tPar i j ta)) :
    Ds X Z (.Assign [.Tuple [.Name x px, .Name y py] kt pt] (.Tuple [a, b] k2 pt2) pos) (dPar i j t) := by
  refine ⟨ps_imp (hp _ ha.run) fun D σ H ⟨Hs, δ, N, R, ok, q⟩ => ⟨Hs, δ, R, ha.mono _ _ _ (fun ds δ' q vs Hs' H' s R' dps => ?_) q⟩⟩
  split at q
  · cases dps with
    | cons d1 d2 =>
      cases d2 with
      | cons d2 d3 =>
        cases d3
        exact ⟨_, _, rfl, ok.nx _ _ Hs' H' s ((R'.set d1).set d2) q⟩
  · exact q.elim
/-- bag[k] = e -/
def dSetIx (i : Nat) (t ti : DE) : DS := fun N δ => t δ fun d δ1 => match δ1[i]? with
  | some (some (.ow _ _)) => ti δ1 fun e δ2 => match e, δ2[i]? with
    | .int k, some (some (.ow p xs)) => ∃ j, ixN xs.length k = some j ∧ N.nx (δ2.set i (some (.ow p (xs.set j d))))
    | _, _ => False
  | _ => False
theorem ds_setix (i : Nat) {x : Str} {e ix : Expr} {t ti : DE} {p1 p2 : Pos} (he : De X Z e t) (hi : De X Z ix ti) (hN : X.N[i]? = some x := by rfl) (hv : Vis X.env.scope x := by first | exact Or.inl rfl | exact Or.inr (Or.inl rfl) | exact Or.inr (Or.inr rfl))
    (hd : (x == ("__debug__" : Str)) = false := by decide) (hcd : (x == ("__classdict__" : Str)) = false := by decide)
    (ha : ∀ v, assign (.Subscript (.Name x p1) ix p2) X.env v = (do
      let ov ← holding [v] (eval (.Name x p1) X.env)
      let iv ← holding [v, ov] (eval ix X.env)
      standAt p2
      holding [v, ov, iv] (setItem ov iv v)
      release [v, ov, iv] []) := by intro _; rfl)
    (hs : swapsWithSole [.Subscript (.Name x p1) ix p2] e pos.line X.env = pure false := by rfl) (hw : swappedStores [.Subscript (.Name x p1) ix p2] e X.env = pure none := by rfl)
    (h1 : (assignEach [.Subscript (.Name x p1) ix p2] X.env).map (·.2) = [assign (.Subscript (.Name x p1) ix p2) X.env] := by rfl) : Ds X Z (.Assign [.Subscript (.Name x p1) ix p2] e pos) (dSetIx i t ti) := by
  refine ⟨ps_imp (ps_asg he.run (pg_sub (pe_var hN hv hd hcd) hi.run set_list ha) hs hw h1) fun D σ H ⟨Hs, δ, N, R, ok, q⟩ => ⟨Hs, δ, R, he.mono _ _ _ (fun d δ1 q v Hs1 H1 s1 R1 dp => ?_) q⟩⟩
  split at q
  · rename_i p0 xs0 e0
    obtain ⟨a, ws0, hv, _⟩ := R1.own _ _ _ e0
    refine ⟨.ref a, hv, Hs1, δ1, R1, hi.mono _ _ _ (fun d2 δ2 q v2 Hs2 H2 s2 R2 dp2 => ?_) q⟩
    split at q
    · rename_i k p xs e1
      obtain ⟨j, ej, q⟩ := q
      obtain ⟨a', ws, h1, h2, h3, h4⟩ := R2.own _ _ _ e1
      rw [hv] at h1
      cases h1
      cases dp2
      refine ⟨a, ws, k, j, rfl, rfl, h2, by rw [h4.len]; exact ej, ?_⟩
      exact ok.nx _ _ Hs2 _ (s1.trans s2) (R2.mut e1 hv (h4.set (dp.up s2) j)) q
    · exact q.elim
  · exact q.elim
end
end DL

namespace DL
open PySem PySem.Spec L2
/-! ### what is walked -/
def Walks (K : Fg) (J : It) (Hs : Hp) (items : List PyData) : Prop := ∀ (Z : Ent) (Hs2 H : Hp) (σ : St) (δ : DSt), Same Hs Hs2 → Rl K Z Hs2 H σ δ →
  (∀ i, i < items.length → J.go i H) ∧ J.stop items.length H ∧ ∀ i x H', i < items.length → J.yld i H x H' → ∃ d Hs3, items[i]? = some d ∧ Same Hs2 Hs3 ∧ Rl K Z Hs3 H' σ δ ∧ Dp K Hs3 x d
def lI (K : Fg) (Z : Ent) (t : DL') : TI := fun σ H R => ∃ Hs δ, Rl K Z Hs H σ δ ∧ t δ fun items δ' => ∀ J Hs' H', Same Hs Hs' → Rl K Z Hs' H' σ δ' → Walks K J Hs' items → R J H'
structure Dit (X : Cx) (Z : Ent) (tg iter : Expr) (t : DL') : Prop where
  run : PI X tg iter (lI X.K Z t)
  mono : ∀ (δ : DSt) (Q Q' : List PyData → DSt → Prop), (∀ d δ', Q d δ' → Q' d δ') → t δ Q → t δ Q'
theorem pi_imp {X : Cx} {tg e : Expr} {t t' : TI} (h : PI X tg e t) (i : ∀ σ H Q, t' σ H Q → t σ H Q) : PI X tg e t' := ⟨fun pins s σ H Q I h' => h.run pins s σ H Q I (i σ H Q h')⟩
/-- lo, lo + 1, .. -/
def rngD (lo : Int) : Nat → List PyData
  | 0 => []
  | n + 1 => .int lo :: rngD (lo + 1) n
theorem rngD_len (lo : Int) (n : Nat) : (rngD lo n).length = n := by
  induction n generalizing lo with
  | zero => rfl
  | succ n ih => show (rngD (lo + 1) n).length + 1 = n + 1; rw [ih]
theorem rngD_get {lo : Int} {n i : Nat} (h : i < n) : (rngD lo n)[i]? = some (.int (lo + i)) := by
  induction n generalizing lo i with
  | zero => omega
  | succ n ih =>
    cases i with
    | zero => show some (PyData.int lo) = _; simp
    | succ i =>
      show (rngD (lo + 1) n)[i]? = _
      rw [ih (by omega)]
      have : lo + 1 + (i : Int) = lo + ((i + 1 : Nat) : Int) := by omega
      rw [this]
section
variable {X : Cx} {Z : Ent} {pos : Pos} {tg : Expr}
theorem walks_range {K : Fg} {Hs : Hp} {lo : Int} {n : Nat} : Walks K (Itr lo n) Hs (rngD lo n) := fun Z Hs2 H σ δ s R => by
  rw [rngD_len]
  refine ⟨fun i hi => hi, Nat.le_refl _, fun i x H' hi y => ?_⟩
  obtain ⟨rfl, rfl⟩ := y
  exact ⟨_, Hs2, rngD_get hi, Same.refl _, R, .int _⟩
def iRg1 (t : DL') : DL' := fun δ Q => t δ fun ds δ' => match ds with
  | [.int j] => -(2 ^ 62) ≤ j ∧ j < 2 ^ 62 ∧ Q (rngD 0 j.toNat) δ'
  | _ => False
theorem di_range1 {a : Expr} {t : DL'} {p : Pos} (hg : Gl X "range") (hm : X.mg "range" = none) (ha : Da X Z [a] t) (hs : starEach [a] X.env = [(false, eval a X.env)] := by rfl) : Dit X Z tg (.Call (.Name "range" p) [a] [] pos) (iRg1 t) := by
  refine ⟨pi_imp (pi_range1 hg hm ha.run hs) fun σ H R ⟨Hs, δ, Rr, q⟩ => ⟨Hs, δ, Rr, ha.mono _ _ _ (fun ds δ1 q vs Hs1 H1 s1 R1 dps => ?_) q⟩, fun δ Q Q' hq q => ha.mono _ _ _ (fun d δ' z => ?_) q⟩
  · split at q
    · cases dps with
      | cons d1 d2 =>
        cases d1
        cases d2
        exact ⟨_, rfl, q.1, q.2.1, q.2.2 _ Hs1 H1 s1 R1 walks_range⟩
    · exact q.elim
  · split at z
    · exact ⟨z.1, z.2.1, hq _ _ z.2.2⟩
    · exact z
/-! ### for -/
def dForL (g : DG) (body : DS) (N : DEnds) : List PyData → DSt → Prop
  | [], δ => N.nx δ
  | d :: r, δ => g d δ fun δ' => body { N with nx := dForL g body N r, ct := dForL g body N r, bk := N.nx } δ'
def dFor (ti : DL') (g : DG) (body : DS) : DS := fun N δ => ti δ fun items δ' => dForL g body N items δ'
theorem ds_for {iter : Expr} {body : List Stmt} {ti : DL'} {ts : List Nat} {g : DG} {tb : DS} (hp : PassesOwn (model X.prog X.w) X.A X.env X.xe) (hc : X.calm = true) (hi : Dit X Z tg iter ti) (hg : Dg X Z tg ts g) (hb : Dss X Z body tb)
    (hs : ∀ x, foldedSetIterable iter X.env x = pure x := by intro _; rfl) : Ds X Z (.For tg iter body [] pos) (dFor ti g tb) := by
  refine ⟨ps_imp (ps_for hp hc hi.run hg.run hb.run hs) fun D σ H ⟨Hs, δ, N, R, ok, q⟩ => ⟨Hs, δ, R, hi.mono _ _ _ (fun items δ1 q J Hs1 H1 s1 R1 w => ?_) q⟩⟩
  refine ⟨fun i m σ' H' => m = items.length - i ∧ i ≤ items.length ∧ ∃ Hs2 δ2, Same Hs1 Hs2 ∧ Rl X.K Z Hs2 H' σ' δ2 ∧ dForL g tb N (items.drop i) δ2, ⟨items.length, by simp, Nat.zero_le _, Hs1, δ1, Same.refl _, R1, q⟩, ?_⟩
  rintro i m σ' H' ⟨rfl, hi, Hs2, δ2, s2, R2, q2⟩
  obtain ⟨w1, w2, w3⟩ := w Z Hs2 H' σ' δ2 s2 R2
  by_cases hlt : i < items.length
  · refine .inr ⟨w1 i hlt, fun σ3 H3 => ∃ Hs3 δ3, Same Hs1 Hs3 ∧ Rl X.K Z Hs3 H3 σ3 δ3 ∧ dForL g tb N (items.drop (i + 1)) δ3, fun σ3 H3 z => ⟨items.length - (i + 1), by omega, rfl, hlt, z⟩, fun x H3 y => ?_⟩
    obtain ⟨d, Hs3, e, s3, R3, dp⟩ := w3 i x H3 hlt y
    have ed : items.drop i = d :: items.drop (i + 1) := by
      obtain ⟨h1, h2⟩ := List.getElem?_eq_some_iff.mp e
      rw [← h2]
      exact List.drop_eq_getElem_cons h1
    rw [ed] at q2
    refine ⟨Hs3, δ2, d, R3, dp, hg.mono _ _ _ _ (fun δ4 q4 σ4 R4 _ => ?_) q2⟩
    refine ⟨Hs3, δ4, { N with nx := dForL g tb N (items.drop (i + 1)), ct := dForL g tb N (items.drop (i + 1)), bk := N.nx }, R4, ⟨fun σ5 δ5 Hs5 H5 s5 R5 q5 => ⟨Hs5, δ5, (s2.trans s3).trans s5, R5, q5⟩, fun σ5 δ5 Hs5 H5 v d s5 => ok.rt σ5 δ5 Hs5 H5 v d (((s1.trans s2).trans s3).trans s5), fun σ5 δ5 Hs5 H5 v d s5 => ok.ro σ5 δ5 Hs5 H5 v d (((s1.trans s2).trans s3).trans s5),
      fun σ5 δ5 Hs5 H5 s5 => ok.nx σ5 δ5 Hs5 H5 (((s1.trans s2).trans s3).trans s5), fun σ5 δ5 Hs5 H5 s5 R5 q5 => ⟨Hs5, δ5, (s2.trans s3).trans s5, R5, q5⟩⟩, q4⟩
  · have e : i = items.length := by omega
    subst e
    rw [List.drop_length] at q2
    exact .inl ⟨w2, ok.nx σ' δ2 Hs2 H' (s1.trans s2) R2 q2⟩
/-! ### while -/
def dWhile (c : DT) (body : DS) : DS := fun N δ => ∃ W : Nat → DSt → Prop, (∃ m, W m δ) ∧ ∀ m δ, W m δ → c δ fun b δ1 => match b with
  | true => body { N with nx := fun δ' => ∃ m', m' < m ∧ W m' δ', ct := fun δ' => ∃ m', m' < m ∧ W m' δ', bk := N.nx } δ1
  | false => N.nx δ1
theorem ds_while {c : Expr} {body : List Stmt} {tc : DT} {tb : DS} (hp : PassesOwn (model X.prog X.w) X.A X.env X.xe) (hc : Dt X Z c tc) (hb : Dss X Z body tb) : Ds X Z (.While c body [] pos) (dWhile tc tb) := by
  refine ⟨ps_imp (ps_while hp hc.run hb.run) fun D σ H ⟨Hs, δ, N, R, ok, q⟩ => ?_⟩
  obtain ⟨W, ⟨m0, w0⟩, turn⟩ := q
  refine ⟨fun m σ' H' => ∃ Hs2 δ2, Same Hs Hs2 ∧ Rl X.K Z Hs2 H' σ' δ2 ∧ W m δ2, ⟨m0, Hs, δ, Same.refl _, R, w0⟩, ?_⟩
  rintro m σ' H' ⟨Hs2, δ2, s2, R2, w2⟩
  refine ⟨Hs2, δ2, R2, hc.mono _ _ _ (fun b δ3 q3 Hs3 H3 s3 R3 => ?_) (turn m δ2 w2)⟩
  cases b with
  | true =>
    rw [if_pos rfl]
    refine ⟨fun σ4 H4 => ∃ m', m' < m ∧ ∃ Hs4 δ4, Same Hs Hs4 ∧ Rl X.K Z Hs4 H4 σ4 δ4 ∧ W m' δ4, fun σ4 H4 z => z, ?_⟩
    refine ⟨Hs3, δ3, { N with nx := fun δ' => ∃ m', m' < m ∧ W m' δ', ct := fun δ' => ∃ m', m' < m ∧ W m' δ', bk := N.nx }, R3, ⟨fun σ5 δ5 Hs5 H5 s5 R5 q5 => ?_, fun σ5 δ5 Hs5 H5 v d s5 => ok.rt σ5 δ5 Hs5 H5 v d ((s2.trans s3).trans s5), fun σ5 δ5 Hs5 H5 v d s5 => ok.ro σ5 δ5 Hs5 H5 v d ((s2.trans s3).trans s5),
      fun σ5 δ5 Hs5 H5 s5 => ok.nx σ5 δ5 Hs5 H5 ((s2.trans s3).trans s5), fun σ5 δ5 Hs5 H5 s5 R5 q5 => ?_⟩, q3⟩
    · obtain ⟨m', hm, w⟩ := q5
      exact ⟨m', hm, Hs5, δ5, (s2.trans s3).trans s5, R5, w⟩
    · obtain ⟨m', hm, w⟩ := q5
      exact ⟨m', hm, Hs5, δ5, (s2.trans s3).trans s5, R5, w⟩
  | false =>
    rw [if_neg Bool.false_ne_true]
    exact ok.nx σ' δ3 Hs3 H3 (s2.trans s3) R3 q3
end
/-! ### comprehensions -/
def dwipe (δ : DSt) : List Nat → DSt
  | [] => δ
  | v :: vs => (dwipe δ vs).set v none
theorem dwipe_some {δ : DSt} {i : Nat} {x : Sl} : ∀ {vs : List Nat}, (dwipe δ vs)[i]? = some (some x) → δ[i]? = some (some x) ∧ i ∉ vs
  | [], h => ⟨h, by simp⟩
  | v :: vs, h => by
    rcases get_set h with ⟨rfl, z⟩ | ⟨ne, z⟩
    · cases z
    · obtain ⟨h1, h2⟩ := dwipe_some z
      exact ⟨h1, by simp only [List.mem_cons, not_or]; exact ⟨fun e => ne e.symm, h2⟩⟩
theorem dwipe_len {δ : DSt} : ∀ (vs : List Nat), (dwipe δ vs).length = δ.length
  | [] => rfl
  | v :: vs => by unfold dwipe; rw [List.length_set, dwipe_len vs]
theorem dwipe_get {δ : DSt} {j : Nat} : ∀ {vs : List Nat}, j ∉ vs → (dwipe δ vs)[j]? = δ[j]?
  | [], _ => rfl
  | v :: vs, h => by
    rw [List.mem_cons, not_or] at h
    show ((dwipe δ vs).set v none)[j]? = _
    rw [List.getElem?_set_ne (fun e => h.1 e.symm)]
    exact dwipe_get h.2
section
variable {K : Fg} {Z : Ent} {Hs H : Hp} {σ σ' : St} {δ : DSt}
/-- the slots vs forgotten, others as in σ -/
theorem Rl.reslot (R : Rl K Z Hs H σ δ) {vs : List Nat} (hl : σ'.length = σ.length) (h : ∀ j, j ∉ vs → σ'[j]? = σ[j]?) : Rl K Z Hs H σ' (dwipe δ vs) := by
  refine ⟨by rw [hl, dwipe_len, R.len], R.sub, R.ext, R.fr, R.new, R.hid, fun j d e => ?_, ?_, R.grd, fun j t e p => by rw [h j (dwipe_some e).2]; exact R.prm j t (dwipe_some e).1 p, fun j C e => by rw [h j (dwipe_some e).2]; exact R.exn j C (dwipe_some e).1⟩
  · obtain ⟨e, nv⟩ := dwipe_some e
    rw [h j nv]
    exact R.shr j d e
  · obtain ⟨f, F⟩ := R.fps
    have m1 : ∀ {i : Nat} {a : Addr}, a ∈ (if i ∈ vs then [] else f i) → i ∉ vs ∧ a ∈ f i := fun {i a} m => by
      split at m
      · exact nomatch m
      · rename_i n
        exact ⟨n, m⟩
    refine ⟨fun i => if i ∈ vs then [] else f i, ⟨fun i s e o => ?_, fun i e => ?_, fun i a m => F.hs i a (m1 m).2, fun i a m => F.old i a (m1 m).2, fun i s a e p m => F.mine i s a (dwipe_some e).1 p (m1 m).2, fun i j a n m m' => F.dis i j a n (m1 m).2 (m1 m').2, fun i a o m => F.g i a o (m1 m).2⟩⟩
    · obtain ⟨e, nv⟩ := dwipe_some e
      show ∃ v, _ ∧ At K Hs H v s (if i ∈ vs then [] else f i)
      rw [h i nv, if_neg nv]
      exact F.at_ i s e o
    · show (if i ∈ vs then [] else f i) = []
      split
      · rfl
      · rename_i n
        refine F.emp i fun s z => e s ?_
        rw [dwipe_get n]
        exact z
theorem FrA.reslot {v : V} {s : Sl} {A : List Addr} (R : Rl K Z Hs H σ δ) (c : FrA K Z Hs H σ δ v s A) {vs : List Nat} (h : ∀ j, j ∉ vs → σ'[j]? = σ[j]?) : FrA K Z Hs H σ' (dwipe δ vs) v s A := by
  refine ⟨c.at_, c.hs, c.mine, fun f' F' j a m m' => ?_, c.g⟩
  obtain ⟨f, F⟩ := R.fps
  by_cases n : j ∈ vs
  · rw [F'.emp j fun s z => absurd n (dwipe_some z).2] at m'
    exact nomatch m'
  · rw [F.eqj F' j (dwipe_get n) (fun v z => by rw [h j n]; exact z) fun _ _ => rfl] at m'
    exact c.dis f F j a m m'
theorem FrO.reslot {v : V} {xs : List PyData} (R : Rl K Z Hs H σ δ) (c : FrO K Z Hs H σ δ v xs) {vs : List Nat} (h : ∀ j, j ∉ vs → σ'[j]? = σ[j]?) : FrO K Z Hs H σ' (dwipe δ vs) v xs := by
  obtain ⟨A, c⟩ := c
  exact ⟨A, c.reslot R h⟩
/-- one more guard -/
abbrev Ent.gd (Z : Ent) (D : Addr) (o : HO) : Ent := ⟨Z.H0, Z.Hs0, Z.own, (D, o) :: Z.G, Z.σ0, Z.xa, Z.blk⟩
end
section
variable {X : Cx} {Z : Ent} {pos : Pos} {tg : Expr}
end
/-! ### a def keeps its promise -/
def startD (N : List Str) (ds : List PyData) : DSt := ds.map (fun d => some (.sh d)) ++ List.replicate (N.length - ds.length) none
def startB (N : List Str) (xs : List PyData) (ds : List PyData) : DSt := some (.ow true xs) :: (ds.map (fun d => some (.sh d)) ++ List.replicate (N.length - (ds.length + 1)) none)
def endsP (Q : Res → Prop) : DEnds := ⟨fun _ => Q (.d .none), fun d _ => Q (.d d), fun s _ => (match s with
  | .ow _ xs => Q (.o xs)
  | .ob _ o => Q (.b o)
  | _ => False), fun _ => False, fun _ => False⟩
/-- the caller's list as it stands in slot 0 -/
def atB (δ : DSt) (Q : List PyData → Prop) : Prop := match δ with
  | some (Sl.ow true xs) :: _ => Q xs
  | _ => False
def endsB (Q : Res → List PyData → Prop) : DEnds := ⟨fun δ => atB δ (Q (.d .none)), fun d δ => atB δ (Q (.d d)), fun s δ => (match s with
  | .ow _ xs => atB δ (Q (.o xs))
  | .ob _ o => atB δ (Q (.b o))
  | _ => False), fun _ => False, fun _ => False⟩
section
variable {P : Program} {w : World} {K : Fg} {mg : Str → Option Value} {base : Heap} {x qual : Str} {params : Arguments} {body : List Stmt} {scope : Scope} {dvs : List V} {kws : List (Str × V)} {f : Addr} {fd : FuncData} {N ps : List Str} {k : Nat}
/-- only the frame is left -/
theorem Rl.nil {Z : Ent} {Hs H : Hp} {σ : St} {δ : DSt} (R : Rl K Z Hs H σ δ) : Rl K Z Hs H [] [] :=
  ⟨rfl, R.sub, R.ext, R.fr, R.new, R.hid, fun i d e => (nomatch e), ⟨fun _ => [], ⟨fun i s e => (nomatch e), fun _ _ => rfl, fun i a m => (nomatch m), fun i a m => (nomatch m), fun i s a e => (nomatch e), fun i j a n m => (nomatch m), fun i a o m => nomatch m⟩⟩, R.grd, fun i s e => (nomatch e), fun i C e => nomatch e⟩
theorem FrA.nil {Z : Ent} {Hs H : Hp} {σ : St} {δ : DSt} {v : V} {s : Sl} {A : List Addr} (c : FrA K Z Hs H σ δ v s A) : FrA K Z Hs H [] [] v s A :=
  ⟨c.at_, c.hs, c.mine, fun f F j a m m' => by rw [F.emp j (fun s e => (nomatch e))] at m'; exact (nomatch m'), c.g⟩
theorem FrO.nil {Z : Ent} {Hs H : Hp} {σ : St} {δ : DSt} {v : V} {xs : List PyData} (f : FrO K Z Hs H σ δ v xs) : FrO K Z Hs H [] [] v xs := f.elim fun A c => ⟨A, c.nil⟩
theorem start_get {N : List Str} {vs : List V} {i : Nat} {v : V} (h : vs[i]? = some v) : (start N vs)[i]? = some (some v) := by
  unfold L2.start
  rw [List.getElem?_append_left (by rw [List.length_map]; exact get_lt h), List.getElem?_map, h]
  rfl
theorem startD_get {ds : List PyData} {n i : Nat} {s : Sl} (h : (ds.map (fun d => some (Sl.sh d)) ++ List.replicate n none)[i]? = some (some s)) : ∃ d, ds[i]? = some d ∧ s = .sh d := by
  by_cases hi : i < ds.length
  · rw [List.getElem?_append_left (by rw [List.length_map]; exact hi), List.getElem?_map, List.getElem?_eq_getElem hi] at h
    cases h
    exact ⟨_, List.getElem?_eq_getElem hi, rfl⟩
  · rw [List.getElem?_append_right (by rw [List.length_map]; omega), List.getElem?_replicate] at h
    split at h <;> cases h
theorem rl_startP {Hs H : Hp} {vs : List V} {ds : List PyData} {σ0 : St} {xa : Option (Addr × Str)} {ex : Addr → Nat} (sub : Same Hs H) (d : DpAll K Hs vs ds) : Rl K ⟨H, Hs, [], [], σ0, xa, ex⟩ Hs H (start N vs) (startD N ds) := by
  have l := d.len
  have no : ∀ (i : Nat) (s : Sl), (startD N ds)[i]? = some (some s) → s.own = false ∧ s.prm = false := fun i s z => by
    obtain ⟨d', e1, e2⟩ := startD_get z
    subst e2
    exact ⟨rfl, rfl⟩
  refine ⟨?_, sub, Same.refl _, fun b o e _ => e, fun b n => .inl n, fun b e => (nomatch e), fun i e z => ?_, ⟨fun _ => [], ⟨fun i s z o => ?_, fun _ _ => rfl, fun i a m => (nomatch m), fun i a m => (nomatch m), fun i s a _ _ m => (nomatch m), fun i j a n m => (nomatch m), fun i a o m => nomatch m⟩⟩, fun a o m => (nomatch m), fun i s z p => ?_, fun i C z => ?_⟩
  · unfold L2.start startD
    rw [List.length_append, List.length_append, List.length_map, List.length_map, List.length_replicate, List.length_replicate, l]
  · obtain ⟨d', e1, e2⟩ := startD_get z
    cases e2
    obtain ⟨v, h1, h2⟩ := d.get e1
    exact ⟨v, start_get h1, h2⟩
  · rw [(no i s z).1] at o
    cases o
  · rw [(no i s z).2] at p
    cases p
  · obtain ⟨d', e1, e2⟩ := startD_get z
    cases e2
/-- an owned thing handed in first -/
theorem rl_startA {Hs H : Hp} {v : V} {s : Sl} {A : List Addr} {us : List V} {ds : List PyData} {σ0 : St} {xa : Option (Addr × Str)} (sub : Same Hs H) (h : At K Hs H v s A) (hs : ∀ a ∈ A, Hs a = none) (hp : s.prm = true) (h0 : σ0[0]? = some (some v)) (d : DpAll K Hs us ds) :
    Rl K ⟨H, Hs, A, [], σ0, xa, fun _ => 0⟩ Hs H (start N (v :: us)) (some s :: (ds.map (fun d => some (.sh d)) ++ List.replicate (N.length - (ds.length + 1)) none)) := by
  have l := d.len
  have e0 : start N (v :: us) = some v :: (us.map some ++ List.replicate (N.length - (us.length + 1)) none) := rfl
  have no : ∀ (i : Nat) (t : Sl), (some s :: (ds.map (fun d => some (Sl.sh d)) ++ List.replicate (N.length - (ds.length + 1)) none))[i]? = some (some t) → i = 0 ∧ t = s ∨ i ≠ 0 ∧ t.own = false ∧ t.prm = false := fun i t z => by
    cases i with
    | zero => cases z; exact .inl ⟨rfl, rfl⟩
    | succ i =>
      obtain ⟨d', e1, e2⟩ := startD_get (show (ds.map (fun d => some (Sl.sh d)) ++ List.replicate (N.length - (ds.length + 1)) none)[i]? = some (some t) from z)
      subst e2
      exact .inr ⟨by omega, rfl, rfl⟩
  refine ⟨?_, sub, Same.refl _, fun b o e _ => e, fun b n => .inl n, fun c e => ⟨hs c e, h.live c e⟩, fun i e z => ?_, ⟨fun i => if i = 0 then A else [], ⟨fun i t z o => ?_, fun i z => ?_, fun i a m => ?_, fun i a m => ?_, fun i t a z p m => ?_, fun i j a n m m' => ?_, fun i a o m => nofun⟩⟩, fun a o m => (nomatch m), fun i t z p => ?_, fun i C z => ?_⟩
  · rw [e0, List.length_cons, List.length_cons, List.length_append, List.length_append, List.length_map, List.length_map, List.length_replicate, List.length_replicate, l]
  · cases i with
    | zero => cases z; cases hp
    | succ i =>
      obtain ⟨d', e1, e2⟩ := startD_get (show (ds.map (fun d => some (Sl.sh d)) ++ List.replicate (N.length - (ds.length + 1)) none)[i]? = some (some (Sl.sh e)) from z)
      cases e2
      obtain ⟨v', h1, h2⟩ := d.get e1
      exact ⟨v', start_get (show (v :: us)[i + 1]? = some v' from h1), h2⟩
  · rcases no i t z with ⟨rfl, rfl⟩ | ⟨_, e, _⟩
    · exact ⟨v, by rw [e0]; rfl, h⟩
    · rw [e] at o
      cases o
  · cases i with
    | zero =>
      have := z s rfl
      rw [h.owned] at this
      cases this
    | succ i => rfl
  · split at m
    · exact hs a m
    · exact nomatch m
  · split at m
    · rename_i e
      exact .inr ⟨m, e.symm⟩
    · exact nomatch m
  · rcases no i t z with ⟨rfl, rfl⟩ | ⟨ne, e, _⟩
    · rw [hp] at p
      cases p
    · rw [if_neg ne] at m
      exact nomatch m
  · split at m
    · rename_i e1
      split at m'
      · rename_i e2
        exact n (e1.trans e2.symm)
      · exact nomatch m'
    · exact nomatch m
  · rcases no i t z with ⟨rfl, rfl⟩ | ⟨_, _, e⟩
    · rw [e0, h0]
      rfl
    · rw [e] at p
      cases p
  · cases i with
    | zero => cases z; cases hp
    | succ i =>
      obtain ⟨d', e1, e2⟩ := startD_get (show (ds.map (fun d => some (Sl.sh d)) ++ List.replicate (N.length - (ds.length + 1)) none)[i]? = some (some (Sl.xn C)) from z)
      cases e2
theorem ok_pure {fn : FP} (F : FunD K x qual params body scope dvs kws f fd) (S : FnScope N ps scope) (fm : FMono fn) (len : ∀ ds Q, fn ds Q → ds.length = ps.length)
    (hb : ∀ (cdv : Value) (A : Around) (outer : List Env) (s : Shared) (H : Hp) (E : XK) (Z : Ent), Room k (A.deeper (PyProof.Rows.envOfC qual scope s.heap.objs.size f cdv)) →
      ∃ t, Dss (cxOf CX0 P w K mg base N qual scope f cdv A outer s H E).nox Z body t ∧ ∀ ds Q, fn ds Q → t (endsP Q) (startD N ds)) : FnOk P w K mg base CX0 (k + 1) f fd ps (spP K fn) := by
  refine F.ok S (fun vs H Q E h => ?_) (fun cdv A outer s H vs Q E hr h => ?_)
  · obtain ⟨Hs, ds, _, d, q⟩ := h
    rw [d.len]
    exact len _ _ q
  · obtain ⟨Hs, ds, sub, d, q⟩ := h
    obtain ⟨t, ht, hq⟩ := hb cdv A outer s H E (.at H Hs [] []) hr
    refine ⟨_, PSs.nox ht.run, Hs, startD N ds, endsP _, rl_startP sub d, ⟨fun σ δ Hs' H' _ R z => ?_, fun σ δ Hs' H' v e _ R dp z => ?_, fun σ δ Hs' H' v xs _ R fr z => ?_, fun _ _ _ _ _ _ z => z.elim, fun _ _ _ _ _ _ z => z.elim⟩, hq ds _ q⟩
    · exact z .non Hs' H' R.nil .non
    · exact z v Hs' H' R.nil dp
    · obtain ⟨hp, A, fr⟩ := fr
      cases xs with
      | sh d => exact z.elim
      | xn C => exact z.elim
      | ow p ys => cases p with
        | false => exact z v Hs' H' R.nil ⟨A, fr.nil⟩
        | true => exact nomatch hp
      | ob p o => cases p with
        | false => exact z v Hs' H' R.nil ⟨A, fr.nil⟩
        | true => exact nomatch hp
theorem atB_of {δ : DSt} {Q : List PyData → Prop} (h : atB δ Q) : ∃ xs, δ[0]? = some (some (Sl.ow true xs)) ∧ Q xs := by
  unfold atB at h
  split at h
  · exact ⟨_, rfl, h⟩
  · exact h.elim
/-- only slot 0, the caller's, is left -/
theorem Rl.head {Z : Ent} {Hs H : Hp} {σ : St} {δ : DSt} {s : Sl} {v : V} (R : Rl K Z Hs H σ δ) (h0 : Z.σ0[0]? = some (some v)) (h : δ[0]? = some (some s)) (ho : s.own = true) (hp : s.prm = true) : Rl K Z Hs H [some v] [some s] ∧ σ[0]? = some (some v) := by
  have hv : σ[0]? = some (some v) := (R.prm 0 s h hp).trans h0
  have no : ∀ (i : Nat) (t : Sl), ([some s] : DSt)[i]? = some (some t) → i = 0 ∧ t = s := fun i t z => by
    cases i with
    | zero => cases z; exact ⟨rfl, rfl⟩
    | succ i => simp at z
  refine ⟨⟨rfl, R.sub, R.ext, R.fr, R.new, R.hid, fun i d e => ?_, ?_, R.grd, fun i t e p => ?_, fun i C e => ?_⟩, hv⟩
  · obtain ⟨rfl, e2⟩ := no i _ e
    rw [← e2] at hp
    cases hp
  · obtain ⟨f, F⟩ := R.fps
    obtain ⟨v', k1, k2⟩ := F.at_ 0 s h ho
    rw [hv] at k1
    cases k1
    have m1 : ∀ {i : Nat} {a : Addr}, a ∈ (if i = 0 then f 0 else []) → i = 0 ∧ a ∈ f 0 := fun {i a} m => by
      split at m
      · rename_i e
        exact ⟨e, m⟩
      · exact nomatch m
    refine ⟨fun i => if i = 0 then f 0 else [], ⟨fun i t e o => ?_, fun i e => ?_, fun i a m => F.hs 0 a (m1 m).2, fun i a m => (m1 m).1 ▸ F.old 0 a (m1 m).2, fun i t a e p m => ?_, fun i j a n m m' => n ((m1 m).1.trans (m1 m').1.symm), fun i a o m => F.g 0 a o (m1 m).2⟩⟩
    · obtain ⟨rfl, rfl⟩ := no i t e
      exact ⟨v, rfl, k2⟩
    · cases i with
      | zero =>
        have := e s rfl
        rw [ho] at this
        cases this
      | succ i => rfl
    · obtain ⟨rfl, rfl⟩ := no i t e
      exact F.mine 0 _ a h p (m1 m).2
  · obtain ⟨rfl, rfl⟩ := no i t e
    rw [h0]
    rfl
  · obtain ⟨rfl, e2⟩ := no i _ e
    rw [← e2] at hp
    cases hp
theorem FrA.one {Z : Ent} {Hs H : Hp} {σ : St} {δ : DSt} {s t : Sl} {v u : V} {A : List Addr} (R : Rl K Z Hs H σ δ) (hv : σ[0]? = some (some v)) (h : δ[0]? = some (some s)) (ho : s.own = true) (c : FrA K Z Hs H σ δ u t A) : FrA K Z Hs H [some v] [some s] u t A := by
  refine ⟨c.at_, c.hs, c.mine, fun f' F' j a m m' => ?_, c.g⟩
  obtain ⟨f, F⟩ := R.fps
  cases j with
  | zero =>
    rw [F.eqj F' 0 (by rw [h]; rfl) (fun w z => by rw [hv] at z; cases z; rfl) fun _ _ => rfl] at m'
    exact c.dis f F 0 a m m'
  | succ j =>
    rw [F'.emp (j + 1) fun s z => by simp at z] at m'
    exact nomatch m'
theorem ok_bag {fn : FB} (F : FunD K x qual params body scope dvs kws f fd) (S : FnScope N ps scope) (fm : BMono fn) (len : ∀ xs ds Q, fn xs ds Q → ds.length + 1 = ps.length)
    (hb : ∀ (cdv : Value) (A : Around) (outer : List Env) (s : Shared) (H : Hp) (E : XK) (Z : Ent), Room k (A.deeper (PyProof.Rows.envOfC qual scope s.heap.objs.size f cdv)) →
      ∃ t, Dss (cxOf CX0 P w K mg base N qual scope f cdv A outer s H E).nox Z body t ∧ ∀ xs ds Q, fn xs ds Q → t (endsB Q) (startB N xs ds)) : FnOk P w K mg base CX0 (k + 1) f fd ps (spB K fn) := by
  refine F.ok S (fun vs H Q E h => ?_) (fun cdv A outer s H vs Q E hr h => ?_)
  · obtain ⟨Hs, b, ws, xs, us, ds, rfl, _, _, _, _, d, q⟩ := h
    rw [List.length_cons, d.len]
    exact len _ _ _ q
  · obtain ⟨Hs, b, ws, xs, us, ds, rfl, sub, hb0, hl, d1, d, q⟩ := h
    obtain ⟨t, ht, hq⟩ := hb cdv A outer s H E (.at H Hs [b] [some (.ref b)]) hr
    refine ⟨_, PSs.nox ht.run, Hs, startB N xs ds, endsB _, rl_startA (s := .ow true xs) (A := [b]) sub (.ow hl d1) (fun a m => by rw [List.mem_singleton.mp m]; exact hb0) rfl rfl d, ⟨fun σ δ Hs' H' _ R z => ?_, fun σ δ Hs' H' v e _ R dp z => ?_, fun σ δ Hs' H' v xs _ R fr z => ?_, fun _ _ _ _ _ _ z => z.elim, fun _ _ _ _ _ _ z => z.elim⟩, hq xs ds _ q⟩
    · obtain ⟨ys, e, z⟩ := atB_of z
      exact z .non Hs' H' (R.head rfl e rfl rfl).1 .non
    · obtain ⟨ys, e, z⟩ := atB_of z
      exact z v Hs' H' (R.head rfl e rfl rfl).1 dp
    · obtain ⟨hp, A, c⟩ := fr
      cases xs with
      | sh d => exact z.elim
      | xn C => exact z.elim
      | ow p us =>
        cases p with
        | true => exact nomatch hp
        | false =>
          obtain ⟨ys, e, z⟩ := atB_of z
          exact z v Hs' H' (R.head rfl e rfl rfl).1 ⟨A, FrA.one R (R.head rfl e rfl rfl).2 e rfl c⟩
      | ob p o =>
        cases p with
        | true => exact nomatch hp
        | false =>
          obtain ⟨ys, e, z⟩ := atB_of z
          exact z v Hs' H' (R.head rfl e rfl rfl).1 ⟨A, FrA.one R (R.head rfl e rfl rfl).2 e rfl c⟩
end
end DL

namespace DL
open PySem PySem.Spec L2
theorem bb_abs : bootBuiltins "abs" = some (.builtin "abs") := by decide +kernel
theorem bb_max : bootBuiltins "max" = some (.builtin "max") := by decide +kernel
theorem bb_min : bootBuiltins "min" = some (.builtin "min") := by decide +kernel
theorem bb_len : bootBuiltins "len" = some (.builtin "len") := by decide +kernel
theorem bb_isinstance : bootBuiltins "isinstance" = some (.builtin "isinstance") := by decide +kernel
theorem bt_str : bootBuiltins "str" = some (.type "str") := by decide +kernel
theorem kf_str : kitFor "str" = true := by decide +kernel
end DL

namespace DL
open PySem PySem.Spec L2
/-! ### readings are monotone -/
class EMono (t : DE) : Prop where
  m : ∀ (δ : DSt) (Q Q' : PyData → DSt → Prop), (∀ d δ', Q d δ' → Q' d δ') → t δ Q → t δ Q'
class TMono (t : DT) : Prop where
  m : ∀ (δ : DSt) (Q Q' : Bool → DSt → Prop), (∀ d δ', Q d δ' → Q' d δ') → t δ Q → t δ Q'
class LMono (t : DL') : Prop where
  m : ∀ (δ : DSt) (Q Q' : List PyData → DSt → Prop), (∀ d δ', Q d δ' → Q' d δ') → t δ Q → t δ Q'
class GMono (t : DG) : Prop where
  m : ∀ (d : PyData) (δ : DSt) (Q Q' : DSt → Prop), (∀ δ', Q δ' → Q' δ') → t d δ Q → t d δ Q'
class GsMono (t : DGs) : Prop where
  m : ∀ (d : List PyData) (δ : DSt) (Q Q' : DSt → Prop), (∀ δ', Q δ' → Q' δ') → t d δ Q → t d δ Q'
class D2M (r : D2) : Prop where
  m : ∀ (d e : PyData) (Q Q' : PyData → Prop), (∀ z, Q z → Q' z) → r d e Q → r d e Q'
class D1M (r : D1) : Prop where
  m : ∀ (ds : List PyData) (Q Q' : PyData → Prop), (∀ z, Q z → Q' z) → r ds Q → r ds Q'
structure DEnds.Le (N N' : DEnds) : Prop where
  nx : ∀ δ, N.nx δ → N'.nx δ
  rt : ∀ d δ, N.rt d δ → N'.rt d δ
  ro : ∀ d δ, N.ro d δ → N'.ro d δ
  bk : ∀ δ, N.bk δ → N'.bk δ
  ct : ∀ δ, N.ct δ → N'.ct δ
theorem DEnds.Le.refl (N : DEnds) : N.Le N := ⟨fun _ h => h, fun _ _ h => h, fun _ _ h => h, fun _ h => h, fun _ h => h⟩
class SMono (t : DS) : Prop where
  m : ∀ (N N' : DEnds) (δ : DSt), N.Le N' → t N δ → t N' δ
section
variable {ta tb tc : DE} {c c' : DT} {l l' : DL'} {g : DG} {gs : DGs} {r r' : D2} {r1 : D1} {s s' : DS} {f : FP} {fb : FB}
instance {C : Int → Int → Prop} {h : Int → Int → PyData} : D2M (rII C h) := ⟨rII_mono⟩
instance : D2M rEqq := ⟨fun d e Q Q' hq q => ⟨q.1, q.2.1, hq _ q.2.2⟩⟩
instance : D2M rNeq := ⟨fun d e Q Q' hq q => ⟨q.1, q.2.1, hq _ q.2.2⟩⟩
instance : D2M DL.rIx := ⟨fun d e Q Q' hq q => by
  unfold DL.rIx at q ⊢
  split at q
  · obtain ⟨z, a, b⟩ := q
    exact ⟨z, a, hq _ b⟩
  · obtain ⟨z, a, b⟩ := q
    exact ⟨z, a, hq _ b⟩
  · exact q⟩
instance : D1M rAbs := ⟨fun ds Q Q' hq q => by
  unfold rAbs at q ⊢
  split at q
  · exact hq _ q
  · exact q⟩
instance : D1M DL.rMax := ⟨fun ds Q Q' hq q => by
  unfold DL.rMax at q ⊢
  split at q
  · exact hq _ q
  · exact q⟩
instance : D1M DL.rMin := ⟨fun ds Q Q' hq q => by
  unfold DL.rMin at q ⊢
  split at q
  · exact hq _ q
  · exact q⟩
instance : D1M rLen := ⟨fun ds Q Q' hq q => by
  unfold rLen at q ⊢
  split at q
  · exact hq _ q
  · exact hq _ q
  · exact ⟨q.1, hq _ q.2⟩
  · exact q⟩
instance {i : Nat} : EMono (dVar i) := ⟨fun δ Q Q' hq q => by
  unfold dVar at q ⊢
  split at q
  · exact hq _ _ q
  · exact hq _ _ q
  · exact q⟩
instance {d : PyData} : EMono (dC d) := ⟨fun δ Q Q' hq q => hq _ _ q⟩
instance [LMono l] : EMono (dShare l) := ⟨fun δ Q Q' hq q => LMono.m (t := l) _ _ _ (fun _ _ z => hq _ _ z) q⟩
instance : LMono (dNil) := ⟨fun δ Q Q' hq q => hq _ _ q⟩
instance [EMono ta] [LMono l] : LMono (dCons ta l) := ⟨fun δ Q Q' hq q => EMono.m (t := ta) _ _ _ (fun _ _ z => LMono.m (t := l) _ _ _ (fun _ _ z => hq _ _ z) z) q⟩
instance [LMono l] : EMono (dTup l) := ⟨fun δ Q Q' hq q => LMono.m (t := l) _ _ _ (fun _ _ z => ⟨z.1, hq _ _ z.2⟩) q⟩
instance [LMono l] : LMono (dLst l) := ⟨fun δ Q Q' hq q => LMono.m (t := l) _ _ _ (fun _ _ z => ⟨z.1, hq _ _ z.2⟩) q⟩
instance [D2M r] [EMono ta] [EMono tb] : EMono (dOp r ta tb) := ⟨fun δ Q Q' hq q => EMono.m (t := ta) _ _ _ (fun _ _ z => EMono.m (t := tb) _ _ _ (fun _ _ z => D2M.m (r := r) _ _ _ _ (fun _ z => hq _ _ z) z) z) q⟩
instance {i : Nat} [EMono ta] : EMono (dIxO i ta) := ⟨fun δ Q Q' hq q => by
  unfold dIxO at q ⊢
  split at q
  · refine EMono.m (t := ta) _ _ _ (fun d δ' z => ?_) q
    split at z
    · obtain ⟨w, a, b⟩ := z
      exact ⟨w, a, hq _ _ b⟩
    · exact rIx_mono _ _ _ _ (fun _ z => hq _ _ z) z
    · exact z
  · exact q⟩
instance [EMono ta] [EMono tb] : EMono (dAndV ta tb) := ⟨fun δ Q Q' hq q => by
  refine EMono.m (t := ta) _ _ _ (fun d δ' z => ?_) q
  obtain ⟨k, e, z⟩ := z
  refine ⟨k, e, ?_⟩
  cases k with
  | true => exact EMono.m (t := tb) _ _ _ hq z
  | false => exact hq _ _ z⟩
instance [EMono ta] : EMono (dNotV ta) := ⟨fun δ Q Q' hq q => EMono.m (t := ta) _ _ _ (fun d δ' ⟨k, e, z⟩ => ⟨k, e, hq _ _ z⟩) q⟩
instance [D1M r1] [LMono l] : EMono (dCB r1 l) := ⟨fun δ Q Q' hq q => LMono.m (t := l) _ _ _ (fun ds δ' z => D1M.m (r := r1) _ _ _ (fun _ z => hq _ _ z) z) q⟩
instance {T : String} [EMono ta] : EMono (dIsi T ta) := ⟨fun δ Q Q' hq q => EMono.m (t := ta) _ _ _ (fun d δ' z => ⟨z.1, hq _ _ z.2⟩) q⟩
instance {dd : List PyData} [FMono f] [LMono l] : EMono (dCall f dd l) := ⟨fun δ Q Q' hq q => LMono.m (t := l) _ _ _ (fun ds δ' z => FMono.m (f := f) _ _ _ (fun r z => hq _ _ z) z) q⟩
instance {dd : List PyData} [FMono f] [LMono l] : LMono (dCallO f dd l) := ⟨fun δ Q Q' hq q => LMono.m (t := l) _ _ _ (fun ds δ' z => FMono.m (f := f) _ _ _ (fun r z => by
  cases r with
  | d d => exact z
  | b o => exact z
  | o xs => exact hq _ _ z) z) q⟩
instance {i : Nat} [BMono fb] [LMono l] : EMono (dCallB i fb l) := ⟨fun δ Q Q' hq q => by
  unfold dCallB at q ⊢
  split at q
  · refine LMono.m (t := l) _ _ _ (fun ds δ' z => ?_) q
    split at z
    · exact BMono.m (f := fb) _ _ _ _ (fun r y z => hq _ _ z) z
    · exact z
  · exact q⟩
instance [EMono ta] : TMono (dTru ta) := ⟨fun δ Q Q' hq q => EMono.m (t := ta) _ _ _ (fun d δ' ⟨k, e, z⟩ => ⟨k, e, hq _ _ z⟩) q⟩
instance [EMono ta] : TMono (dTst ta) := ⟨fun δ Q Q' hq q => by
  refine EMono.m (t := ta) _ _ _ (fun d δ' z => ?_) q
  split at z
  · exact hq _ _ z
  · exact z⟩
instance [TMono c] [TMono c'] : TMono (dOr c c') := ⟨fun δ Q Q' hq q => by
  refine TMono.m (t := c) _ _ _ (fun k δ' z => ?_) q
  cases k with
  | true => exact hq _ _ z
  | false => exact TMono.m (t := c') _ _ _ hq z⟩
instance [TMono c] : TMono (dNot c) := ⟨fun δ Q Q' hq q => TMono.m (t := c) _ _ _ (fun _ _ z => hq _ _ z) q⟩
instance [LMono l] : LMono (iRg1 l) := ⟨fun δ Q Q' hq q => by
  refine LMono.m (t := l) _ _ _ (fun d δ' z => ?_) q
  split at z
  · exact ⟨z.1, z.2.1, hq _ _ z.2.2⟩
  · exact z⟩
instance {i : Nat} : GMono (gNm i) := ⟨fun d δ Q Q' hq q => hq _ q⟩
instance : SMono (dNx) := ⟨fun N N' δ le q => le.nx _ q⟩
instance : SMono (dNever) := ⟨fun N N' δ le q => q⟩
instance [SMono s] [SMono s'] : SMono (dSeq s s') := ⟨fun N N' δ le q => SMono.m (t := s) { N with nx := s' N } { N' with nx := s' N' } _ ⟨fun δ z => SMono.m (t := s') _ _ _ le z, le.rt, le.ro, le.bk, le.ct⟩ q⟩
instance [EMono ta] : SMono (dRet ta) := ⟨fun N N' δ le q => EMono.m (t := ta) _ _ _ (fun _ _ z => le.rt _ _ z) q⟩
instance [LMono l] : SMono (dRetO l) := ⟨fun N N' δ le q => LMono.m (t := l) _ _ _ (fun _ _ z => le.ro _ _ z) q⟩
instance [EMono ta] : SMono (dDrop ta) := ⟨fun N N' δ le q => EMono.m (t := ta) _ _ _ (fun _ _ z => le.nx _ z) q⟩
instance [TMono c] [SMono s] [SMono s'] : SMono (dIfS c s s') := ⟨fun N N' δ le q => by
  refine TMono.m (t := c) _ _ _ (fun k δ' z => ?_) q
  cases k with
  | true => exact SMono.m (t := s) _ _ _ le z
  | false => exact SMono.m (t := s') _ _ _ le z⟩
instance {i : Nat} [EMono ta] : SMono (dSet i ta) := ⟨fun N N' δ le q => EMono.m (t := ta) _ _ _ (fun _ _ z => le.nx _ z) q⟩
instance {i : Nat} [LMono l] : SMono (dSetO i l) := ⟨fun N N' δ le q => LMono.m (t := l) _ _ _ (fun _ _ z => le.nx _ z) q⟩
instance {i j : Nat} [LMono l] : SMono (dPar i j l) := ⟨fun N N' δ le q => by
  refine LMono.m (t := l) _ _ _ (fun ds δ' z => ?_) q
  split at z
  · exact le.nx _ z
  · exact z⟩
instance {i : Nat} [EMono ta] [EMono tb] : SMono (dSetIx i ta tb) := ⟨fun N N' δ le q => by
  refine EMono.m (t := ta) _ _ _ (fun d δ' z => ?_) q
  split at z
  · refine EMono.m (t := tb) _ _ _ (fun e δ2 z => ?_) z
    split at z
    · obtain ⟨j, e, z⟩ := z
      exact ⟨j, e, le.nx _ z⟩
    · exact z
  · exact z⟩
theorem dForL_mono [GMono g] [SMono s] {N N' : DEnds} (le : N.Le N') : ∀ (items : List PyData) (δ : DSt), dForL g s N items δ → dForL g s N' items δ
  | [], δ, q => le.nx _ q
  | d :: r, δ, q => GMono.m (t := g) _ _ _ _ (fun δ' z => SMono.m (t := s) { N with nx := dForL g s N r, ct := dForL g s N r, bk := N.nx } { N' with nx := dForL g s N' r, ct := dForL g s N' r, bk := N'.nx } _ ⟨fun δ z => dForL_mono le r δ z, le.rt, le.ro, fun δ z => le.nx _ z, fun δ z => dForL_mono le r δ z⟩ z) q
instance [LMono l] [GMono g] [SMono s] : SMono (dFor l g s) := ⟨fun N N' δ le q => LMono.m (t := l) _ _ _ (fun items δ' z => dForL_mono le items δ' z) q⟩
instance [TMono c] [SMono s] : SMono (dWhile c s) := ⟨fun N N' δ le q => by
  obtain ⟨W, w0, turn⟩ := q
  refine ⟨W, w0, fun m δ w => TMono.m (t := c) _ _ _ (fun b δ1 z => ?_) (turn m δ w)⟩
  cases b with
  | true => exact SMono.m (t := s) { N with nx := fun δ' => ∃ m', m' < m ∧ W m' δ', ct := fun δ' => ∃ m', m' < m ∧ W m' δ', bk := N.nx } { N' with nx := fun δ' => ∃ m', m' < m ∧ W m' δ', ct := fun δ' => ∃ m', m' < m ∧ W m' δ', bk := N'.nx } _ ⟨fun _ z => z, le.rt, le.ro, fun _ z => le.nx _ z, fun _ z => z⟩ z
  | false => exact le.nx _ z⟩
/-- a statement, then others, met at J -/
theorem seq_at [SMono s] {N : DEnds} {δ : DSt} (J : DSt → Prop) (h1 : s { N with nx := J } δ) (h2 : ∀ δ, J δ → s' N δ) : dSeq s s' N δ :=
  SMono.m (t := s) { N with nx := J } { N with nx := s' N } _ ⟨fun δ z => h2 δ z, fun _ _ z => z, fun _ _ z => z, fun _ z => z, fun _ z => z⟩ h1
/-- a for by its invariant -/
theorem for_at [GMono g] [SMono s] {N : DEnds} {items : List PyData} {δ : DSt} (W : Nat → DSt → Prop) (h0 : W 0 δ)
    (hs : ∀ i d δ, items[i]? = some d → W i δ → g d δ fun δ' => s { N with nx := W (i + 1), ct := W (i + 1), bk := N.nx } δ') (hd : ∀ δ, W items.length δ → N.nx δ) : dForL g s N items δ := by
  have aux : ∀ (n i : Nat) (δ : DSt), i + n = items.length → W i δ → dForL g s N (items.drop i) δ := by
    intro n
    induction n with
    | zero =>
      intro i δ e w
      have e : i = items.length := by omega
      subst e
      rw [List.drop_length]
      exact hd δ w
    | succ n ih =>
      intro i δ e w
      have hi : i < items.length := by omega
      rw [List.drop_eq_getElem_cons hi]
      refine GMono.m (t := g) _ _ _ _ (fun δ' z => SMono.m (t := s) { N with nx := W (i + 1), ct := W (i + 1), bk := N.nx } { N with nx := dForL g s N (items.drop (i + 1)), ct := dForL g s N (items.drop (i + 1)), bk := N.nx } _ ⟨fun δ z => ih (i + 1) δ (by omega) z, fun _ _ z => z, fun _ _ z => z, fun _ z => z, fun δ z => ih (i + 1) δ (by omega) z⟩ z) (hs i _ δ (List.getElem?_eq_getElem hi) w)
  have := aux items.length 0 δ (by omega) h0
  rw [List.drop_zero] at this
  exact this
theorem for_op [GMono g] [SMono s] {N : DEnds} {items : List PyData} {δ : DSt} (W : Nat → DSt → Prop) (h0 : W 0 δ)
    (hs : ∀ W' : Nat → DSt → Prop, (∀ i δ, W i δ → W' i δ) → ∀ i d δ, items[i]? = some d → W i δ → g d δ fun δ' => s { N with nx := W' (i + 1), ct := W' (i + 1), bk := N.nx } δ') (hd : ∀ δ, W items.length δ → N.nx δ) : dForL g s N items δ := for_at W h0 (hs W fun _ _ h => h) hd
end
end DL

namespace DM
/-! plain arithmetic: quotients and their sizes -/
theorem fdiv_neg_exact {a g k : Int} (hg : 0 < g) (h : a = g * k) : a.fdiv (-g) = -k := by
  have e : a = (-g) * (-k) := by rw [h, Int.neg_mul_neg]
  rw [e]
  exact Int.mul_fdiv_cancel_left _ (by omega)
/-- top // both, bottom // both is the number in lowest terms -/
theorem num_pos {t b : Int} (hb : 0 < b) : t.fdiv (Int.gcd t b : Nat) = (Rat.divInt t b).num := by
  rw [Rat.num_divInt, Int.sign_eq_one_of_pos hb, Int.one_mul, Int.gcd_comm]
  exact Int.fdiv_eq_ediv_of_nonneg _ (by omega)
theorem den_pos' {t b : Int} (hb : 0 < b) : b.fdiv (Int.gcd t b : Nat) = ((Rat.divInt t b).den : Int) := by
  rw [Rat.den_divInt, if_neg (by omega), Int.gcd_comm, Int.fdiv_eq_ediv_of_nonneg _ (by omega)]
  rw [Int.natCast_ediv, show (b.natAbs : Int) = b by omega]
theorem num_neg {t b : Int} (hb : b < 0) : t.fdiv (0 - (Int.gcd t b : Nat)) = (Rat.divInt t b).num := by
  have hg : 0 < Int.gcd t b := Int.gcd_pos_of_ne_zero_right _ (by omega)
  obtain ⟨k, hk⟩ := Int.gcd_dvd_left t b
  rw [Int.zero_sub, fdiv_neg_exact (by omega) hk, Rat.num_divInt, Int.sign_eq_neg_one_of_neg hb, Int.gcd_comm b t]
  have e : -1 * t = (Int.gcd t b : Int) * (-k) := by rw [Int.mul_neg, ← hk]; omega
  rw [e, Int.mul_ediv_cancel_left _ (by omega)]
theorem den_neg {t b : Int} (hb : b < 0) : b.fdiv (0 - (Int.gcd t b : Nat)) = ((Rat.divInt t b).den : Int) := by
  have hg : 0 < Int.gcd t b := Int.gcd_pos_of_ne_zero_right _ (by omega)
  obtain ⟨k, hk⟩ := Int.gcd_dvd_right t b
  rw [Int.zero_sub, fdiv_neg_exact (by omega) hk, Rat.den_divInt, if_neg (by omega), Int.gcd_comm b t]
  have e : (b.natAbs : Int) = (Int.gcd t b : Int) * (-k) := by rw [Int.mul_neg, ← hk]; omega
  rw [Int.natCast_ediv, e, Int.mul_ediv_cancel_left _ (by omega)]
/-- gcd, one turn -/
theorem gcd_turn {a b : Int} (ha : 0 ≤ a) (hb : 0 < b) : Int.gcd b (a.fmod b) = Int.gcd a b := by
  rw [Int.fmod_eq_emod_of_nonneg _ (by omega), Int.gcd_comm a b]
  obtain ⟨m, rfl⟩ := Int.eq_ofNat_of_zero_le ha
  obtain ⟨n, rfl⟩ := Int.eq_ofNat_of_zero_le (Int.le_of_lt hb)
  rw [← Int.natCast_emod, Int.gcd_natCast_natCast, Int.gcd_natCast_natCast, Nat.gcd_comm n (m % n), ← Nat.gcd_rec]
theorem gcd_zero {a : Int} (ha : 0 ≤ a) : (Int.gcd a 0 : Int) = a := by
  rw [Int.gcd_zero_right]; omega
theorem abs_if (i : Int) : (if i < 0 then -i else i) = (i.natAbs : Int) := by split <;> omega
/-! sizes -/
def Bd (n : Nat) (q : Rat) : Prop := q.num.natAbs < 2 ^ n ∧ q.den < 2 ^ n
theorem Bd.mono {m n : Nat} {q : Rat} (h : Bd m q) (e : m ≤ n) : Bd n q :=
  ⟨Nat.lt_of_lt_of_le h.1 (Nat.pow_le_pow_right (by omega) e), Nat.lt_of_lt_of_le h.2 (Nat.pow_le_pow_right (by omega) e)⟩
theorem bd_divInt {n : Nat} {t b : Int} (ht : t.natAbs < 2 ^ n) (hb : b.natAbs < 2 ^ n) (h0 : b ≠ 0) : Bd n (Rat.divInt t b) := by
  constructor
  · rw [Rat.num_divInt, Int.natAbs_ediv_of_dvd (Int.dvd_trans (Int.gcd_dvd_right b t) (Int.dvd_mul_left ..)), Int.natAbs_mul, Int.natAbs_sign_of_ne_zero h0, Nat.one_mul]
    exact Nat.lt_of_le_of_lt (Nat.div_le_self ..) ht
  · rw [Rat.den_divInt, if_neg h0]
    exact Nat.lt_of_le_of_lt (Nat.div_le_self ..) hb
theorem Bd.pos {n : Nat} {q : Rat} (h : Bd n q) : 0 < n := by
  have := h.2
  have := q.den_pos
  cases n with
  | zero => simp at *; omega
  | succ n => omega
theorem mul_lt_pow {a b m n : Nat} (ha : a < 2 ^ m) (hb : b < 2 ^ n) : a * b < 2 ^ (m + n) := by
  rw [Nat.pow_add]
  exact Nat.mul_lt_mul'' ha hb
theorem add_lt_pow {a b m : Nat} (ha : a < 2 ^ m) (hb : b < 2 ^ m) : a + b < 2 ^ (m + 1) := by
  rw [Nat.pow_succ]
  omega
theorem add_divInt (u v : Rat) : u + v = Rat.divInt (u.num * v.den + v.num * u.den) ((u.den : Int) * v.den) := by
  rw [Rat.add_def', ← Rat.divInt_ofNat, Int.natCast_mul]
theorem mul_divInt (u v : Rat) : u * v = Rat.divInt (u.num * v.num) ((u.den : Int) * v.den) := by
  rw [Rat.mul_def', ← Rat.divInt_ofNat, Int.natCast_mul]
theorem sub_divInt (u v : Rat) : u - v = Rat.divInt (u.num * v.den - v.num * u.den) ((u.den : Int) * v.den) := by
  rw [Rat.sub_def', ← Rat.divInt_ofNat, Int.natCast_mul]
theorem div_divInt (u v : Rat) : u / v = Rat.divInt (u.num * v.den) ((u.den : Int) * v.num) := by
  rw [Rat.div_def, Rat.inv_def, ← Rat.num_divInt_den u, Rat.divInt_mul_divInt, Rat.num_divInt_den]
theorem den_ne (u : Rat) : (u.den : Int) ≠ 0 := by have := u.den_pos; omega
theorem den_mul_ne (u v : Rat) : (u.den : Int) * v.den ≠ 0 := Int.mul_ne_zero (den_ne u) (den_ne v)
theorem nat_add {m n : Nat} {u v : Rat} (hu : Bd m u) (hv : Bd n v) : (u.num * v.den + v.num * u.den).natAbs < 2 ^ (m + n + 1) := by
  refine Nat.lt_of_le_of_lt (Int.natAbs_add_le ..) ?_
  rw [Int.natAbs_mul, Int.natAbs_mul, Int.natAbs_natCast, Int.natAbs_natCast]
  refine add_lt_pow (mul_lt_pow hu.1 hv.2) ?_
  rw [Nat.add_comm m n]
  exact mul_lt_pow hv.1 hu.2
theorem nat_den {m n : Nat} {u v : Rat} (hu : Bd m u) (hv : Bd n v) : ((u.den : Int) * v.den).natAbs < 2 ^ (m + n) := by
  rw [Int.natAbs_mul, Int.natAbs_natCast, Int.natAbs_natCast]
  exact mul_lt_pow hu.2 hv.2
theorem Bd.add {m n : Nat} {u v : Rat} (hu : Bd m u) (hv : Bd n v) : Bd (m + n + 1) (u + v) := by
  rw [add_divInt]
  exact bd_divInt (nat_add hu hv) (Nat.lt_of_lt_of_le (nat_den hu hv) (Nat.pow_le_pow_right (by omega) (by omega))) (den_mul_ne u v)
theorem Bd.neg {m : Nat} {u : Rat} (hu : Bd m u) : Bd m (-u) := ⟨by rw [Rat.neg_num, Int.natAbs_neg]; exact hu.1, by rw [Rat.neg_den]; exact hu.2⟩
theorem Bd.sub {m n : Nat} {u v : Rat} (hu : Bd m u) (hv : Bd n v) : Bd (m + n + 1) (u - v) := by
  rw [Rat.sub_eq_add_neg]
  exact hu.add hv.neg
theorem Bd.mul {m n : Nat} {u v : Rat} (hu : Bd m u) (hv : Bd n v) : Bd (m + n) (u * v) := by
  rw [mul_divInt]
  refine bd_divInt ?_ (nat_den hu hv) (den_mul_ne u v)
  rw [Int.natAbs_mul]
  exact mul_lt_pow hu.1 hv.1
theorem Bd.div {m n : Nat} {u v : Rat} (hu : Bd m u) (hv : Bd n v) (h0 : v ≠ 0) : Bd (m + n) (u / v) := by
  rw [div_divInt]
  have hn : v.num ≠ 0 := fun e => h0 (Rat.num_eq_zero.mp e)
  refine bd_divInt ?_ ?_ (Int.mul_ne_zero (den_ne u) hn)
  · rw [Int.natAbs_mul, Int.natAbs_natCast]
    exact mul_lt_pow hu.1 hv.2
  · rw [Int.natAbs_mul, Int.natAbs_natCast]
    exact mul_lt_pow hu.2 hv.1
theorem Bd.int {n : Nat} {i : Int} (h : i.natAbs < 2 ^ n) (hn : 0 < n) : Bd n (i : Rat) := by
  refine ⟨h, ?_⟩
  show 1 < 2 ^ n
  exact Nat.one_lt_two_pow (by omega)
theorem log2_lt {a n : Nat} (h : a < 2 ^ n) (hn : 0 < n) : a.log2 < n := by
  by_cases e : a = 0
  · subst e; simpa using hn
  · exact (Nat.log2_lt e).mpr h
end DM
namespace DL
open PySem PySem.Spec L2 DM
/-! ### places of written lists -/
theorem atI_0 {α : Type} {a : α} {r : List α} : atI (a :: r) 0 = some a := atI_nat (j := 0) rfl
theorem atI_1 {α : Type} {a b : α} {r : List α} : atI (a :: b :: r) 1 = some b := atI_nat (j := 1) rfl
theorem atI_2 {α : Type} {a b c : α} {r : List α} : atI (a :: b :: c :: r) 2 = some c := atI_nat (j := 2) rfl
theorem atI_3 {α : Type} {a b c d : α} {r : List α} : atI (a :: b :: c :: d :: r) 3 = some d := atI_nat (j := 3) rfl
theorem atI_4 {α : Type} {a b c d e : α} {r : List α} : atI (a :: b :: c :: d :: e :: r) 4 = some e := atI_nat (j := 4) rfl
theorem ixN_0 {n : Nat} : ixN (n + 1) 0 = some 0 := by unfold ixN; rw [if_pos (by omega), if_pos (by omega)]; rfl
theorem ixN_1 {n : Nat} : ixN (n + 2) 1 = some 1 := by unfold ixN; rw [if_pos (by omega), if_pos (by omega)]; rfl
theorem ixN_2 {n : Nat} : ixN (n + 3) 2 = some 2 := by unfold ixN; rw [if_pos (by omega), if_pos (by omega)]; rfl
theorem atI_of {α : Type} {xs : List α} {i : Int} (h0 : 0 ≤ i) (h1 : i < xs.length) : ∃ z, atI xs i = some z ∧ xs[i.toNat]? = some z := by
  have hi : i.toNat < xs.length := by omega
  refine ⟨xs[i.toNat], ?_, List.getElem?_eq_getElem hi⟩
  have := atI_nat (xs := xs) (j := i.toNat) (List.getElem?_eq_getElem hi)
  rw [Int.toNat_of_nonneg h0] at this
  exact this
theorem atI_ints {ns : List Int} {i : Int} (h0 : 0 ≤ i) (h1 : i < ns.length) : ∃ z : Int, atI (ns.map PyData.int) i = some (.int z) ∧ ns[i.toNat]? = some z := by
  obtain ⟨z, e1, e2⟩ := atI_of (xs := ns.map PyData.int) h0 (by rw [List.length_map]; exact h1)
  rw [List.getElem?_map] at e2
  cases q : ns[i.toNat]? with
  | none => rw [q] at e2; cases e2
  | some y =>
    rw [q] at e2
    cases e2
    exact ⟨y, e1, rfl⟩
theorem pick4 {a b c f d : Int} (h0 : 0 ≤ d) (h1 : d < 4) : ∃ z : Int, (z = a ∨ z = b ∨ z = c ∨ z = f) ∧ atI [PyData.int a, PyData.int b, PyData.int c, PyData.int f] d = some (.int z) := by
  rcases (show d = 0 ∨ d = 1 ∨ d = 2 ∨ d = 3 by omega) with e | e | e | e <;> subst e
  · exact ⟨a, .inl rfl, atI_0⟩
  · exact ⟨b, .inr (.inl rfl), atI_1⟩
  · exact ⟨c, .inr (.inr (.inl rfl)), atI_2⟩
  · exact ⟨f, .inr (.inr (.inr rfl)), atI_3⟩
/-! ### sizes that the rules ask -/
theorem mulW {i j : Int} {a b : Nat} (ha : i.natAbs < 2 ^ a) (hb : j.natAbs < 2 ^ b) (h : a + b ≤ 900000) : CMulW i j :=
  wide_mul (Nat.lt_of_lt_of_le ha (Nat.pow_le_pow_right (by omega) (show a ≤ a + 1 by omega))) (Nat.lt_of_lt_of_le hb (Nat.pow_le_pow_right (by omega) (show b ≤ b + 1 by omega))) (by omega) (by omega) (by omega)
theorem mul64 {i j : Int} (h1 : -18446744073709551616 < i) (h2 : i < 18446744073709551616) (h3 : -18446744073709551616 < j) (h4 : j < 18446744073709551616) : CMulW i j :=
  mulW (a := 64) (b := 64) (by have : (2 : Nat) ^ 64 = 18446744073709551616 := by decide
                               omega) (by have : (2 : Nat) ^ 64 = 18446744073709551616 := by decide
                                          omega) (by decide)
theorem divA {i j : Int} {b : Nat} (h0 : j ≠ 0) (hb : j.natAbs < 2 ^ b) (h : b ≤ 9000) : CDivA i j := by
  refine ⟨h0, Nat.lt_of_lt_of_le (log2_lt (Nat.lt_of_lt_of_le hb (Nat.pow_le_pow_right (by omega) h)) (by omega)) (Nat.le_refl _)⟩
theorem div64 {i j : Int} (h0 : j ≠ 0) (h3 : -18446744073709551616 < j) (h4 : j < 18446744073709551616) : CDivA i j :=
  divA (b := 64) h0 (by have : (2 : Nat) ^ 64 = 18446744073709551616 := by decide
                        omega) (by decide)
theorem fmod_in {a b : Int} (h : 0 < b) : 0 ≤ a.fmod b ∧ a.fmod b < b := ⟨Int.fmod_nonneg_of_pos a h, Int.fmod_lt_of_pos a h⟩
theorem fdiv_nn {a b : Int} (ha : 0 ≤ a) (h : 0 < b) : 0 ≤ a.fdiv b := Int.fdiv_nonneg ha (by omega)
theorem mul_in {a b A B : Int} (ha : 0 ≤ a) (hA : a ≤ A) (hb : 0 ≤ b) (hB : b ≤ B) : 0 ≤ a * b ∧ a * b ≤ A * B := ⟨Int.mul_nonneg ha hb, Int.mul_le_mul hA hB hb (by omega)⟩
/-! ### promises in short -/
section
variable {α β γ κ ε : Type}
def fn2 (a : α → PyData) (b : β → PyData) (pre : α → β → Prop) (g : α → β → PyData) : FP := fun ds Q => ∃ x y, ds = [a x, b y] ∧ pre x y ∧ Q (.d (g x y))
theorem fm2 {a : α → PyData} {b : β → PyData} {pre : α → β → Prop} {g : α → β → PyData} : FMono (fn2 a b pre g) := ⟨fun ds Q Q' hq ⟨x, y, e, p, q⟩ => ⟨x, y, e, p, hq _ q⟩⟩
theorem ln2 {a : α → PyData} {b : β → PyData} {pre : α → β → Prop} {g : α → β → PyData} : ∀ ds Q, fn2 a b pre g ds Q → ds.length = 2 := fun ds Q ⟨x, y, e, _⟩ => by rw [e]; rfl
theorem fn2_ap {a : α → PyData} {b : β → PyData} {pre : α → β → Prop} {g : α → β → PyData} (ia : ∀ x y, a x = a y → x = y) (ib : ∀ x y, b x = b y → x = y) {x : α} {y : β} {Q : Res → Prop} : fn2 a b pre g [a x, b y] Q = (pre x y ∧ Q (.d (g x y))) := propext ⟨fun ⟨x', y', e, p, q⟩ => by
  injection e with e1 e2
  injection e2 with e2 _
  rw [ia _ _ e1, ib _ _ e2]
  exact ⟨p, q⟩, fun ⟨p, q⟩ => ⟨x, y, rfl, p, q⟩⟩
theorem int_inj (x y : Int) (h : PyData.int x = PyData.int y) : x = y := PyData.int.inj h
/-- a law's bag of draws, drawn from at most n times -/
def BagOk (n : Nat) (xs : List PyData) : Prop := ∃ g m s : Int, xs = [.int g, .int m, .int s] ∧ 0 ≤ g ∧ 0 ≤ m ∧ m < 2305843009213693952 ∧ 0 ≤ s ∧ s ≤ n
theorem BagOk.mono {m n : Nat} {xs : List PyData} (h : BagOk m xs) (e : m ≤ n) : BagOk n xs := by
  obtain ⟨g, k, s, h1, h2, h3, h4, h5, h6⟩ := h
  exact ⟨g, k, s, h1, h2, h3, h4, h5, by omega⟩
def mostDraws : Nat := 1000000
/-- draws some a with post, by at most c draws -/
def bg0 (c : Nat) (r : α → PyData) (post : α → Prop) : FB := fun xs ds Q => ∃ n, BagOk n xs ∧ n + c ≤ mostDraws ∧ ds = [] ∧ ∀ a xs', post a → BagOk (n + c) xs' → Q (.d (r a)) xs'
def bg1 (c : Nat) (b : β → PyData) (pre : β → Prop) (r : α → PyData) (post : β → α → Prop) : FB := fun xs ds Q => ∃ n x, BagOk n xs ∧ n + c ≤ mostDraws ∧ ds = [b x] ∧ pre x ∧ ∀ a xs', post x a → BagOk (n + c) xs' → Q (.d (r a)) xs'
theorem bm0 {c : Nat} {r : α → PyData} {post : α → Prop} : BMono (bg0 c r post) := ⟨fun xs ds Q Q' hq ⟨n, h1, h2, h3, h⟩ => ⟨n, h1, h2, h3, fun a xs' p b => hq _ _ (h a xs' p b)⟩⟩
theorem bm1 {c : Nat} {b : β → PyData} {pre : β → Prop} {r : α → PyData} {post : β → α → Prop} : BMono (bg1 c b pre r post) := ⟨fun xs ds Q Q' hq ⟨n, x, h1, h2, h3, h4, h⟩ => ⟨n, x, h1, h2, h3, h4, fun a xs' p b => hq _ _ (h a xs' p b)⟩⟩
theorem bl0 {c : Nat} {r : α → PyData} {post : α → Prop} : ∀ xs ds Q, bg0 c r post xs ds Q → ds.length + 1 = 1 := fun xs ds Q ⟨n, h1, h2, h3, h⟩ => by rw [h3]; rfl
theorem bl1 {c : Nat} {b : β → PyData} {pre : β → Prop} {r : α → PyData} {post : β → α → Prop} : ∀ xs ds Q, bg1 c b pre r post xs ds Q → ds.length + 1 = 2 := fun xs ds Q ⟨n, x, h1, h2, h3, h⟩ => by rw [h3]; rfl
end
/-! ### the laws' own defs that every law has -/
def numD (q : Rat) : PyData := .tuple [.int q.num, .int (q.den : Int)]
theorem numD_inj {a b : Rat} : numD a = numD b ↔ a = b := by
  constructor
  · intro h
    unfold numD at h
    injection h with h
    injection h with h1 h2
    injection h1 with h1
    injection h2 with h2
    injection h2 with h2
    exact Rat.ext h1 (by omega)
  · intro h
    rw [h]
def f_bag : FP := fun ds Q => ∃ (ns : List Int) (k : Int), ds = [.list (ns.map .int), .int k] ∧ ns.length ≤ 63 ∧ 0 ≤ k ∧ k ≤ 1000 ∧ ∀ xs, BagOk 0 xs → Q (.o xs)
theorem fm_bag : FMono f_bag := ⟨fun ds Q Q' hq ⟨ns, k, h1, h2, h3, h4, h⟩ => ⟨ns, k, h1, h2, h3, h4, fun xs b => hq _ (h xs b)⟩⟩
theorem ln_bag : ∀ ds Q, f_bag ds Q → ds.length = 2 := fun ds Q ⟨ns, k, e, _⟩ => by rw [e]; rfl
def f_take : FB := bg1 1 PyData.int (fun m => 0 < m ∧ m < 2 ^ 64) PyData.int (fun m d => 0 ≤ d ∧ d < m)
def f_shared : FP := fn2 PyData.int PyData.int (fun _ _ => True) (fun a b => .int (Int.gcd a b : Nat))
def f_ratio : FP := fn2 PyData.int PyData.int (fun _ b => b ≠ 0 ∧ b.natAbs < 2 ^ 9000) (fun a b => numD (Rat.divInt a b))
theorem num_int {i : Int} : PyData.tuple [.int i, .int 1] = numD (i : Rat) := rfl
theorem num_inj (x y : Rat) (h : numD x = numD y) : x = y := numD_inj.mp h
theorem ap_shared {a b : Int} {Q : Res → Prop} : f_shared [.int a, .int b] Q = (True ∧ Q (.d (.int (Int.gcd a b : Nat)))) := fn2_ap int_inj int_inj
theorem ap_ratio {a b : Int} {Q : Res → Prop} : f_ratio [.int a, .int b] Q = ((b ≠ 0 ∧ b.natAbs < 2 ^ 9000) ∧ Q (.d (numD (Rat.divInt a b)))) := fn2_ap int_inj int_inj
theorem take_at {xs : List PyData} {n : Nat} {m : Int} {Q : Res → List PyData → Prop} (hb : BagOk n xs) (hn : n + 1 ≤ mostDraws) (h0 : 0 < m) (h1 : m < 2 ^ 64) (h : ∀ (d : Int) xs', 0 ≤ d → d < m → BagOk (n + 1) xs' → Q (.d (.int d)) xs') : f_take xs [.int m] Q :=
  ⟨n, m, hb, hn, rfl, ⟨h0, h1⟩, fun a xs' p b => h a xs' p.1 p.2 b⟩
instance : BMono f_take := bm1
instance : FMono f_shared := fm2
instance : FMono f_ratio := fm2
instance : FMono f_bag := fm_bag
theorem ratio_bd {t b : Int} {n : Nat} (h0 : b ≠ 0) (h1 : t.natAbs < 2 ^ n) (h2 : b.natAbs < 2 ^ n) : Bd n (Rat.divInt t b) := bd_divInt h1 h2 h0
def f_number : FB := bg0 4 numD (Bd 30)
instance : BMono f_number := bm0
theorem number_at {xs : List PyData} {n : Nat} {Q : Res → List PyData → Prop} (hb : BagOk n xs) (hn : n + 4 ≤ mostDraws) (h : ∀ (u : Rat) xs', Bd 30 u → BagOk (n + 4) xs' → Q (.d (numD u)) xs') : f_number xs [] Q :=
  ⟨n, hb, hn, rfl, h⟩
def f_law : FP := fun ds Q => ∃ ns : List Int, ds = [.list (ns.map .int)] ∧ ns.length ≤ 63 ∧ Q (.d (.bool true))
theorem fm_law : FMono f_law := ⟨fun ds Q Q' hq ⟨ns, h1, h2, h⟩ => ⟨ns, h1, h2, hq _ h⟩⟩
theorem ln_law : ∀ ds Q, f_law ds Q → ds.length = 1 := fun ds Q ⟨ns, e, _⟩ => by rw [e]; rfl
end DL
namespace DL
open PySem PySem.Spec L2 DM
end DL

namespace DL
open PySem PySem.Spec L2 DM
/-! ### how readings are simplified -/
theorem rII_int {C : Int → Int → Prop} {g : Int → Int → PyData} {i j : Int} {Q : PyData → Prop} : rII C g (.int i) (.int j) Q = (C i j ∧ Q (g i j)) := rfl
theorem rIx_tup {xs : List PyData} {i : Int} {Q : PyData → Prop} : DL.rIx (.tuple xs) (.int i) Q = (∃ z, atI xs i = some z ∧ Q z) := rfl
theorem rIx_list {xs : List PyData} {i : Int} {Q : PyData → Prop} : DL.rIx (.list xs) (.int i) Q = (∃ z, atI xs i = some z ∧ Q z) := rfl
theorem rIx_num0 {u : Rat} {Q : PyData → Prop} : DL.rIx (numD u) (.int 0) Q = Q (.int u.num) := by
  unfold numD
  rw [rIx_tup, atI_0]
  simp only [Option.some.injEq, exists_eq_left']
theorem rIx_num1 {u : Rat} {Q : PyData → Prop} : DL.rIx (numD u) (.int 1) Q = Q (.int (u.den : Int)) := by
  unfold numD
  rw [rIx_tup, atI_1]
  simp only [Option.some.injEq, exists_eq_left']
theorem asD_d {d : PyData} : asD (.d d) = d := rfl
theorem asD_o {xs : List PyData} : asD (.o xs) = .list xs := rfl
theorem tru_none : tru .none = some false := rfl
theorem tru_bool {b : Bool} : tru (.bool b) = some b := rfl
theorem tru_int {i : Int} : tru (.int i) = some (i != 0) := rfl
theorem tru_list {xs : List PyData} : tru (.list xs) = some (!xs.isEmpty) := rfl
theorem tru_tuple {xs : List PyData} : tru (.tuple xs) = some (!xs.isEmpty) := rfl
theorem tru_num {u : Rat} : tru (numD u) = some true := rfl
theorem rLen_list {xs : List PyData} {Q : PyData → Prop} : rLen [.list xs] Q = Q (.int xs.length) := rfl
theorem rLen_tuple {xs : List PyData} {Q : PyData → Prop} : rLen [.tuple xs] Q = Q (.int xs.length) := rfl
theorem rLen_str {x : Str} {Q : PyData → Prop} : rLen [.str x] Q = (x.length ≤ sizeLine ∧ Q (.int x.length)) := rfl
theorem rLen_num {u : Rat} {Q : PyData → Prop} : rLen [numD u] Q = Q (.int 2) := rfl
theorem sh_none : SeqAt.shaped .none = true := rfl
theorem sh_bool {b : Bool} : SeqAt.shaped (.bool b) = true := rfl
theorem sh_int {i : Int} : SeqAt.shaped (.int i) = true := rfl
theorem sh_num {u : Rat} : SeqAt.shaped (numD u) = true := rfl
theorem sh_nn {u v : Rat} : SeqAt.shaped (.tuple [numD u, numD v]) = true := rfl
theorem eqv_nn : PyData.eqv .none .none = true := rfl
theorem eqv_bb {a b : Bool} : PyData.eqv (.bool a) (.bool b) = (a == b) := rfl
theorem eqv_ii {a b : Int} : PyData.eqv (.int a) (.int b) = (a == b) := rfl
theorem eqv_ss {a b : Str} : PyData.eqv (.str a) (.str b) = (a == b) := rfl
theorem eqv_tt {a b : List PyData} : PyData.eqv (.tuple a) (.tuple b) = PyData.eqvAll a b := rfl
theorem eqv_ll {a b : List PyData} : PyData.eqv (.list a) (.list b) = PyData.eqvAll a b := rfl
theorem eqvAll_nil : PyData.eqvAll [] [] = true := rfl
theorem eqvAll_cons {a b : PyData} {r s : List PyData} : PyData.eqvAll (a :: r) (b :: s) = (PyData.eqv a b && PyData.eqvAll r s) := rfl
theorem eqv_num {u v : Rat} : PyData.eqv (numD u) (numD v) = decide (u = v) := by
  unfold numD
  rw [eqv_tt, eqvAll_cons, eqvAll_cons, eqvAll_nil, eqv_ii, eqv_ii]
  by_cases h : u = v
  · subst h
    simp
  · rw [decide_eq_false h]
    rw [Bool.and_true, Bool.and_eq_false_iff]
    by_cases e : u.num = v.num
    · right
      rw [beq_eq_false_iff_ne]
      intro z
      exact h (Rat.ext e (by omega))
    · left
      rw [beq_eq_false_iff_ne]
      exact e
theorem eqv_num_none {u : Rat} : PyData.eqv (numD u) .none = false := rfl
theorem eqv_none_num {u : Rat} : PyData.eqv .none (numD u) = false := rfl
theorem isT_int_NoneType : isT "int" (tyName (.none)) = false := by
  show isT "int" "NoneType" = false
  decide
theorem isT_int_bool {b : Bool} : isT "int" (tyName (.bool b)) = true := by
  show isT "int" "bool" = true
  decide
theorem isT_int_int {b : Int} : isT "int" (tyName (.int b)) = true := by
  show isT "int" "int" = true
  decide
theorem isT_int_str {b : Str} : isT "int" (tyName (.str b)) = false := by
  show isT "int" "str" = false
  decide
theorem isT_int_list {b : List PyData} : isT "int" (tyName (.list b)) = false := by
  show isT "int" "list" = false
  decide
theorem isT_int_tuple {b : List PyData} : isT "int" (tyName (.tuple b)) = false := by
  show isT "int" "tuple" = false
  decide
theorem noF_num {b : Rat} : noF (numD b) = true := rfl
theorem isT_int_num {b : Rat} : isT "int" (tyName (numD b)) = false := by
  show isT "int" "tuple" = false
  decide
theorem isT_bool_NoneType : isT "bool" (tyName (.none)) = false := by
  show isT "bool" "NoneType" = false
  decide
theorem isT_bool_bool {b : Bool} : isT "bool" (tyName (.bool b)) = true := by
  show isT "bool" "bool" = true
  decide
theorem isT_bool_int {b : Int} : isT "bool" (tyName (.int b)) = false := by
  show isT "bool" "int" = false
  decide
theorem isT_bool_str {b : Str} : isT "bool" (tyName (.str b)) = false := by
  show isT "bool" "str" = false
  decide
theorem isT_bool_list {b : List PyData} : isT "bool" (tyName (.list b)) = false := by
  show isT "bool" "list" = false
  decide
theorem isT_bool_tuple {b : List PyData} : isT "bool" (tyName (.tuple b)) = false := by
  show isT "bool" "tuple" = false
  decide
theorem isT_bool_num {b : Rat} : isT "bool" (tyName (numD b)) = false := by
  show isT "bool" "tuple" = false
  decide
theorem isT_tuple_NoneType : isT "tuple" (tyName (.none)) = false := by
  show isT "tuple" "NoneType" = false
  decide
theorem isT_tuple_bool {b : Bool} : isT "tuple" (tyName (.bool b)) = false := by
  show isT "tuple" "bool" = false
  decide
theorem isT_tuple_int {b : Int} : isT "tuple" (tyName (.int b)) = false := by
  show isT "tuple" "int" = false
  decide
theorem isT_tuple_str {b : Str} : isT "tuple" (tyName (.str b)) = false := by
  show isT "tuple" "str" = false
  decide
theorem isT_tuple_list {b : List PyData} : isT "tuple" (tyName (.list b)) = false := by
  show isT "tuple" "list" = false
  decide
theorem isT_tuple_tuple {b : List PyData} : isT "tuple" (tyName (.tuple b)) = true := by
  show isT "tuple" "tuple" = true
  decide
theorem isT_tuple_num {b : Rat} : isT "tuple" (tyName (numD b)) = true := by
  show isT "tuple" "tuple" = true
  decide
theorem isT_str_NoneType : isT "str" (tyName (.none)) = false := by
  show isT "str" "NoneType" = false
  decide
theorem isT_str_bool {b : Bool} : isT "str" (tyName (.bool b)) = false := by
  show isT "str" "bool" = false
  decide
theorem isT_str_int {b : Int} : isT "str" (tyName (.int b)) = false := by
  show isT "str" "int" = false
  decide
theorem isT_str_str {b : Str} : isT "str" (tyName (.str b)) = true := by
  show isT "str" "str" = true
  decide
theorem isT_str_list {b : List PyData} : isT "str" (tyName (.list b)) = false := by
  show isT "str" "list" = false
  decide
theorem isT_str_tuple {b : List PyData} : isT "str" (tyName (.tuple b)) = false := by
  show isT "str" "tuple" = false
  decide
theorem isT_str_num {b : Rat} : isT "str" (tyName (numD b)) = false := by
  show isT "str" "tuple" = false
  decide
theorem isT_list_NoneType : isT "list" (tyName (.none)) = false := by
  show isT "list" "NoneType" = false
  decide
theorem isT_list_bool {b : Bool} : isT "list" (tyName (.bool b)) = false := by
  show isT "list" "bool" = false
  decide
theorem isT_list_int {b : Int} : isT "list" (tyName (.int b)) = false := by
  show isT "list" "int" = false
  decide
theorem isT_list_str {b : Str} : isT "list" (tyName (.str b)) = false := by
  show isT "list" "str" = false
  decide
theorem isT_list_list {b : List PyData} : isT "list" (tyName (.list b)) = true := by
  show isT "list" "list" = true
  decide
theorem isT_list_tuple {b : List PyData} : isT "list" (tyName (.tuple b)) = false := by
  show isT "list" "tuple" = false
  decide
theorem isT_list_num {b : Rat} : isT "list" (tyName (numD b)) = false := by
  show isT "list" "tuple" = false
  decide
theorem isT_int_dict {b : List (PyData × PyData)} : isT "int" (tyName (.dict b)) = false := by
  show isT "int" "dict" = false
  decide
theorem isT_bool_dict {b : List (PyData × PyData)} : isT "bool" (tyName (.dict b)) = false := by
  show isT "bool" "dict" = false
  decide
theorem isT_tuple_dict {b : List (PyData × PyData)} : isT "tuple" (tyName (.dict b)) = false := by
  show isT "tuple" "dict" = false
  decide
theorem isT_str_dict {b : List (PyData × PyData)} : isT "str" (tyName (.dict b)) = false := by
  show isT "str" "dict" = false
  decide
theorem isT_list_dict {b : List (PyData × PyData)} : isT "list" (tyName (.dict b)) = false := by
  show isT "list" "dict" = false
  decide
end DL

namespace DM
/-! whole roots -/
theorem rt_uniq {n r t : Int} (hr : 0 ≤ r) (ht : 0 ≤ t) (h1 : r * r ≤ n) (h2 : n < (r + 1) * (r + 1)) (h3 : t * t ≤ n) (h4 : n < (t + 1) * (t + 1)) : r = t := by
  rcases Int.lt_trichotomy r t with z | z | z
  · have : (r + 1) * (r + 1) ≤ t * t := Int.mul_le_mul (by omega) (by omega) (by omega) (by omega)
    omega
  · exact z
  · have : (t + 1) * (t + 1) ≤ r * r := Int.mul_le_mul (by omega) (by omega) (by omega) (by omega)
    omega
theorem sq_succ {r : Int} (h : 0 ≤ r) : r * r < (r + 1) * (r + 1) := by
  have : (r + 1) * (r + 1) = r * r + 2 * r + 1 := by grind
  omega
theorem rt_sq {r t : Int} (hr : 0 ≤ r) (ht : 0 ≤ t) (h1 : t * t ≤ r * r) (h2 : r * r < (t + 1) * (t + 1)) : t = r :=
  rt_uniq ht hr h1 h2 (Int.le_refl _) (sq_succ hr)
/-! roots of numbers -/
theorem rat_sq_num (r : Rat) : (r * r).num = r.num * r.num := by
  have := Rat.num_pow r 2
  rw [Rat.pow_succ, Rat.pow_one] at this
  rw [this]
  show r.num ^ 2 = _
  rw [Int.pow_succ, Int.pow_succ, Int.pow_zero, Int.one_mul]
theorem rat_sq_den (r : Rat) : (r * r).den = r.den * r.den := by
  have := Rat.den_pow r 2
  rw [Rat.pow_succ, Rat.pow_one] at this
  rw [this, Nat.pow_succ, Nat.pow_succ, Nat.pow_zero, Nat.one_mul]
theorem rat_sq_inj {r s : Rat} (hr : 0 ≤ r) (hs : 0 ≤ s) (h : r * r = s * s) : r = s := by
  have h1 : r.num * r.num = s.num * s.num := by rw [← rat_sq_num, ← rat_sq_num, h]
  have h2 : r.den * r.den = s.den * s.den := by rw [← rat_sq_den, ← rat_sq_den, h]
  have a := Rat.num_nonneg.mpr hr
  have b := Rat.num_nonneg.mpr hs
  refine Rat.ext (rt_sq b a (by omega) (by rw [← h1]; exact sq_succ a)) ?_
  have := rt_sq (r := (s.den : Int)) (t := (r.den : Int)) (by omega) (by omega) (by rw [← Int.natCast_mul, ← Int.natCast_mul, h2]; omega)
    (by rw [← Int.natCast_mul, ← h2, Int.natCast_mul]; exact sq_succ (by omega))
  omega
open Classical in
noncomputable def rt (u : Rat) : Option Rat := if h : ∃ r : Rat, 0 ≤ r ∧ r * r = u then some (Classical.choose h) else none
theorem rt_some {u r : Rat} (h : rt u = some r) : 0 ≤ r ∧ r * r = u := by
  unfold rt at h
  split at h
  · rename_i z
    cases h
    exact Classical.choose_spec z
  · cases h
theorem rt_of {u r : Rat} (h0 : 0 ≤ r) (h : r * r = u) : rt u = some r := by
  have z : ∃ r : Rat, 0 ≤ r ∧ r * r = u := ⟨r, h0, h⟩
  unfold rt
  rw [dif_pos z]
  obtain ⟨a, b⟩ := Classical.choose_spec z
  rw [rat_sq_inj a h0 (b.trans h.symm)]
theorem rt_num {u r : Rat} (h : rt u = some r) : 0 ≤ r.num ∧ r.num * r.num = u.num ∧ (r.den : Int) * r.den = u.den := by
  obtain ⟨h0, e⟩ := rt_some h
  refine ⟨Rat.num_nonneg.mpr h0, ?_, ?_⟩
  · rw [← rat_sq_num, e]
  · rw [← Int.natCast_mul, ← rat_sq_den, e]
theorem Bd.rt {n : Nat} {u r : Rat} (h : Bd n u) (e : rt u = some r) : Bd n r := by
  obtain ⟨h0, h1, h2⟩ := rt_num e
  have hd := r.den_pos
  constructor
  · refine Nat.lt_of_le_of_lt ?_ h.1
    rw [← h1, Int.natAbs_mul]
    rcases Nat.eq_zero_or_pos r.num.natAbs with z | z
    · omega
    · exact Nat.le_mul_of_pos_left _ z
  · refine Nat.lt_of_le_of_lt ?_ h.2
    have : r.den * r.den = u.den := by rw [← Int.natCast_mul] at h2; omega
    rw [← this]
    exact Nat.le_mul_of_pos_left _ hd
end DM
namespace DL
open PySem PySem.Spec L2 DM
theorem bits_le {n : Int} {k : Nat} (h : n.natAbs < 2 ^ k) (h0 : n ≠ 0) : Builtin.Int.intBits n ≤ k := by
  unfold Builtin.Int.intBits
  rw [if_neg (by simpa using h0)]
  have : n.natAbs.log2 < k := (Nat.log2_lt (by omega)).mpr h
  omega
theorem num_negd {u : Rat} : PyData.tuple [.int (0 - u.num), .int (u.den : Int)] = numD (-u) := by
  unfold numD
  rw [Rat.neg_num, Rat.neg_den, Int.zero_sub]
theorem bd_zero : Bd 1 0 := ⟨by decide, by decide⟩
theorem bd_one : Bd 1 1 := ⟨by decide, by decide⟩
end DL

namespace DL
open PySem PySem.Spec L2 DM
/-! ### calls by keywords -/
section
variable {K : Fg} {x qual : Str} {params : Arguments} {body : List Stmt} {scope : Scope} {dvs : List V} {kws : List (Str × V)} {f : Addr} {fd : FuncData} {ps : List Str}
/-- some values by their places, the others by keywords; there are defaults -/
theorem kb1 (F : FunD K x qual params body scope dvs kws f fd) (n : Nat) (ks : List Str) (hd : dvs ≠ [])
    (h : ∀ (T : Addr) (kV doc pm : Value) (an : Option Addr) (cdv ct : Value) (us its ws : List Value), us.length = n → its.length = dvs.length → ws.length = ks.length →
      ∃ k, bindArgs (PySem.W.fnOf x qual params body scope (.ref T) kV doc pm an cdv ct) ⟨us, ks.zip ws⟩ = seqItems? (.ref T) >>= k ∧ k (some its.toArray) = pure (ps.zip (us ++ ws))) :
    KBn K fd ps n ks (fun us ws => us ++ ws) (fun vs zs => vs ++ zs) := by
  obtain ⟨oc, od, dV, kV, doc, pm, an, cdv, ct, osl, rfl, lk, hcd, hD, hK⟩ := F.ex
  rcases hD with ⟨e, _⟩ | ⟨_, T, o, its, m, rfl, lT, oT, rT⟩
  · exact absurd e hd
  · refine ⟨fun s us ws X l1 l2 => ?_, fun r1 r2 => r1.append r2⟩
    obtain ⟨k, e1, e2⟩ := h T kV doc pm an cdv ct us its ws l1 rT.length.symm l2
    refine BindsTo.of_looks fun M => ?_
    rw [e1]
    exact looks_items X lT oT (.of_pure e2)
end
section
variable {X : Cx} {Z : Ent} {pos : Pos}
variable {k n : Nat} {g : Addr} {fd : FuncData} {ps ks : List Str} {f : FP} {x : Str} {e : Expr} {es : List Expr} {kws : List Keyword} {t tk : DL'} {p : Pos} {gv : List Value → List Value → List Value} {gV : List V → List V → List V} {gD : List PyData → List PyData → List PyData}
end
/-! ### amounts -/
def f_over : FP := fn2 numD numD (fun u v => v ≠ 0 ∧ Bd 4000 u ∧ Bd 4000 v) (fun u v => numD (u / v))
instance : FMono f_over := fm2
theorem ap_over {u v : Rat} {Q : Res → Prop} : f_over [numD u, numD v] Q = ((v ≠ 0 ∧ Bd 4000 u ∧ Bd 4000 v) ∧ Q (.d (numD (u / v)))) := fn2_ap num_inj num_inj
theorem dI_add (u v : Rat) : Rat.divInt (u.num * v.den + v.num * u.den) ((u.den : Int) * v.den) = u + v := (add_divInt u v).symm
theorem dI_sub (u v : Rat) : Rat.divInt (u.num * v.den - v.num * u.den) ((u.den : Int) * v.den) = u - v := (sub_divInt u v).symm
theorem dI_mul (u v : Rat) : Rat.divInt (u.num * v.num) ((u.den : Int) * v.den) = u * v := (mul_divInt u v).symm
theorem dI_one (a : Int) : Rat.divInt a 1 = (a : Rat) := Rat.num_divInt_den (a : Rat)
theorem dI_div (u v : Rat) : Rat.divInt (u.num * v.den) ((u.den : Int) * v.num) = u / v := (div_divInt u v).symm
/-- what the rules ask of parts of numbers -/
theorem mul_nd {m n : Nat} {u v : Rat} (hu : Bd m u) (hv : Bd n v) (h : m + n ≤ 900000) : CMulW u.num v.den := mulW hu.1 (by rw [Int.natAbs_natCast]; exact hv.2) h
theorem mul_nn {m n : Nat} {u v : Rat} (hu : Bd m u) (hv : Bd n v) (h : m + n ≤ 900000) : CMulW u.num v.num := mulW hu.1 hv.1 h
theorem mul_dd {m n : Nat} {u v : Rat} (hu : Bd m u) (hv : Bd n v) (h : m + n ≤ 900000) : CMulW (u.den : Int) v.den := mulW (by rw [Int.natAbs_natCast]; exact hu.2) (by rw [Int.natAbs_natCast]; exact hv.2) h
theorem mul_dn {m n : Nat} {u v : Rat} (hu : Bd m u) (hv : Bd n v) (h : m + n ≤ 900000) : CMulW (u.den : Int) v.num := mulW (by rw [Int.natAbs_natCast]; exact hu.2) hv.1 h
theorem dd_lt {m n : Nat} {u v : Rat} (hu : Bd m u) (hv : Bd n v) (h : m + n ≤ 9000) : ((u.den : Int) * v.den).natAbs < 2 ^ 9000 := Nat.lt_of_lt_of_le (nat_den hu hv) (Nat.pow_le_pow_right (by omega) h)
theorem dn_lt {m n : Nat} {u v : Rat} (hu : Bd m u) (hv : Bd n v) (h : m + n ≤ 9000) : ((u.den : Int) * v.num).natAbs < 2 ^ 9000 := by
  rw [Int.natAbs_mul, Int.natAbs_natCast]
  exact Nat.lt_of_lt_of_le (mul_lt_pow hu.2 hv.1) (Nat.pow_le_pow_right (by omega) h)
theorem num_ne {v : Rat} (h : v ≠ 0) : v.num ≠ 0 := fun e => h (Rat.num_eq_zero.mp e)
end DL

namespace DL
open PySem PySem.Spec L2 DM
section
variable {X : Cx} {Z : Ent} {pos : Pos}
/-! ### in, not in -/
/-! ### + of anything -/
open PyProof.Rows in
/-! ### list(x) -/
theorem strOk_of (s : String) : PyData.strOk (Str.ofString s) = true := by
  unfold PyData.strOk
  rw [Str.ofString_eq_toList, List.all_toArray, List.all_map, List.all_eq_true]
  intro c _
  have := c.valid
  simp only [Function.comp, decide_eq_true_eq]
  rcases this with h | h
  · have : c.toNat < 0xd800 := h
    omega
  · have : c.toNat < 0x110000 := h.2
    omega
theorem sh_str {s : String} : SeqAt.shaped (.str (Str.ofString s)) = true := by
  unfold SeqAt.shaped
  show (PyData.strOk (Str.ofString s) && decide (PyData.depth (.str (Str.ofString s)) ≤ 64)) = true
  rw [strOk_of]
  rfl
end
end DL

namespace DM
/-! headings of two whole numbers -/
def hdc (p q : Int) : Rat := Rat.divInt (q * q - p * p) (p * p + q * q)
def hds (p q : Int) : Rat := Rat.divInt (2 * p * q) (p * p + q * q)
theorem sq_nn (p : Int) : 0 ≤ p * p := by
  rcases Int.le_total 0 p with z | z
  · exact Int.mul_nonneg z z
  · exact Int.mul_nonneg_of_nonpos_of_nonpos z z
theorem sq_pos {p : Int} (h : p ≠ 0) : 0 < p * p := by
  have := sq_nn p
  have : p * p ≠ 0 := Int.mul_ne_zero h h
  omega
theorem two_pos {p q : Int} (h : p ≠ 0 ∨ q ≠ 0) : 0 < p * p + q * q := by
  have := sq_nn p
  have := sq_nn q
  rcases h with h | h
  · have := sq_pos h
    omega
  · have := sq_pos h
    omega
theorem hd_one {p q : Int} (h : p ≠ 0 ∨ q ≠ 0) : hdc p q * hdc p q + hds p q * hds p q = 1 := by
  have h0 := two_pos h
  unfold hdc hds
  rw [Rat.divInt_eq_div, Rat.divInt_eq_div]
  have hz : ((p * p + q * q : Int) : Rat) ≠ 0 := fun e => by
    have := Rat.intCast_eq_zero_iff.mp e
    omega
  simp only [Rat.intCast_sub, Rat.intCast_mul, Rat.intCast_add] at hz ⊢
  generalize (p : Rat) = a at *
  generalize (q : Rat) = b at *
  grind
end DM
namespace DL
open PySem PySem.Spec L2 DM
def plD (p : Rat × Rat) : PyData := .tuple [numD p.1, numD p.2]
def Bd2 (n : Nat) (p : Rat × Rat) : Prop := Bd n p.1 ∧ Bd n p.2
section
variable {a b c d u : Rat} {Q : Res → Prop}
end
/-! law helpers -/
theorem chr_inj : ∀ (a b : List Char), a.map Char.toNat = b.map Char.toNat → a = b
  | [], [], _ => rfl
  | [], _ :: _, h => nomatch h
  | _ :: _, [], h => nomatch h
  | a :: as, b :: bs, h => by
    simp only [List.map_cons, List.cons.injEq] at h
    rw [chr_inj as bs h.2, Char.toNat_inj.mp h.1]
theorem str_inj {a b : String} (h : Str.ofString a = Str.ofString b) : a = b := by
  rw [Str.ofString_eq_toList, Str.ofString_eq_toList] at h
  injection h with h
  have := chr_inj _ _ (by simpa using congrArg Array.toList h)
  exact String.toList_inj.mp this
theorem str_beq {a b : String} : (Str.ofString a == Str.ofString b) = (a == b) := by
  by_cases h : a = b
  · subst h
    rw [show (a == a) = true from beq_self_eq_true a]
    exact beq_self_eq_true (Str.ofString a)
  · have h1 : (a == b) = false := by simpa using h
    rw [h1]
    exact beq_eq_false_iff_ne.mpr fun e => h (str_inj e)
end DL

namespace DL
open PySem PySem.Spec L2 DM
section
variable {α β γ κ : Type}
end
theorem divInt_pos {a b : Int} (ha : 0 < a) (hb : 0 < b) : 0 < Rat.divInt a b := by
  have h1 : 0 ≤ Rat.divInt a b := (Rat.divInt_nonneg_iff_of_pos_right hb).mpr (by omega)
  have h2 : Rat.divInt a b ≠ 0 := fun e => by
    rw [Rat.divInt_eq_div] at e
    have hb' : (b : Rat) ≠ 0 := fun z => by
      have := Rat.intCast_eq_zero_iff.mp z
      omega
    have ha' : (a : Rat) ≠ 0 := fun z => by
      have := Rat.intCast_eq_zero_iff.mp z
      omega
    grind
  exact Rat.lt_of_le_of_ne h1 h2.symm
/-! ### constants of a module -/
def datAll (f : PyData → Value → Bool) : List PyData → List Value → Bool
  | [], [] => true
  | d :: ds, u :: us => f d u && datAll f ds us
  | _, _ => false
def datTup (K : PySem.W.Frag) (f : PyData → Value → Bool) (ds : List PyData) (a : Addr) : Bool := match K.lookup a with
  | some ⟨.type c, _, .seq its _, _⟩ => decide (c = "tuple") && (decide (its.size ≤ sizeLine) && datAll f ds its.toList)
  | _ => false
def datB (K : PySem.W.Frag) : Nat → PyData → Value → Bool
  | 0, _, _ => false
  | _ + 1, .none, .none => true
  | _ + 1, .bool b, .bool c => decide (b = c)
  | _ + 1, .int i, .int j _ => decide (i = j)
  | _ + 1, .str x, .str y _ => decide (x = y)
  | n + 1, .tuple ds, .ref a => datTup K (datB K n) ds a
  | _, _, _ => false
def cstB (K : PySem.W.Frag) (t : Str × PyData) : Bool := match PySem.W.nsIn K mainGlobals t.1 with
  | some (some u) => datB K 6 t.2 u
  | _ => false
abbrev AlC : Type := He.AlD × Bool
def obsC (fa : List He.Fa) (fn : List He.DefD) (cs : List (Str × PyData)) (K : PySem.W.Frag) : AlC := (He.obsD fa fn K, cs.all (cstB K))
def SaysC (fa : List He.Fa) (fn : List He.DefD) (cs : List (Str × PyData)) (K : PySem.W.Frag) : Prop := obsC fa fn cs K = (He.valD fn, true)
section
variable {fa : List He.Fa} {fn : List He.DefD} {cs : List (Str × PyData)} {K : PySem.W.Frag}
theorem SaysC.d (c : SaysC fa fn cs K) : He.SaysD fa fn K := congrArg (fun z : AlC => z.1) c
end
end DL

namespace DL
open PySem PySem.Spec L2 DM
/-! ### slices -/
section
variable {K : Fg} {H : Hp}
end
section
variable {X : Cx} {Z : Ent} {pos : Pos}
abbrev DPt := DSt → (Option Int → DSt → Prop) → Prop
class PMono (t : DPt) : Prop where
  m : ∀ (δ : DSt) (Q Q' : Option Int → DSt → Prop), (∀ o δ', Q o δ' → Q' o δ') → t δ Q → t δ Q'
end
/-! ### t[::-1] of a tuple -/
section
open PyProof.Rows HT
variable {prog : Program} {w : World} {A : Around} {E : Value → Shared → Prop} {s : Shared}
end
section
variable {X : Cx} {Z : Ent} {pos : Pos}
open PySem PySem.Spec PyProof.Rows HT in
open PyProof.Rows HT in
end
end DL

namespace DL
open PySem PySem.Spec L2 DM
/-! ### frames -/
inductive Fr where
  | shift (a b : Rat)
  | turn (p q : Int)
  | flip
def frD : Fr → PyData
  | .shift a b => .tuple [.str "shift", numD a, numD b]
  | .turn p q => .tuple [.str "turn", .int p, .int q]
  | .flip => .tuple [.str "flip"]
def FrOk : Fr → Prop
  | .shift a b => Bd 14 a ∧ Bd 14 b
  | .turn p q => (p ≠ 0 ∨ q ≠ 0) ∧ p.natAbs < 2 ^ 7 ∧ q.natAbs < 2 ^ 7
  | .flip => True
def fwd (m : Bool) : Fr → Rat × Rat → Rat × Rat
  | .shift a b, p => if m then (p.1 + a, p.2 + b) else p
  | .turn s t, p => (p.1 * hdc s t - p.2 * hds s t, p.1 * hds s t + p.2 * hdc s t)
  | .flip, p => (p.1, -p.2)
def bwd : Fr → Rat × Rat → Rat × Rat
  | .shift a b, p => (p.1 - a, p.2 - b)
  | .turn s t, p => (p.1 * hdc s t - p.2 * -hds s t, p.1 * -hds s t + p.2 * hdc s t)
  | .flip, p => (p.1, -p.2)
theorem hdc_neg (p q : Int) : hdc (0 - p) q = hdc p q := by
  unfold hdc
  rw [show (0 - p) * (0 - p) = p * p by rw [Int.zero_sub, Int.neg_mul_neg]]
theorem dI_neg (a b : Int) : Rat.divInt (-a) b = -Rat.divInt a b := by
  rw [Rat.divInt_eq_div, Rat.divInt_eq_div, Rat.intCast_neg]
  grind
theorem hds_neg (p q : Int) : hds (0 - p) q = -hds p q := by
  unfold hds
  rw [show (0 - p) * (0 - p) = p * p by rw [Int.zero_sub, Int.neg_mul_neg], show 2 * (0 - p) * q = -(2 * p * q) by grind, dI_neg]
theorem bwd_fwd {f : Fr} (h : FrOk f) (p : Rat × Rat) : bwd f (fwd true f p) = p := by
  cases f with
  | shift a b => exact Prod.ext (by simp only [fwd, bwd, if_true]; grind) (by simp only [fwd, bwd, if_true]; grind)
  | turn s t =>
    have h1 := hd_one h.1
    simp only [fwd, bwd]
    generalize hdc s t = c at *
    generalize hds s t = u at *
    exact Prod.ext (by simp only; grind) (by simp only; grind)
  | flip => exact Prod.ext rfl (by simp only [fwd, bwd]; grind)
def led (m : Bool) (fs : List Fr) (p : Rat × Rat) : Rat × Rat := fs.foldr (fwd m) p
def unled (fs : List Fr) (p : Rat × Rat) : Rat × Rat := fs.foldl (fun p f => bwd f p) p
theorem unled_led : ∀ (fs : List Fr) (p : Rat × Rat), (∀ f ∈ fs, FrOk f) → unled fs (led true fs p) = p
  | [], _, _ => rfl
  | f :: fs, p, h => by
    show unled fs (bwd f (fwd true f (led true fs p))) = p
    rw [bwd_fwd (h f List.mem_cons_self)]
    exact unled_led fs p fun g m => h g (List.mem_cons_of_mem _ m)
/-! sizes of places by a common bottom -/
def Bc (n : Nat) (p : Rat × Rat) : Prop := ∃ a b d : Int, 0 < d ∧ p.1 = Rat.divInt a d ∧ p.2 = Rat.divInt b d ∧ a.natAbs < 2 ^ n ∧ b.natAbs < 2 ^ n ∧ d.natAbs < 2 ^ n
theorem Bc.bd {n : Nat} {p : Rat × Rat} (h : Bc n p) : Bd n p.1 ∧ Bd n p.2 := by
  obtain ⟨a, b, d, h0, e1, e2, h1, h2, h3⟩ := h
  rw [e1, e2]
  exact ⟨bd_divInt h1 h3 (by omega), bd_divInt h2 h3 (by omega)⟩
theorem Bc.mono {m n : Nat} {p : Rat × Rat} (h : Bc m p) (e : m ≤ n) : Bc n p := by
  obtain ⟨a, b, d, h0, e1, e2, h1, h2, h3⟩ := h
  have := Nat.pow_le_pow_right (show 0 < 2 by omega) e
  exact ⟨a, b, d, h0, e1, e2, by omega, by omega, by omega⟩
theorem ml {a b : Int} {m n : Nat} (h1 : a.natAbs < 2 ^ m) (h2 : b.natAbs < 2 ^ n) : (a * b).natAbs < 2 ^ (m + n) := by
  rw [Int.natAbs_mul, Nat.pow_add]
  exact Nat.mul_lt_mul'' h1 h2
theorem ad {a b : Int} {n : Nat} (h1 : a.natAbs < 2 ^ n) (h2 : b.natAbs < 2 ^ n) : (a + b).natAbs < 2 ^ (n + 1) := by
  rw [Nat.pow_succ]
  omega
theorem sb {a b : Int} {n : Nat} (h1 : a.natAbs < 2 ^ n) (h2 : b.natAbs < 2 ^ n) : (a - b).natAbs < 2 ^ (n + 1) := by
  rw [Nat.pow_succ]
  omega
theorem upn {a : Int} {m n : Nat} (h : a.natAbs < 2 ^ m) (e : m ≤ n) : a.natAbs < 2 ^ n := Nat.lt_of_lt_of_le h (Nat.pow_le_pow_right (by omega) e)
theorem rz {d : Int} (h : 0 < d) : (d : Rat) ≠ 0 := fun e => by
  have := Rat.intCast_eq_zero_iff.mp e
  omega
theorem Bc.of {m n : Nat} {x y : Rat} (hx : Bd m x) (hy : Bd n y) : Bc (m + n) (x, y) := by
  have d1 := x.den_pos
  have d2 := y.den_pos
  have c1 : ((x.den : Int)).natAbs < 2 ^ m := by rw [Int.natAbs_natCast]; exact hx.2
  have c2 : ((y.den : Int)).natAbs < 2 ^ n := by rw [Int.natAbs_natCast]; exact hy.2
  refine ⟨x.num * y.den, y.num * x.den, x.den * y.den, Int.mul_pos (by omega) (by omega), ?_, ?_, ml hx.1 c2, ?_, ml c1 c2⟩
  · show x = _
    rw [Rat.divInt_eq_div, Rat.intCast_mul, Rat.intCast_mul]
    have z1 := rz (show (0 : Int) < (x.den : Int) by omega)
    have z2 := rz (show (0 : Int) < (y.den : Int) by omega)
    have e : x = (x.num : Rat) / ((x.den : Int) : Rat) := by rw [← Rat.divInt_eq_div]; exact (Rat.num_divInt_den x).symm
    generalize (x.num : Rat) = a at *
    generalize ((x.den : Int) : Rat) = b at *
    generalize ((y.den : Int) : Rat) = c at *
    rw [e]
    grind
  · show y = _
    rw [Rat.divInt_eq_div, Rat.intCast_mul, Rat.intCast_mul]
    have z1 := rz (show (0 : Int) < (x.den : Int) by omega)
    have z2 := rz (show (0 : Int) < (y.den : Int) by omega)
    have e : y = (y.num : Rat) / ((y.den : Int) : Rat) := by rw [← Rat.divInt_eq_div]; exact (Rat.num_divInt_den y).symm
    generalize (y.num : Rat) = a at *
    generalize ((x.den : Int) : Rat) = b at *
    generalize ((y.den : Int) : Rat) = c at *
    rw [e]
    grind
  · rw [Nat.add_comm]
    exact ml hy.1 c1
theorem Bc.add {m n : Nat} {p q : Rat × Rat} (hp : Bc m p) (hq : Bc n q) : Bc (m + n + 1) (p.1 + q.1, p.2 + q.2) := by
  obtain ⟨a, b, d, h0, e1, e2, h1, h2, h3⟩ := hp
  obtain ⟨a', b', d', h0', e1', e2', h1', h2', h3'⟩ := hq
  refine ⟨a * d' + a' * d, b * d' + b' * d, d * d', Int.mul_pos h0 h0', ?_, ?_, ad (ml h1 h3') (by rw [Nat.add_comm]; exact ml h1' h3), ad (ml h2 h3') (by rw [Nat.add_comm]; exact ml h2' h3), upn (ml h3 h3') (by omega)⟩
  · show p.1 + q.1 = _
    rw [e1, e1', Rat.divInt_eq_div, Rat.divInt_eq_div, Rat.divInt_eq_div]
    simp only [Rat.intCast_mul, Rat.intCast_add]
    have z1 := rz h0
    have z2 := rz h0'
    grind
  · show p.2 + q.2 = _
    rw [e2, e2', Rat.divInt_eq_div, Rat.divInt_eq_div, Rat.divInt_eq_div]
    simp only [Rat.intCast_mul, Rat.intCast_add]
    have z1 := rz h0
    have z2 := rz h0'
    grind
theorem Bc.neg2 {n : Nat} {p : Rat × Rat} (h : Bc n p) : Bc n (p.1, -p.2) := by
  obtain ⟨a, b, d, h0, e1, e2, h1, h2, h3⟩ := h
  exact ⟨a, -b, d, h0, e1, by rw [dI_neg, ← e2], h1, by rw [Int.natAbs_neg]; exact h2, h3⟩
theorem Bc.turn {m n : Nat} {p q : Rat × Rat} (hp : Bc m p) (hq : Bc n q) : Bc (m + n + 1) (p.1 * q.1 - p.2 * q.2, p.1 * q.2 + p.2 * q.1) := by
  obtain ⟨a, b, d, h0, e1, e2, h1, h2, h3⟩ := hp
  obtain ⟨a', b', d', h0', e1', e2', h1', h2', h3'⟩ := hq
  refine ⟨a * a' - b * b', a * b' + b * a', d * d', Int.mul_pos h0 h0', ?_, ?_, sb (ml h1 h1') (ml h2 h2'), ad (ml h1 h2') (ml h2 h1'), upn (ml h3 h3') (by omega)⟩
  · show p.1 * q.1 - p.2 * q.2 = _
    rw [e1, e1', e2, e2']
    simp only [Rat.divInt_eq_div, Rat.intCast_mul, Rat.intCast_sub]
    have z1 := rz h0
    have z2 := rz h0'
    grind
  · show p.1 * q.2 + p.2 * q.1 = _
    rw [e1, e1', e2, e2']
    simp only [Rat.divInt_eq_div, Rat.intCast_mul, Rat.intCast_add]
    have z1 := rz h0
    have z2 := rz h0'
    grind
theorem bc_hd {p q : Int} {k : Nat} (h : p ≠ 0 ∨ q ≠ 0) (hp : p.natAbs < 2 ^ k) (hq : q.natAbs < 2 ^ k) : Bc (2 * k + 1) (hdc p q, hds p q) := by
  have h0 := two_pos h
  have a1 := ml hp hp
  have a2 := ml hq hq
  have a3 := ml hp hq
  rw [← Nat.two_mul] at a1 a2 a3
  refine ⟨q * q - p * p, 2 * p * q, p * p + q * q, h0, rfl, rfl, sb a2 a1, ?_, ad a1 a2⟩
  rw [Int.mul_assoc, Int.natAbs_mul, Nat.pow_succ, Nat.mul_comm]
  exact Nat.mul_lt_mul_of_pos_right a3 (by decide)
theorem Bc.fwd {n : Nat} {p : Rat × Rat} {f : Fr} (m : Bool) (h : Bc n p) (hf : FrOk f) : Bc (n + 29) (fwd m f p) := by
  cases f with
  | shift a b =>
    cases m
    · exact h.mono (by omega)
    · exact h.add (Bc.of hf.1 hf.2)
  | turn s t => exact (h.turn (bc_hd hf.1 hf.2.1 hf.2.2)).mono (by omega)
  | flip => exact h.neg2.mono (by omega)
theorem Bc.bwd {n : Nat} {p : Rat × Rat} {f : Fr} (h : Bc n p) (hf : FrOk f) : Bc (n + 29) (bwd f p) := by
  cases f with
  | shift a b =>
    have := h.add (Bc.of hf.1.neg hf.2.neg)
    show Bc (n + 29) (p.1 - a, p.2 - b)
    rw [Rat.sub_eq_add_neg, Rat.sub_eq_add_neg]
    exact this
  | turn s t =>
    have := h.turn (bc_hd (p := 0 - s) (q := t) (k := 7) (by have := hf.1; omega) (by have := hf.2.1; omega) hf.2.2)
    simp only [hdc_neg, hds_neg] at this
    exact this.mono (by omega)
  | flip => exact h.neg2.mono (by omega)
def BcUp (p : Rat × Rat) : Prop := ∃ n, n ≤ 1800 ∧ Bc n p
theorem bc_led {n : Nat} {p : Rat × Rat} (m : Bool) (h : Bc n p) : ∀ fs : List Fr, (∀ f ∈ fs, FrOk f) → Bc (n + 29 * fs.length) (led m fs p)
  | [], _ => h
  | f :: fs, hf => by
    have := (bc_led m h fs fun g z => hf g (List.mem_cons_of_mem _ z)).fwd m (hf f List.mem_cons_self)
    rw [List.length_cons]
    exact this.mono (by omega)
theorem BcUp.bd {p : Rat × Rat} (h : BcUp p) : Bd 1900 p.1 ∧ Bd 1900 p.2 := by
  obtain ⟨n, h1, h2⟩ := h
  exact ⟨h2.bd.1.mono (by omega), h2.bd.2.mono (by omega)⟩
end DL

namespace DM
/-! places as pairs -/
def sb2 (p q : Rat × Rat) : Rat × Rat := (p.1 - q.1, p.2 - q.2)
def ad2 (p q : Rat × Rat) : Rat × Rat := (p.1 + q.1, p.2 + q.2)
def cr (p q : Rat × Rat) : Rat := p.1 * q.2 - p.2 * q.1
def dt (p q : Rat × Rat) : Rat := p.1 * q.1 + p.2 * q.2
def behind (c d : Rat) : Bool := decide (c < 0) || (decide (c = 0) && decide (d < 0))
/-- c1 d1: cross and dot from the one to the other; c2 d2: to the last; c3: cross from the other to the last -/
def soon (c1 d1 c2 d2 c3 : Rat) : Bool := if behind c1 d1 = behind c2 d2 then decide (0 ≤ c3) else behind c2 d2
theorem rsq_nn (x : Rat) : 0 ≤ x * x := by
  rcases Rat.le_total (a := 0) (b := x) with h | h
  · exact Rat.mul_nonneg h h
  · have : 0 ≤ (-x) * (-x) := Rat.mul_nonneg (by grind) (by grind)
    grind
theorem rsq_pos {x : Rat} (h : x ≠ 0) : 0 < x * x := by
  have h1 := rsq_nn x
  have h2 : x * x ≠ 0 := by grind
  grind
theorem sq_one {z : Rat} (h : z * z = 1) : z = 1 ∨ z = -1 := by
  have : (z - 1) * (z + 1) = 0 := by grind
  rcases Rat.mul_eq_zero.mp this with h | h
  · left; grind
  · right; grind
theorem behind_iff {c d : Rat} : behind c d = true ↔ c < 0 ∨ (c = 0 ∧ d < 0) := by
  unfold behind
  simp
theorem behind_not {c d : Rat} (h : ¬ (c < 0 ∨ (c = 0 ∧ d < 0))) : behind c d = false := by
  rw [← Bool.not_eq_true, behind_iff]
  exact h
theorem mul_lt_z {R c : Rat} (hR : 0 < R) : R * c < 0 ↔ c < 0 := by
  constructor
  · intro h
    apply Classical.byContradiction
    intro z
    have := Rat.mul_nonneg (Rat.le_of_lt hR) (show 0 ≤ c by grind)
    grind
  · intro h
    have := Rat.mul_pos hR (show 0 < -c by grind)
    grind
theorem mul_le_z {R c : Rat} (hR : 0 < R) : 0 ≤ R * c ↔ 0 ≤ c := by
  have := mul_lt_z (c := c) hR
  constructor
  · intro h
    apply Classical.byContradiction
    intro z
    have := this.mpr (by grind)
    grind
  · intro h
    exact Rat.mul_nonneg (Rat.le_of_lt hR) h
theorem mul_eq_z {R c : Rat} (hR : 0 < R) : R * c = 0 ↔ c = 0 := by
  constructor
  · intro h
    rcases Rat.mul_eq_zero.mp h with h | h
    · grind
    · exact h
  · intro h
    rw [h]
    grind
theorem behind_mul {R c d : Rat} (hR : 0 < R) : behind (R * c) (R * d) = behind c d := by
  unfold behind
  rw [decide_eq_decide.mpr (mul_lt_z hR), decide_eq_decide.mpr (mul_eq_z hR), decide_eq_decide.mpr (mul_lt_z hR)]
theorem soon_mul {R c1 d1 c2 d2 c3 : Rat} (hR : 0 < R) : soon (R * c1) (R * d1) (R * c2) (R * d2) (R * c3) = soon c1 d1 c2 d2 c3 := by
  unfold soon
  rw [behind_mul hR, behind_mul hR, decide_eq_decide.mpr (mul_le_z hR)]
/-- on an arc about c -/
def onArc (b e c : Rat × Rat) (w : Int) (p : Rat × Rat) : Bool := decide (dt (sb2 c p) (sb2 c p) = dt (sb2 c b) (sb2 c b)) && (decide (b = e) ||
  soon (cr (sb2 b c) (sb2 p c) * w) (dt (sb2 b c) (sb2 p c)) (cr (sb2 b c) (sb2 e c) * w) (dt (sb2 b c) (sb2 e c)) (cr (sb2 p c) (sb2 e c) * w))
/-! isometries -/
theorem fwd_sub (f : DL.Fr) (p q : Rat × Rat) : sb2 (DL.fwd true f p) (DL.fwd true f q) = DL.fwd false f (sb2 p q) := by
  cases f with
  | shift a b => exact Prod.ext (by simp only [DL.fwd, sb2, if_true]; simp; grind) (by simp only [DL.fwd, sb2, if_true]; simp; grind)
  | turn s t => exact Prod.ext (by simp only [DL.fwd, sb2]; grind) (by simp only [DL.fwd, sb2]; grind)
  | flip => exact Prod.ext rfl (by simp only [DL.fwd, sb2]; grind)
theorem fwd_dt {f : DL.Fr} (h : DL.FrOk f) (p q : Rat × Rat) : dt (DL.fwd false f p) (DL.fwd false f q) = dt p q := by
  cases f with
  | shift a b => rfl
  | turn s t =>
    have h1 := hd_one h.1
    simp only [DL.fwd, dt]
    generalize hdc s t = c at *
    generalize hds s t = u at *
    grind
  | flip => simp only [DL.fwd, dt]; grind
theorem led_sub (fs : List DL.Fr) (p q : Rat × Rat) : sb2 (DL.led true fs p) (DL.led true fs q) = DL.led false fs (sb2 p q) := by
  induction fs with
  | nil => rfl
  | cons f fs ih =>
    show sb2 (DL.fwd true f _) (DL.fwd true f _) = DL.fwd false f _
    rw [fwd_sub]
    exact congrArg _ ih
theorem led_dt {fs : List DL.Fr} (h : ∀ f ∈ fs, DL.FrOk f) (p q : Rat × Rat) : dt (DL.led false fs p) (DL.led false fs q) = dt p q := by
  induction fs with
  | nil => rfl
  | cons f fs ih =>
    show dt (DL.fwd false f _) (DL.fwd false f _) = _
    rw [fwd_dt (h f List.mem_cons_self)]
    exact ih fun g z => h g (List.mem_cons_of_mem _ z)
end DM
namespace DL
open PySem PySem.Spec L2 DM
def isFl : Fr → Bool
  | .flip => true
  | _ => false
def nfl (fs : List Fr) : Nat := (fs.filter isFl).length
/-! draws of the laws -/
/-! cuts -/
/-- the radius of an arc: e f is the middle -/
def ArcOk (a b c d e f : Rat) (w : Int) (r : Rat) : Prop := (Bd 200 a ∧ Bd 200 b ∧ Bd 200 c ∧ Bd 200 d ∧ Bd 200 e ∧ Bd 200 f) ∧ (w = 1 ∨ w = -1) ∧ r ≠ 0 ∧ rt ((e - a) * (e - a) + (f - b) * (f - b)) = some r
theorem w_bd {w : Int} (h : w = 1 ∨ w = -1) : Bd 2 (w : Rat) := by
  rcases h with rfl | rfl
  · exact ⟨by decide, by decide⟩
  · exact ⟨by decide, by decide⟩
/-! places on cuts -/
end DL

namespace DM
theorem dI_lt {a m : Int} (hm : 0 < m) : Rat.divInt a m < 0 ↔ a < 0 := by
  have e : Rat.divInt a m = (a : Rat) / (m : Rat) := Rat.divInt_eq_div a m
  have h0 : (0 : Rat) < (m : Rat) := by
    rw [show (0 : Rat) = ((0 : Int) : Rat) from rfl]
    exact Rat.intCast_lt_intCast.mpr hm
  have e2 : (a : Rat) = (m : Rat) * Rat.divInt a m := by rw [e]; grind
  have h2 := mul_lt_z (R := (m : Rat)) (c := Rat.divInt a m) h0
  rw [← h2, ← e2, show (0 : Rat) = ((0 : Int) : Rat) from rfl]
  exact Rat.intCast_lt_intCast
theorem dI_z {a m : Int} (hm : 0 < m) : Rat.divInt a m = 0 ↔ a = 0 := by
  have h2 := mul_eq_z (R := (m : Rat)) (c := Rat.divInt a m) (by
    rw [show (0 : Rat) = ((0 : Int) : Rat) from rfl]
    exact Rat.intCast_lt_intCast.mpr hm)
  have e2 : (a : Rat) = (m : Rat) * Rat.divInt a m := by
    rw [Rat.divInt_eq_div]
    have h0 : (0 : Rat) < (m : Rat) := by
      rw [show (0 : Rat) = ((0 : Int) : Rat) from rfl]
      exact Rat.intCast_lt_intCast.mpr hm
    grind
  rw [← h2, ← e2]
  exact Rat.intCast_eq_zero_iff
theorem dI_le {a m : Int} (hm : 0 < m) : 0 ≤ Rat.divInt a m ↔ 0 ≤ a := by
  have := dI_lt (a := a) hm
  constructor
  · intro h
    apply Classical.byContradiction
    intro z
    have := this.mpr (by omega)
    grind
  · intro h
    apply Classical.byContradiction
    intro z
    have := this.mp (by grind)
    omega
theorem mul_sg_pos {a b : Int} (ha : 0 < a) : (0 ≤ a * b ↔ 0 ≤ b) ∧ (a * b < 0 ↔ b < 0) := by
  have h1 : 0 ≤ a * b ↔ 0 ≤ b := by
    constructor
    · intro h
      apply Classical.byContradiction
      intro z
      have := Int.mul_pos ha (show 0 < -b by omega)
      rw [Int.mul_neg] at this
      omega
    · intro h
      exact Int.mul_nonneg (by omega) h
  exact ⟨h1, by omega⟩
theorem behind_hd {p q : Int} (hp : 0 ≤ p) (h : p ≠ 0 ∨ q ≠ 0) : behind (hds p q) (hdc p q) = decide (0 < p ∧ q ≤ 0) := by
  have hm := two_pos h
  rw [Bool.eq_iff_iff, behind_iff, decide_eq_true_eq]
  unfold hds hdc
  rw [dI_lt hm, dI_z hm, dI_lt hm]
  rcases Int.lt_or_eq_of_le hp with z | z
  · have h1 := mul_sg_pos (a := 2 * p) (b := q) (by omega)
    rw [h1.2]
    constructor
    · rintro (h | ⟨h, _⟩)
      · omega
      · rcases Int.mul_eq_zero.mp h with h | h <;> omega
    · rintro ⟨_, h⟩
      rcases Int.lt_or_eq_of_le h with h | h
      · exact .inl h
      · right
        rw [h]
        have := sq_pos (p := p) (by omega)
        omega
  · rw [← z]
    constructor
    · rintro (h | ⟨h, h'⟩)
      · omega
      · have := sq_nn q
        omega
    · omega
theorem hd_cross (p q P Q : Int) (h : p ≠ 0 ∨ q ≠ 0) (H : P ≠ 0 ∨ Q ≠ 0) : hdc p q * hds P Q - hds p q * hdc P Q = Rat.divInt (2 * ((q * Q + p * P) * (q * P - Q * p))) ((p * p + q * q) * (P * P + Q * Q)) := by
  have z1 := DL.rz (two_pos h)
  have z2 := DL.rz (two_pos H)
  unfold hdc hds
  simp only [Rat.divInt_eq_div, Rat.intCast_mul, Rat.intCast_add, Rat.intCast_sub] at z1 z2 ⊢
  generalize (p : Rat) = a at *
  generalize (q : Rat) = b at *
  generalize (P : Rat) = A at *
  generalize (Q : Rat) = B at *
  rw [show (((2 : Int) : Rat)) = 2 from rfl]
  have z3 : (a * a + b * b) * (A * A + B * B) ≠ 0 := fun e => by
    rcases Rat.mul_eq_zero.mp e with e | e
    · exact z1 e
    · exact z2 e
  grind
theorem half {p q P Q : Int} (hp : 0 ≤ p) (h : p ≠ 0 ∨ q ≠ 0) (hP : 0 < P) : soon (hds p q) (hdc p q) (hds P Q) (hdc P Q) (hdc p q * hds P Q - hds p q * hdc P Q) = (decide (p = 0) || decide (Q * p ≤ q * P)) := by
  have H : P ≠ 0 ∨ Q ≠ 0 := .inl (by omega)
  unfold soon
  rw [behind_hd hp h, behind_hd (by omega) H, hd_cross p q P Q h H, decide_eq_decide.mpr (dI_le (Int.mul_pos (two_pos h) (two_pos H)))]
  have c0 : (0 ≤ 2 * ((q * Q + p * P) * (q * P - Q * p)) ↔ 0 ≤ (q * Q + p * P) * (q * P - Q * p)) := by omega
  rw [show decide (0 ≤ 2 * ((q * Q + p * P) * (q * P - Q * p))) = decide (0 ≤ (q * Q + p * P) * (q * P - Q * p)) from decide_eq_decide.mpr c0]
  rcases Int.lt_or_eq_of_le hp with z | z
  · have e0 : decide (p = 0) = false := decide_eq_false (by omega)
    have pP := Int.mul_pos z hP
    rw [e0, Bool.false_or]
    by_cases hq : q ≤ 0
    · have e1 : decide (0 < p ∧ q ≤ 0) = true := decide_eq_true ⟨z, hq⟩
      rw [e1]
      by_cases hQ : Q ≤ 0
      · have e2 : decide (0 < P ∧ Q ≤ 0) = true := decide_eq_true ⟨hP, hQ⟩
        rw [e2, if_pos rfl]
        have := Int.mul_nonneg_of_nonpos_of_nonpos hq hQ
        rw [decide_eq_decide, (mul_sg_pos (a := q * Q + p * P) (b := q * P - Q * p) (by omega)).1]
        omega
      · have e2 : decide (0 < P ∧ Q ≤ 0) = false := decide_eq_false (by omega)
        rw [e2, if_neg (by decide)]
        have a1 := Int.mul_pos (show 0 < Q by omega) z
        have a2 := Int.mul_nonneg (show 0 ≤ -q by omega) (show 0 ≤ P by omega)
        rw [Int.neg_mul] at a2
        exact (decide_eq_false (by omega)).symm
    · have e1 : decide (0 < p ∧ q ≤ 0) = false := decide_eq_false (by omega)
      rw [e1]
      by_cases hQ : Q ≤ 0
      · have e2 : decide (0 < P ∧ Q ≤ 0) = true := decide_eq_true ⟨hP, hQ⟩
        rw [e2, if_neg (by decide)]
        have a1 := Int.mul_pos (show 0 < q by omega) hP
        have a2 := Int.mul_nonneg (show 0 ≤ -Q by omega) (show 0 ≤ p by omega)
        rw [Int.neg_mul] at a2
        exact (decide_eq_true (by omega)).symm
      · have e2 : decide (0 < P ∧ Q ≤ 0) = false := decide_eq_false (by omega)
        rw [e2, if_pos rfl]
        have := Int.mul_pos (show 0 < q by omega) (show 0 < Q by omega)
        rw [decide_eq_decide, (mul_sg_pos (a := q * Q + p * P) (b := q * P - Q * p) (by omega)).1]
        omega
  · have hq : q ≠ 0 := by omega
    have e0 : decide (p = 0) = true := decide_eq_true z.symm
    have e1 : decide (0 < p ∧ q ≤ 0) = false := decide_eq_false (by omega)
    rw [e0, e1, Bool.true_or]
    by_cases hQ : Q ≤ 0
    · have e2 : decide (0 < P ∧ Q ≤ 0) = true := decide_eq_true ⟨hP, hQ⟩
      rw [e2, if_neg (by decide)]
    · have e2 : decide (0 < P ∧ Q ≤ 0) = false := decide_eq_false (by omega)
      rw [e2, if_pos rfl, decide_eq_true_eq, ← z]
      have e : (q * Q + 0 * P) * (q * P - Q * 0) = (q * q) * (Q * P) := by grind
      rw [e]
      exact Int.mul_nonneg (sq_nn q) (Int.mul_nonneg (by omega) (by omega))
theorem w_sq {w : Int} (hw : w = 1 ∨ w = -1) : (w : Rat) * (w : Rat) = 1 := by
  rcases hw with rfl | rfl
  · rw [show (((1 : Int) : Rat)) = 1 from rfl]; grind
  · rw [show (((-1 : Int) : Rat)) = -1 from rfl]; grind
end DM
namespace DL
open PySem PySem.Spec L2 DM
end DL

namespace DL
open PySem PySem.Spec L2 DM
section
variable {X : Cx} {Z : Ent} {pos : Pos}
/-! ### is True, is not False -/
/-! ### t + u of any tuples -/
/-! ### a new list times a written number -/
end
/-! ### things that are told as data: shaped, their ints small -/
inductive Gd : Nat → PyData → Prop
  | non {n : Nat} : Gd n .none
  | bl {n : Nat} (b : Bool) : Gd n (.bool b)
  | int {n : Nat} {i : Int} (h : i.natAbs < 2 ^ 900) : Gd n (.int i)
  | str {n : Nat} (s : String) : Gd n (.str (Str.ofString s))
  | lst {n : Nat} {xs : List PyData} (h : ∀ x ∈ xs, Gd n x) : Gd (n + 1) (.list xs)
  | tup {n : Nat} {xs : List PyData} (h : ∀ x ∈ xs, Gd n x) : Gd (n + 1) (.tuple xs)
theorem Gd.mono {m n : Nat} {d : PyData} (h : Gd m d) : m ≤ n → Gd n d := by
  induction h generalizing n with
  | non => intro _; exact .non
  | bl b => intro _; exact .bl b
  | int h => intro _; exact .int h
  | str s => intro _; exact .str s
  | lst h ih =>
    intro e
    cases n with
    | zero => omega
    | succ n => exact .lst fun x m => ih x m (by omega)
  | tup h ih =>
    intro e
    cases n with
    | zero => omega
    | succ n => exact .tup fun x m => ih x m (by omega)
theorem canAll {xs : List PyData} (h : ∀ x ∈ xs, PyData.canLay0 x = true) : PyData.canLayAll0 xs = true := by
  induction xs with
  | nil => rfl
  | cons x xs ih =>
    show (PyData.canLay0 x && PyData.canLayAll0 xs) = true
    rw [h x List.mem_cons_self, ih fun y m => h y (List.mem_cons_of_mem _ m)]
    rfl
theorem depAll {xs : List PyData} {n : Nat} (h : ∀ x ∈ xs, PyData.depth x ≤ n) : PyData.depthAll xs ≤ n := by
  induction xs with
  | nil => exact Nat.zero_le _
  | cons x xs ih =>
    show max (PyData.depth x) (PyData.depthAll xs) ≤ n
    have h1 := h x List.mem_cons_self
    have h2 := ih fun y m => h y (List.mem_cons_of_mem _ m)
    omega
theorem Gd.can {n : Nat} {d : PyData} (h : Gd n d) : PyData.canLay0 d = true ∧ PyData.depth d ≤ n := by
  induction h with
  | non => exact ⟨rfl, Nat.zero_le _⟩
  | bl b => exact ⟨rfl, Nat.zero_le _⟩
  | int h => exact ⟨rfl, Nat.zero_le _⟩
  | str s => exact ⟨by show PyData.strOk _ = true; exact strOk_of s, Nat.zero_le _⟩
  | lst h ih => exact ⟨canAll fun x m => (ih x m).1, by show PyData.depthAll _ + 1 ≤ _; have := depAll fun x m => (ih x m).2; omega⟩
  | tup h ih => exact ⟨canAll fun x m => (ih x m).1, by show PyData.depthAll _ + 1 ≤ _; have := depAll fun x m => (ih x m).2; omega⟩
theorem Gd.sh {n : Nat} {d : PyData} (h : Gd n d) (hn : n ≤ 64) : SeqAt.shaped d = true := by
  obtain ⟨h1, h2⟩ := h.can
  show (_ && decide _) = true
  rw [h1, decide_eq_true (by omega)]
  rfl
theorem Gd.num {n : Nat} {u : Rat} (h : Bd 900 u) : Gd (n + 1) (numD u) := .tup fun x m => by
  rcases List.mem_cons.mp m with rfl | m
  · exact .int h.1
  · rcases List.mem_cons.mp m with rfl | m
    · exact .int (by rw [Int.natAbs_natCast]; exact h.2)
    · cases m
theorem Gd.pl {n : Nat} {a b : Rat} (h : Bd 900 a) (h' : Bd 900 b) : Gd (n + 2) (.tuple [numD a, numD b]) := .tup fun x m => by
  rcases List.mem_cons.mp m with rfl | m
  · exact .num h
  · rcases List.mem_cons.mp m with rfl | m
    · exact .num h'
    · cases m
/-! ### numbers, places, steps of any thing -/
/-- a root that is a number above 0 -/
noncomputable def farB (u : Rat) : Bool := match rt u with
  | some r => !decide (r = 0)
  | none => false
end DL

namespace DM
/-! turned, flipped and moved: e is 1 or -1, c c + s s is 1 -/
section
variable {c s e : Rat} (h : c * c + s * s = 1) (he : e * e = 1)
include h he in
include h in
include h he in
include h he in
include h he in
end
end DM
namespace DL
open PySem PySem.Spec L2 DM
/-! ### cuts -/
inductive Ct where
  | line (b f : Rat × Rat)
  | arc (b f o : Rat × Rat) (w : Int)
/-- a cut whose places have sizes n, of the length or radius r -/
def CtOk (n : Nat) (r : Rat) : Ct → Prop
  | .line b f => (Bc n b ∧ Bc n f) ∧ 0 < r ∧ r * r = dt (sb2 b f) (sb2 b f)
  | .arc b f o w => (Bc n b ∧ Bc n f ∧ Bc n o) ∧ (w = 1 ∨ w = -1) ∧ 0 < r ∧ r * r = dt (sb2 o b) (sb2 o b) ∧ r * r = dt (sb2 o f) (sb2 o f)
def hd0 (r : Rat) : Ct → Rat × Rat
  | .line b f => ((f.1 - b.1) * (1 / r), (f.2 - b.2) * (1 / r))
  | .arc b f o w => (-(b.2 - o.2) * ((w : Rat) / r), (b.1 - o.1) * ((w : Rat) / r))
def hd1 (r : Rat) : Ct → Rat × Rat
  | .line b f => ((f.1 - b.1) * (1 / r), (f.2 - b.2) * (1 / r))
  | .arc b f o w => (-(f.2 - o.2) * ((w : Rat) / r), (f.1 - o.1) * ((w : Rat) / r))
/-! moved cuts -/
theorem CtOk.mono {m n : Nat} {r : Rat} {ct : Ct} (h : CtOk m r ct) (e : m ≤ n) : CtOk n r ct := by
  cases ct with
  | line b f =>
    obtain ⟨⟨b1, b2⟩, h0, e1⟩ := h
    exact ⟨⟨b1.mono e, b2.mono e⟩, h0, e1⟩
  | arc b f o w =>
    obtain ⟨⟨b1, b2, b3⟩, hw, h0, e1, e2⟩ := h
    exact ⟨⟨b1.mono e, b2.mono e, b3.mono e⟩, hw, h0, e1, e2⟩
theorem Bc.scale {m n : Nat} {p : Rat × Rat} {u : Rat} (hp : Bc n p) (hu : Bd m u) : Bc (n + m + 2) (p.1 * u, p.2 * u) := by
  have t := hp.turn (Bc.of hu bd_zero)
  simp only [Rat.mul_zero] at t
  rw [show p.1 * u - 0 = p.1 * u by grind, show 0 + p.2 * u = p.2 * u by grind] at t
  exact t.mono (by omega)
theorem Bc.sub {m n : Nat} {p q : Rat × Rat} (hp : Bc m p) (hq : Bc n q) : Bc (m + n + 1) (p.1 - q.1, p.2 - q.2) := by
  obtain ⟨a, b, d, h0, e1, e2, h1, h2, h3⟩ := hq
  have := hp.add (q := (-q.1, -q.2)) ⟨-a, -b, d, h0, by rw [dI_neg, ← e1], by rw [dI_neg, ← e2], by rw [Int.natAbs_neg]; exact h1, by rw [Int.natAbs_neg]; exact h2, h3⟩
  simp only [← Rat.sub_eq_add_neg] at this
  exact this
end DL

namespace DL
open PySem PySem.Spec L2 DM PyProof.Rows PySem.W
/-! ### a, *b, c = a list or a tuple -/
section
variable {prog : Program} {w : World} {A : Around} {E : Value → Shared → Prop} {s : Shared}
end
section
variable {X : Cx} {Z : Ent} {pos : Pos}
end
end DL

namespace DL
open PySem PySem.Spec L2 DM PyProof.Rows
section
variable {X : Cx} {Z : Ent} {pos : Pos}
/-! ### powers of great numbers -/
def CPowB (i j : Int) : Prop := 0 ≤ j ∧ (Builtin.Int.intBits i : Int) * j ≤ 2 ^ 27
abbrev rPowB : D2 := rII CPowB fun i j => .int (i ^ j.toNat)
theorem op_powB : OpR X (binaryOp .Pow) (rI CPowB fun i j => .int (i ^ j.toNat)) := opI fun _ _ _ _ _ _ _ hc q => pow_int hc.1 hc.2 q
theorem od_powB : OpD X Z (binaryOp .Pow) rPowB := opd_I op_powB fun _ _ _ => .int _
theorem powB {i j : Int} {b : Nat} (h : i.natAbs < 2 ^ b) (h0 : 0 ≤ j) (hb : (b : Int) * j ≤ 2 ^ 27) : CPowB i j := by
  refine ⟨h0, ?_⟩
  have hle : Builtin.Int.intBits i ≤ b := by
    by_cases z : i = 0
    · subst z
      exact Nat.zero_le _
    · exact bits_le h z
  have := Int.mul_le_mul_of_nonneg_right (show (Builtin.Int.intBits i : Int) ≤ b by omega) h0
  omega
theorem powB64 {i j : Int} (h1 : -18446744073709551616 < i) (h2 : i < 18446744073709551616) (h3 : 0 ≤ j) (h4 : j ≤ 1000000) : CPowB i j :=
  powB (b := 64) (by have : (2 : Nat) ^ 64 = 18446744073709551616 := by decide
                     omega) h3 (by omega)
/-! ### lists of one's own lent to an expression that tells flat things -/
def flatD : PyData → Bool
  | .none => true
  | .bool _ => true
  | .int _ => true
  | .str _ => true
  | _ => false
theorem dp_flat {K : Fg} {H H' : Hp} {v : V} {d : PyData} (h : flatD d = true) (p : Dp K H v d) : Dp K H' v d := by
  cases p with
  | non => exact .non
  | bl b => exact .bl b
  | int i => exact .int i
  | str x => exact .str x
  | lst _ _ => cases h
  | tup _ _ => cases h
  | ins _ _ _ _ _ => cases h
  | dct _ _ _ => cases h
  | fn _ => cases h
  | any _ => cases h
  | adr _ => cases h
def unown : Option Sl → Option Sl
  | some (.sh d) => some (.sh d)
  | some (.ow _ xs) => some (.sh (.list xs))
  | some (.ob _ (.dct ks ds)) => some (.sh (dctD ks ds))
  | some (.ob _ _) => none
  | some (.xn _) => none
  | none => none
theorem unown_sh {d : PyData} : unown (some (.sh d)) = some (.sh d) := rfl
theorem unown_ow {p : Bool} {xs : List PyData} : unown (some (.ow p xs)) = some (.sh (.list xs)) := rfl
theorem unown_dct {p : Bool} {ks : List Key} {ds : List PyData} : unown (some (.ob p (.dct ks ds))) = some (.sh (dctD ks ds)) := rfl
theorem unown_ins {p : Bool} {C : Str} {FS : List Str} {fs : List Fv} : unown (some (.ob p (.ins C FS fs))) = none := rfl
theorem unown_none : unown none = none := rfl
def lent (δ : DSt) (i : Nat) (xs : List PyData) : DSt := (δ.map unown).set i (some (.sh (.list xs)))
/-- all lists of one's own shared for a while -/
theorem lend_all {K : Fg} {Hs H : Hp} {σ : L2.St} {δ : DSt} (R : Rl K Z Hs H σ δ) : ∃ Hs1, Same Hs Hs1 ∧ Rl K (.at H Hs1 [] []) Hs1 H σ (δ.map unown) := by
  classical
  let own : Addr → Prop := fun b => ∃ (j : Nat) (s : Sl), δ[j]? = some (some s) ∧ σ[j]? = some (some (V.ref b)) ∧ ((∃ q ys, s = Sl.ow q ys) ∨ ∃ q ks ds, s = Sl.ob q (.dct ks ds))
  let Hs1 : Hp := fun b => if own b then H b else Hs b
  have nOwn : ∀ b o, Hs b = some o → ¬ own b := fun b o e ⟨j, s, h1, h2, h3⟩ => by
    rcases h3 with ⟨q, ys, rfl⟩ | ⟨q, ks, ds, rfl⟩
    · obtain ⟨a, ws, k1, k2, k3, _⟩ := R.own j q ys h1
      rw [k1] at h2
      cases h2
      rw [k3] at e
      cases e
    · obtain ⟨a, ws, k1, k2, k3, _⟩ := R.ownD j q ks ds h1
      rw [k1] at h2
      cases h2
      rw [k3] at e
      cases e
  have e1 : Same Hs Hs1 := fun b o e => by
    show (if own b then H b else Hs b) = some o
    rw [if_neg (nOwn b o e)]
    exact e
  have sub : Same Hs1 H := fun b o e => by
    have e : (if own b then H b else Hs b) = some o := e
    split at e
    · exact e
    · exact R.sub b o e
  have noow : ∀ (j : Nat) (s : Sl), (δ.map unown)[j]? = some (some s) → s.own = false ∧ s.prm = false := fun j s z => by
    rw [List.getElem?_map] at z
    cases w : δ[j]? with
    | none => rw [w] at z; cases z
    | some o =>
      rw [w] at z
      cases o with
      | none => cases z
      | some s =>
        cases s with
        | sh d => cases z; exact ⟨rfl, rfl⟩
        | ow p xs => cases z; exact ⟨rfl, rfl⟩
        | ob p o => cases o <;> first | (cases z; done) | (cases z; exact ⟨rfl, rfl⟩)
        | xn C => cases z
  refine ⟨Hs1, e1, ⟨by rw [List.length_map, R.len], sub, Same.refl _, fun b o e _ => e, fun b n => .inl n, fun b e => (nomatch e), fun j d z => ?_, ⟨fun _ => [], ⟨fun j s z o => ?_, fun _ _ => rfl, fun i a m => (nomatch m), fun i a m => (nomatch m), fun i s a _ _ m => (nomatch m), fun i j a n m => (nomatch m), fun i a o m => nomatch m⟩⟩, fun b o m => (nomatch m), fun j s z p => ?_, fun j C z => ?_⟩⟩
  rotate_left
  · rw [(noow j s z).1] at o
    cases o
  · rw [(noow j s z).2] at p
    cases p
  · rw [List.getElem?_map] at z
    cases w : δ[j]? with
    | none => rw [w] at z; cases z
    | some o =>
      rw [w] at z
      cases o with
      | none => cases z
      | some s =>
        cases s with
        | ob p o => cases o <;> cases z
        | _ => cases z
  rw [List.getElem?_map] at z
  cases w : δ[j]? with
  | none => rw [w] at z; cases z
  | some o =>
    rw [w] at z
    cases o with
    | none => cases z
    | some s =>
      cases s with
      | sh d' =>
        cases z
        obtain ⟨v, q1, q2⟩ := R.shr j d w
        exact ⟨v, q1, q2.up e1⟩
      | ow p xs =>
        cases z
        obtain ⟨a, ws, k1, k2, k3, k4⟩ := R.own j p xs w
        refine ⟨.ref a, k1, .lst (SqL.of ?_) (k4.up e1)⟩
        show (if own a then H a else Hs a) = _
        rw [if_pos ⟨j, _, w, k1, .inl ⟨p, xs, rfl⟩⟩]
        exact k2
      | ob p o =>
        cases o with
        | dct ks ds =>
          cases z
          obtain ⟨a, vs, k1, k2, k3, k4, k5⟩ := R.ownD j p ks ds w
          refine ⟨.ref a, k1, .dct ?_ k4 (k5.up e1)⟩
          show (if own a then H a else Hs a) = _
          rw [if_pos ⟨j, _, w, k1, .inr ⟨p, ks, ds, rfl⟩⟩]
          exact k2
        | nst _ => cases z
        | ins _ _ _ => cases z
        | tab _ => cases z
      | xn C => cases z
theorem lend_out {K : Fg} {Hs Hs1 Hs2 H H2 : Hp} {σ : L2.St} {δ δ2 : DSt} (R : Rl K Z Hs H σ δ) (R2 : Rl K (.at H Hs1 [] []) Hs2 H2 σ δ2) : Rl K Z Hs H2 σ δ :=
  R.after (Hs' := Hs) (H' := H2) (Rl.mk0 (fun b o e => R2.fr b o (R.sub b o e) (fun z => nomatch z)) (Same.refl _) (fun b o e n => R2.fr b o e n) (fun b n => .inl n) (fun b e => nomatch e) (fun a o m => nomatch m))
/-! ### xs.reverse(), xs.clear() -/
/-! ### a, b = e1, e2, both new lists of one's own -/
/-! ### max of a list of ints -/
end
/-! ### calls by keywords of keyword-only parameters -/
section
variable {K : Fg} {x qual : Str} {params : Arguments} {body : List Stmt} {scope : Scope} {kws : List (Str × V)} {f : Addr} {fd : FuncData} {ps : List Str}
end
end DL
namespace DL
open PySem PySem.Spec L2 DM PyProof.Rows
section
variable {X : Cx} {Z : Ent} {pos : Pos}
variable {k n : Nat} {g : Addr} {fd : FuncData} {ps ks : List Str} {f : FP} {x : Str} {e : Expr} {es : List Expr} {kws : List Keyword} {t tk : DL'} {p : Pos} {gv : List Value → List Value → List Value} {gV : List V → List V → List V} {gD : List PyData → List PyData → List PyData}
end
end DL

namespace DM
/-! places of ways: all numbers over one bottom -/
def gD : Int := 20881492632000
def Gr (u : Rat) : Prop := ∃ a : Int, u = Rat.divInt a gD
theorem gD_ne : ((gD : Int) : Rat) ≠ 0 := DL.rz (by decide)
theorem Gr.add {u v : Rat} (hu : Gr u) (hv : Gr v) : Gr (u + v) := by
  obtain ⟨a, rfl⟩ := hu
  obtain ⟨b, rfl⟩ := hv
  refine ⟨a + b, ?_⟩
  simp only [Rat.divInt_eq_div, Rat.intCast_add]
  have := gD_ne
  grind
theorem gr_frac {a m : Int} (hm : m ≠ 0) (h : m ∣ gD) : Gr (Rat.divInt a m) := by
  obtain ⟨k, hk⟩ := h
  refine ⟨a * k, ?_⟩
  have z1 : (m : Rat) ≠ 0 := fun e => hm (Rat.intCast_eq_zero_iff.mp e)
  have z2 := gD_ne
  rw [hk, Rat.intCast_mul] at z2
  rw [hk]
  simp only [Rat.divInt_eq_div, Rat.intCast_mul]
  have z3 : (k : Rat) ≠ 0 := fun e => z2 (by rw [e]; grind)
  grind
theorem Gr.bd {u : Rat} {k : Nat} (h : Gr u) (h1 : -(k : Rat) ≤ u) (h2 : u ≤ (k : Rat)) : ∃ a : Int, u = Rat.divInt a gD ∧ a.natAbs ≤ k * 20881492632000 := by
  obtain ⟨a, e⟩ := h
  refine ⟨a, e, ?_⟩
  have z := gD_ne
  have e2 : (a : Rat) = u * (gD : Rat) := by
    rw [e, Rat.divInt_eq_div]
    grind
  have pos : (0 : Rat) < ((gD : Int) : Rat) := by
    rw [show (0 : Rat) = ((0 : Int) : Rat) from rfl]
    exact Rat.intCast_lt_intCast.mpr (by decide)
  have l1 : (a : Rat) ≤ (((k : Int) * gD : Int) : Rat) := by
    rw [e2, Rat.intCast_mul]
    have : 0 ≤ ((k : Rat) - u) * ((gD : Int) : Rat) := Rat.mul_nonneg (by grind) (by grind)
    have e3 : (((k : Int)) : Rat) = (k : Rat) := rfl
    rw [e3]
    grind
  have l2 : ((-((k : Int) * gD) : Int) : Rat) ≤ (a : Rat) := by
    rw [e2, Rat.intCast_neg, Rat.intCast_mul]
    have : 0 ≤ (u + (k : Rat)) * ((gD : Int) : Rat) := Rat.mul_nonneg (by grind) (by grind)
    have e3 : (((k : Int)) : Rat) = (k : Rat) := rfl
    rw [e3]
    grind
  have m1 := Rat.intCast_le_intCast.mp l1
  have m2 := Rat.intCast_le_intCast.mp l2
  unfold gD at m1 m2
  omega
def Pl (k : Nat) (p : Rat × Rat) : Prop := (Gr p.1 ∧ Gr p.2) ∧ (-(k : Rat) ≤ p.1 ∧ p.1 ≤ (k : Rat)) ∧ (-(k : Rat) ≤ p.2 ∧ p.2 ≤ (k : Rat))
theorem Pl.add {k m : Nat} {p q : Rat × Rat} (hp : Pl k p) (hq : Pl m q) : Pl (k + m) (p.1 + q.1, p.2 + q.2) := by
  obtain ⟨⟨a1, a2⟩, ⟨b1, b2⟩, c1, c2⟩ := hp
  obtain ⟨⟨a1', a2'⟩, ⟨b1', b2'⟩, c1', c2'⟩ := hq
  have e : ((k + m : Nat) : Rat) = (k : Rat) + (m : Rat) := Rat.natCast_add k m
  refine ⟨⟨a1.add a1', a2.add a2'⟩, ?_, ?_⟩ <;> rw [e] <;> exact ⟨by simp only; grind, by simp only; grind⟩
theorem Pl.mono {k m : Nat} {p : Rat × Rat} (hp : Pl k p) (h : k ≤ m) : Pl m p := by
  obtain ⟨a, ⟨b1, b2⟩, c1, c2⟩ := hp
  have e : (k : Rat) ≤ (m : Rat) := Rat.natCast_le_natCast.mpr h
  exact ⟨a, ⟨by grind, by grind⟩, by grind, by grind⟩
theorem Pl.bc {k : Nat} {p : Rat × Rat} (h : Pl k p) (hk : k ≤ 50000) : DL.Bc 61 p := by
  obtain ⟨⟨a1, a2⟩, ⟨b1, b2⟩, c1, c2⟩ := h
  obtain ⟨a, e1, l1⟩ := a1.bd b1 b2
  obtain ⟨b, e2, l2⟩ := a2.bd c1 c2
  have : (2 : Nat) ^ 61 = 2305843009213693952 := by decide
  exact ⟨a, b, gD, by decide, e1, e2, by omega, by omega, by decide⟩
/-! headings of a small bottom -/
structure Hd (m : Nat) (u : Rat × Rat) : Prop where
  one : u.1 * u.1 + u.2 * u.2 = 1
  d1 : u.1.den ≤ m
  d2 : u.2.den = u.1.den
theorem unit_le {x y : Rat} (h : x * x + y * y = 1) : -1 ≤ x ∧ x ≤ 1 := by
  have := rsq_nn y
  constructor
  · apply Classical.byContradiction
    intro z
    have := Rat.mul_pos (show 0 < -x - 1 by grind) (show 0 < -x + 1 by grind)
    grind
  · apply Classical.byContradiction
    intro z
    have := Rat.mul_pos (show 0 < x - 1 by grind) (show 0 < x + 1 by grind)
    grind
theorem unit_bd {x y : Rat} {n : Nat} (h : x * x + y * y = 1) (hd : x.den < 2 ^ n) : Bd (n + 1) x := by
  obtain ⟨h1, h2⟩ := unit_le h
  have e : (x.num : Rat) = x * ((x.den : Int) : Rat) := by
    have z : ((x.den : Int) : Rat) ≠ 0 := DL.rz (by have := x.den_pos; omega)
    have e : x = (x.num : Rat) / ((x.den : Int) : Rat) := by rw [← Rat.divInt_eq_div]; exact (Rat.num_divInt_den x).symm
    generalize (x.num : Rat) = a at *
    generalize ((x.den : Int) : Rat) = b at *
    rw [e]
    grind
  have pos : (0 : Rat) < ((x.den : Int) : Rat) := by
    rw [show (0 : Rat) = ((0 : Int) : Rat) from rfl]
    exact Rat.intCast_lt_intCast.mpr (by have := x.den_pos; omega)
  have l1 : (x.num : Rat) ≤ ((x.den : Int) : Rat) := by
    have : 0 ≤ (1 - x) * ((x.den : Int) : Rat) := Rat.mul_nonneg (by grind) (by grind)
    grind
  have l2 : ((-(x.den : Int) : Int) : Rat) ≤ (x.num : Rat) := by
    have : 0 ≤ (1 + x) * ((x.den : Int) : Rat) := Rat.mul_nonneg (by grind) (by grind)
    rw [Rat.intCast_neg]
    grind
  have m1 := Rat.intCast_le_intCast.mp l1
  have m2 := Rat.intCast_le_intCast.mp l2
  have : (2 : Nat) ^ (n + 1) = 2 * 2 ^ n := by rw [Nat.pow_succ]; omega
  exact ⟨by omega, by omega⟩
theorem Hd.bd {m n : Nat} {u : Rat × Rat} (h : Hd m u) (hm : m < 2 ^ n) : Bd (n + 1) u.1 ∧ Bd (n + 1) u.2 :=
  ⟨unit_bd h.one (Nat.lt_of_le_of_lt h.d1 hm), unit_bd (y := u.1) (by have := h.one; grind) (by rw [h.d2]; exact Nat.lt_of_le_of_lt h.d1 hm)⟩
theorem dvd25 {m : Nat} (h0 : 0 < m) (h : m ≤ 25) : (m : Int) ∣ 26771144400 := by
  have : ∀ k : Fin 25, ((k.val + 1 : Nat) : Int) ∣ 26771144400 := by decide
  have := this ⟨m - 1, by omega⟩
  have e : m - 1 + 1 = m := by omega
  simp only [e] at this
  exact this
/-- a heading of a small bottom, so far -/
theorem Hd.pl {m : Nat} {u : Rat × Rat} {a b : Int} (h : Hd m u) (hm : m ≤ 25) (hb : 0 < b) (hb4 : b ∣ 12) (ha : 0 ≤ a) (hab : a ≤ 40 * b) : Pl 40 (u.1 * Rat.divInt a b, u.2 * Rat.divInt a b) := by
  have dn := u.1.den_pos
  have dv : ((u.1.den : Int)) * b ∣ gD := by
    have d1 := Int.mul_dvd_mul (dvd25 dn (Nat.le_trans h.d1 hm)) hb4
    exact Int.dvd_trans d1 (by decide)
  have g : ∀ x : Rat, x.den = u.1.den → Gr (x * Rat.divInt a b) := by
    intro x hx
    have e : x * Rat.divInt a b = Rat.divInt (x.num * a) ((x.den : Int) * b) := by
      have e1 : x = Rat.divInt x.num (x.den : Int) := (Rat.num_divInt_den x).symm
      have e2 : Rat.divInt x.num (x.den : Int) * Rat.divInt a b = Rat.divInt (x.num * a) ((x.den : Int) * b) := Rat.divInt_mul_divInt ..
      rw [← e2, ← e1]
    rw [e, hx]
    exact gr_frac (Int.mul_ne_zero (by omega) (by omega)) dv
  have s0 : 0 ≤ Rat.divInt a b := (dI_le hb).mpr ha
  have s1 : Rat.divInt a b ≤ 40 := by
    have e : Rat.divInt (a - 40 * b) b = Rat.divInt a b - 40 := by
      have z := DL.rz hb
      simp only [Rat.divInt_eq_div, Rat.intCast_sub, Rat.intCast_mul]
      rw [show (((40 : Int)) : Rat) = 40 from rfl]
      grind
    have := dI_le (a := -(a - 40 * b)) hb
    have e2 : Rat.divInt (-(a - 40 * b)) b = 40 - Rat.divInt a b := by rw [DL.dI_neg, e]; grind
    rw [e2] at this
    have := this.mpr (by omega)
    grind
  have b1 := unit_le h.one
  have b2 := unit_le (x := u.2) (y := u.1) (by have := h.one; grind)
  generalize Rat.divInt a b = S at *
  have e40 : ((40 : Nat) : Rat) = 40 := rfl
  have aux : ∀ x : Rat, -1 ≤ x ∧ x ≤ 1 → -40 ≤ x * S ∧ x * S ≤ 40 := by
    intro x ⟨h1, h2⟩
    have q1 := Rat.mul_nonneg (show 0 ≤ 1 - x by grind) s0
    have q2 := Rat.mul_nonneg (show 0 ≤ 1 + x by grind) s0
    exact ⟨by grind, by grind⟩
  refine ⟨⟨g u.1 rfl, g u.2 h.d2⟩, ?_, ?_⟩ <;> rw [e40]
  · exact aux _ b1
  · exact aux _ b2
end DM
namespace DL
open PySem PySem.Spec L2 DM
/-- a statement, what follows kept as a letter -/
theorem seq_k {s s' : DS} {N : DEnds} {δ : DSt} (h : ∀ K : DSt → Prop, (∀ δ, s' N δ → K δ) → s { N with nx := K } δ) : dSeq s s' N δ := h _ (fun _ z => z)
/-! a product with one small side -/
section
variable {X : Cx} {Z : Ent}
end
/-! ### the second family of draws -/
/-- what stands in a way's step -/
inductive En where
  | hop (b f : Rat × Rat)
  | cut (ct : Ct) (r : Rat)
def beg : En → Rat × Rat
  | .hop b _ => b
  | .cut (.line b _) _ => b
  | .cut (.arc b _ _ _) _ => b
def fin : En → Rat × Rat
  | .hop _ f => f
  | .cut (.line _ f) _ => f
  | .cut (.arc _ f _ _) _ => f
/-- sizes, and that headings are of length 1 -/
def EnOk : En → Prop
  | .hop b f => Bc 61 b ∧ Bc 61 f
  | .cut ct r => CtOk 61 r ct ∧ Bd 9 r ∧ ((hd0 r ct).1 * (hd0 r ct).1 + (hd0 r ct).2 * (hd0 r ct).2 = 1 ∧ Bd2 20 (hd0 r ct)) ∧ ((hd1 r ct).1 * (hd1 r ct).1 + (hd1 r ct).2 * (hd1 r ct).2 = 1 ∧ Bd2 20 (hd1 r ct))
/-- an entry of a way -/
structure Et where
  e : En
  pace : Int
  num : Int
def EtOk (t : Et) : Prop := EnOk t.e ∧ (0 ≤ t.pace ∧ t.pace ≤ 9) ∧ (0 ≤ t.num ∧ t.num < 1000)
end DL
namespace DM
open DL
/-! headings turned, arcs drawn -/
theorem unit_num {x y : Rat} (h : x * x + y * y = 1) : x.num.natAbs ≤ x.den := by
  obtain ⟨h1, h2⟩ := unit_le h
  have e : (x.num : Rat) = x * ((x.den : Int) : Rat) := by
    have z : ((x.den : Int) : Rat) ≠ 0 := DL.rz (by have := x.den_pos; omega)
    have e : x = (x.num : Rat) / ((x.den : Int) : Rat) := by rw [← Rat.divInt_eq_div]; exact (Rat.num_divInt_den x).symm
    generalize (x.num : Rat) = a at *
    generalize ((x.den : Int) : Rat) = b at *
    rw [e]
    grind
  have pos : (0 : Rat) < ((x.den : Int) : Rat) := by
    rw [show (0 : Rat) = ((0 : Int) : Rat) from rfl]
    exact Rat.intCast_lt_intCast.mpr (by have := x.den_pos; omega)
  have l1 : (x.num : Rat) ≤ ((x.den : Int) : Rat) := by
    have : 0 ≤ (1 - x) * ((x.den : Int) : Rat) := Rat.mul_nonneg (by grind) (by grind)
    grind
  have l2 : ((-(x.den : Int) : Int) : Rat) ≤ (x.num : Rat) := by
    have : 0 ≤ (1 + x) * ((x.den : Int) : Rat) := Rat.mul_nonneg (by grind) (by grind)
    rw [Rat.intCast_neg]
    grind
  have m1 := Rat.intCast_le_intCast.mp l1
  have m2 := Rat.intCast_le_intCast.mp l2
  omega
theorem Hd.flip {m : Nat} {u : Rat × Rat} (h : Hd m u) : u.2 * u.2 + u.1 * u.1 = 1 := by have := h.one; grind
theorem Hd.bc {m n : Nat} {u : Rat × Rat} (h : Hd m u) (hm : m < 2 ^ n) : Bc n u := by
  have h1 := unit_num h.one
  have h2 := unit_num h.flip
  have := h.d1
  have := h.d2
  have := u.1.den_pos
  refine ⟨u.1.num, u.2.num, u.1.den, by omega, (Rat.num_divInt_den _).symm, ?_, by omega, by omega, by omega⟩
  rw [← h.d2]
  exact (Rat.num_divInt_den _).symm
theorem Hd.mono {m n : Nat} {u : Rat × Rat} (h : Hd m u) (e : m ≤ n) : Hd n u := ⟨h.one, Nat.le_trans h.d1 e, h.d2⟩
theorem side_sq {w : Int} (h : w = 1 ∨ w = -1) : (w : Rat) * (w : Rat) = 1 := by
  rcases h with rfl | rfl
  · rw [show (((1 : Int) : Rat)) = 1 from rfl]
    grind
  · rw [show (((-1 : Int) : Rat)) = -1 from rfl]
    grind
theorem side_den {w : Int} {x : Rat} (h : w = 1 ∨ w = -1) : ((w : Rat) * x).den = x.den := by
  rcases h with rfl | rfl
  · rw [show (((1 : Int) : Rat)) = 1 from rfl, Rat.one_mul]
  · rw [show (((-1 : Int) : Rat)) = -1 from rfl, show (-1 : Rat) * x = -x by grind, Rat.neg_den]
theorem Hd.side {m : Nat} {u : Rat × Rat} {w : Int} (h : Hd m u) (hw : w = 1 ∨ w = -1) : Hd m ((w : Rat) * u.1, (w : Rat) * u.2) := by
  have e := side_sq hw
  have o := h.one
  refine ⟨?_, ?_, ?_⟩
  · show (w : Rat) * u.1 * ((w : Rat) * u.1) + (w : Rat) * u.2 * ((w : Rat) * u.2) = 1
    generalize (w : Rat) = W at *
    grind
  · show ((w : Rat) * u.1).den ≤ m
    rw [side_den hw]
    exact h.d1
  · show ((w : Rat) * u.2).den = ((w : Rat) * u.1).den
    rw [side_den hw, side_den hw]
    exact h.d2
theorem Gr.neg {u : Rat} (h : Gr u) : Gr (-u) := by
  obtain ⟨a, rfl⟩ := h
  exact ⟨-a, by rw [DL.dI_neg]⟩
theorem Pl.neg {k : Nat} {p : Rat × Rat} (h : Pl k p) : Pl k (-p.1, -p.2) := by
  obtain ⟨⟨a1, a2⟩, ⟨b1, b2⟩, c1, c2⟩ := h
  exact ⟨⟨a1.neg, a2.neg⟩, ⟨by simp only; grind, by simp only; grind⟩, ⟨by simp only; grind, by simp only; grind⟩⟩
end DM
namespace DL
open PySem PySem.Spec L2 DM
end DL

/-! zips of three and four lists (printed by mkzip.py) -/
namespace DZ
open PySem Sem
section
variable {prog : Program} {w : World} {A : Around} {E : Value → Shared → Prop} {s : Shared}
end
section
variable {prog : Program} {w : World} {A : Around} {E : Value → Shared → Prop} {s : Shared}
end
section
variable {prog : Program} {w : World} {A : Around} {E : Value → Shared → Prop} {s : Shared}
end
section
variable {prog : Program} {w : World} {A : Around} {E : Value → Shared → Prop} {s : Shared}
end
end DZ
namespace DL
open PySem PySem.Spec PyProof.Rows L2 DZ
end DL
namespace DL
open PySem PySem.Spec L2
section
variable {X : Cx} {Z : Ent} {pos : Pos}
end
section
variable {X : Cx} {Z : Ent} {pos : Pos}
end
end DL

/-! more rules: min of three, ranges with a step, list(range), stores to slices, displays times an int, keywords in any order -/
namespace DL
open PySem PySem.Spec PyProof.Rows L2 DM
section
variable {X : Cx} {Z : Ent} {pos : Pos} {tg : Expr}
/-! ### min of three -/
/-! ### range(a, b, -1) -/
/-! ### list(range(a, b)) -/
/-! ### a display times an int -/
/-! ### xs[::-1] of lists and tuples -/
open HT in
/-! ### xs[a:b] = a new list of one's own -/
end
end DL
namespace DL
open PySem PySem.Spec PyProof.Rows L2 DM
section
variable {K : Fg} {x qual : Str} {params : Arguments} {body : List Stmt} {scope : Scope} {kws : List (Str × V)} {f : Addr} {fd : FuncData} {ps : List Str}
end
end DL

/-! DMa: the ways family: gears, caps, entries as data -/
namespace DL
open PySem PySem.Spec L2 DM
/-- sizes that the program's defs want of a way's steps -/
def EnW : En → Prop
  | .hop b f => Bc 90 b ∧ Bc 90 f
  | .cut ct r => CtOk 90 r ct ∧ Bd 30 r ∧ ((hd0 r ct).1 * (hd0 r ct).1 + (hd0 r ct).2 * (hd0 r ct).2 = 1 ∧ Bd2 40 (hd0 r ct)) ∧ ((hd1 r ct).1 * (hd1 r ct).1 + (hd1 r ct).2 * (hd1 r ct).2 = 1 ∧ Bd2 40 (hd1 r ct))
def EtW (t : Et) : Prop := EnW t.e ∧ (0 ≤ t.pace ∧ t.pace ≤ 9) ∧ (0 ≤ t.num ∧ t.num < 1000)
theorem EnOk.w {e : En} (h : EnOk e) : EnW e := by
  cases e with
  | hop b f => exact ⟨h.1.mono (by decide), h.2.mono (by decide)⟩
  | cut ct r =>
    obtain ⟨h1, h2, ⟨h3, h4⟩, h5, h6⟩ := h
    refine ⟨?_, h2.mono (by decide), ⟨h3, h4.1.mono (by decide), h4.2.mono (by decide)⟩, h5, h6.1.mono (by decide), h6.2.mono (by decide)⟩
    cases ct with
    | line b f => exact ⟨⟨h1.1.1.mono (by decide), h1.1.2.mono (by decide)⟩, h1.2⟩
    | arc b f o w => exact ⟨⟨h1.1.1.mono (by decide), h1.1.2.1.mono (by decide), h1.1.2.2.mono (by decide)⟩, h1.2⟩
theorem EtOk.w {t : Et} (h : EtOk t) : EtW t := ⟨h.1.w, h.2⟩
def gearN : Nat → Rat → Rat → Nat
  | 0, _, _ => 0
  | k + 1, pt, bd => if ((k + 1 : Nat) : Rat) * ((k + 1 : Nat) : Rat) * pt ≤ bd then k + 1 else gearN k pt bd
def capOf (pl : Rat) (t : Et) : Int :=
  match t.e with
  | .hop _ _ => 0
  | .cut (.line _ _) _ => t.pace
  | .cut (.arc _ _ _ _) r => (gearN t.pace.toNat 1 (pl * r) : Nat)
theorem Gd.eqv {n : Nat} {d : PyData} (h : Gd n d) : PyData.eqv d d = true := SeqAt.eqv_refl d h.can.1
end DL

/-! DMb: gears at joints, plans: the plain law -/
namespace DL
open PySem PySem.Spec L2 DM
/-! ### lists by functions -/
def lf (n : Nat) (f : Nat → Int) : List PyData := (List.range n).map fun i => .int (f i)
/-! ### the greatest gears -/
structure Sol (n : Nat) (c r d S : Nat → Int) : Prop where
  le : ∀ i, i ≤ n → S i ≤ c i
  up : ∀ k, k < n → S (k + 1) ≤ S k + r k
  dn : ∀ k, k < n → S k ≤ S (k + 1) + d k
structure Grt (n : Nat) (c r d G : Nat → Int) : Prop where
  sol : Sol n c r d G
  top : ∀ S, Sol n c r d S → ∀ i, i ≤ n → S i ≤ G i
theorem Grt.uniq {n : Nat} {c r d G G' : Nat → Int} (h : Grt n c r d G) (h' : Grt n c r d G') {i : Nat} (hi : i ≤ n) : G i = G' i := by
  have := h.top G' h'.sol i hi
  have := h'.top G h.sol i hi
  omega
def gfw (c r : Nat → Int) : Nat → Int
  | 0 => c 0
  | k + 1 => min (c (k + 1)) (gfw c r k + r k)
/-- from n down: m steps -/
def bwk (F d : Nat → Int) (n : Nat) : Nat → Int
  | 0 => F n
  | m + 1 => min (F (n - (m + 1))) (bwk F d n m + d (n - (m + 1)))
def gbw (F d : Nat → Int) (n i : Nat) : Int := bwk F d n (n - i)
theorem gbw_n (F d : Nat → Int) (n : Nat) : gbw F d n n = F n := by rw [gbw, Nat.sub_self]; rfl
theorem gbw_k {F d : Nat → Int} {n k : Nat} (h : k < n) : gbw F d n k = min (F k) (gbw F d n (k + 1) + d k) := by
  obtain ⟨m, hm⟩ : ∃ m, n - k = m + 1 := ⟨n - k - 1, by omega⟩
  rw [gbw, gbw, hm, show n - (k + 1) = m by omega, bwk, show n - (m + 1) = k by omega]
def gr (n : Nat) (c r d : Nat → Int) : Nat → Int := gbw (gfw c r) d n
theorem gfw_le {c r : Nat → Int} (k : Nat) : gfw c r k ≤ c k := by
  cases k with
  | zero => exact Int.le_refl _
  | succ k => exact Int.min_le_left _ _
theorem gbw_le {F d : Nat → Int} {n k : Nat} (h : k ≤ n) : gbw F d n k ≤ F k := by
  rcases Nat.lt_or_ge k n with z | z
  · rw [gbw_k z]
    exact Int.min_le_left _ _
  · rw [show k = n by omega, gbw_n]
    exact Int.le_refl _
theorem gr_grt {n : Nat} {c r d : Nat → Int} (hr : ∀ k, k < n → 0 ≤ r k) (hd : ∀ k, k < n → 0 ≤ d k) : Grt n c r d (gr n c r d) := by
  refine ⟨⟨fun i hi => Int.le_trans (gbw_le hi) (gfw_le i), fun k hk => ?_, fun k hk => ?_⟩, fun S s i hi => ?_⟩
  · show gbw _ _ _ _ ≤ gbw _ _ _ _ + _
    rw [gbw_k hk]
    have h1 := gbw_le (F := gfw c r) (d := d) (n := n) (k := k + 1) (by omega)
    have h2 : gfw c r (k + 1) ≤ gfw c r k + r k := Int.min_le_right _ _
    have := hr k hk
    have := hd k hk
    omega
  · show gbw _ _ _ _ ≤ gbw _ _ _ _ + _
    rw [gbw_k hk]
    exact Int.min_le_right _ _
  · have f : ∀ k, k ≤ n → S k ≤ gfw c r k := by
      intro k
      induction k with
      | zero => intro _; exact s.le 0 (by omega)
      | succ k ih =>
        intro hk
        have := ih (by omega)
        have := s.up k (by omega)
        have := s.le (k + 1) hk
        show _ ≤ min _ _
        omega
    have b : ∀ m, m ≤ n → S (n - m) ≤ gbw (gfw c r) d n (n - m) := by
      intro m
      induction m with
      | zero => intro _; rw [Nat.sub_zero, gbw_n]; exact f n (Nat.le_refl _)
      | succ m ih =>
        intro hm
        have hk : n - (m + 1) < n := by omega
        rw [gbw_k hk, show n - (m + 1) + 1 = n - m by omega]
        have := ih (by omega)
        have := f (n - (m + 1)) (by omega)
        have := s.dn (n - (m + 1)) hk
        rw [show n - (m + 1) + 1 = n - m by omega] at this
        omega
    have := b (n - i) (by omega)
    rw [show n - (n - i) = i by omega] at this
    exact this
/-! sums -/
def sm (n : Nat) (f : Nat → Int) : Int := match n with
  | 0 => f 0
  | n + 1 => sm n f + f (n + 1)
/-! ### tops -/
def climb (p : Int → Bool) : Nat → Int → Int
  | 0, t => t
  | n + 1, t => if p (t + 1) = true then climb p n (t + 1) else t
theorem climb_hit {p : Int → Bool} {n : Nat} {t : Int} (h : p (t + 1) = true) : climb p (n + 1) t = climb p n (t + 1) := if_pos h
theorem climb_miss {p : Int → Bool} {n : Nat} {t : Int} (h : p (t + 1) = false) : climb p n t = t := by
  cases n with
  | zero => rfl
  | succ n => exact if_neg (by rw [h]; decide)
theorem climb_ge {p : Int → Bool} : ∀ {n : Nat} {t : Int}, t ≤ climb p n t ∧ climb p n t ≤ t + n
  | 0, t => ⟨Int.le_refl _, by show t ≤ _; omega⟩
  | n + 1, t => by
    cases h : p (t + 1)
    · rw [climb_miss h]
      omega
    · rw [climb_hit h]
      have := climb_ge (p := p) (n := n) (t := t + 1)
      omega
/-- the greatest one that is let, where what is let is let below -/
theorem climb_top {p : Int → Bool} : ∀ {n : Nat} {t : Int}, (∀ x, t ≤ x → p (x + 1) = true → p x = true) → ∀ x, t ≤ x → x ≤ t + n → p x = true → x ≤ climb p n t
  | 0, t, _, x, h1, h2, _ => by show x ≤ t; omega
  | n + 1, t, hd, x, h1, h2, hx => by
    cases e : p (t + 1)
    · rw [climb_miss e]
      apply Classical.byContradiction
      intro z
      have : ∀ m : Nat, ∀ y, t + 1 ≤ y → y = t + 1 + m → p y = true → False := by
        intro m
        induction m with
        | zero => intro y _ ey hy; rw [ey] at hy; simp at hy; rw [e] at hy; exact nomatch hy
        | succ m ih =>
          intro y h1 ey hy
          refine ih (y - 1) (by omega) (by omega) (hd (y - 1) (by omega) ?_)
          rw [show y - 1 + 1 = y by omega]
          exact hy
      exact this (x - (t + 1)).toNat x (by omega) (by omega) hx
    · rw [climb_hit e]
      rcases (show t < x ∨ x ≤ t by omega) with z | z
      · exact climb_top (n := n) (fun y hy => hd y (by omega)) x (by omega) (by omega) hx
      · have := climb_ge (p := p) (n := n) (t := t + 1)
        omega
end DL

/-! DMc: joints, plans: promises -/
namespace DL
open PySem PySem.Spec L2 DM
/-! ### floors -/
theorem floor_nn {u : Rat} (h : 0 ≤ u) : 0 ≤ u.floor := by
  rw [Rat.le_floor_iff]
  exact h
theorem div_nn {r b : Rat} (hr : 0 ≤ r) (hb : 0 < b) : 0 ≤ r / b := by
  rw [Rat.div_def]
  exact Rat.mul_nonneg hr (by have := Rat.inv_pos.mpr hb; grind)
/-! ### what is known of steps -/
structure Lim where
  pl : Rat
  jt : Rat
  up : Rat
  dn : Rat
def LimOk (l : Lim) : Prop := (0 < l.pl ∧ Bd 100 l.pl) ∧ (0 < l.jt ∧ Bd 100 l.jt) ∧ (0 < l.up ∧ Bd 100 l.up) ∧ (0 < l.dn ∧ Bd 100 l.dn)
def dotR (u v : Rat × Rat) : Rat := u.1 * v.1 + u.2 * v.2
def joltOf (jt : Rat) : En → En → Int
  | .cut c r, .cut c' r' => if hd1 r c = hd0 r' c' then 9 else ((gearN 9 (2 - 2 * dotR (hd1 r c) (hd0 r' c')) (jt * jt) : Nat) : Int)
  | _, _ => 0
def jcap (pl jt : Rat) (a b : Et) : Int := min (min (capOf pl a) (capOf pl b)) (joltOf jt a.e b.e)
def jcaps (pl jt : Rat) (ts : List Et) : Nat → Int
  | 0 => 0
  | k + 1 => match ts[k]?, ts[k + 1]? with
    | some a, some b => jcap pl jt a b
    | _, _ => 0
def chg (by_ : Rat) : En → Int
  | .cut (.line _ _) r => (r / by_).floor
  | _ => 0
def et0 : Et := ⟨.hop (0, 0) (0, 0), 0, 0⟩
def chgs (by_ : Rat) (ts : List Et) (k : Nat) : Int := chg by_ (ts.getD k et0).e
def fitR (r up dn : Rat) (a t l : Int) : Bool := decide (((t - a : Int) : Rat) * up + ((t - l : Int) : Rat) * dn ≤ r)
def fitE (up dn : Rat) (e : En) (a l t : Int) : Bool := match e with
  | .cut (.line _ _) r => decide (a ≤ t) && decide (l ≤ t) && fitR r up dn a t l
  | _ => decide (a = t) && decide (t = l)
def topE (up dn : Rat) (e : En) (cap a l : Int) : Int := climb (fitE up dn e a l) (cap - max a l).toNat (max a l)
/-- a plan by its joints' gears -/
def planG (l : Lim) (ts : List Et) (G : Nat → Int) : List (Int × Int × Int) := (List.range ts.length).map fun i => (G i, topE l.up l.dn (ts.getD i et0).e (capOf l.pl (ts.getD i et0)) (G i) (G (i + 1)), G (i + 1))
def gears (l : Lim) (ts : List Et) (c : Nat → Int) : Nat → Int := gr ts.length c (chgs l.up ts) (chgs l.dn ts)
def planL (l : Lim) (ts : List Et) : List (Int × Int × Int) := planG l ts (gears l ts (jcaps l.pl l.jt ts))
/-! ### bounds -/
theorem chg_nn {by_ : Rat} {e : En} (hb : 0 < by_) (h : EnW e) : 0 ≤ chg by_ e := by
  unfold chg
  split
  · exact floor_nn (div_nn (by have := h.1.2.1; grind) hb)
  · exact Int.le_refl _
theorem et0_w : EtW et0 := ⟨⟨⟨0, 0, 1, by decide, by decide, by decide, by decide, by decide, by decide⟩, ⟨0, 0, 1, by decide, by decide, by decide, by decide, by decide, by decide⟩⟩, ⟨by decide, by decide⟩, by decide, by decide⟩
theorem getD_w {ts : List Et} (h : ∀ t ∈ ts, EtW t) (k : Nat) : EtW (ts.getD k et0) := by
  rw [List.getD_eq_getElem?_getD]
  cases e : ts[k]? with
  | none => exact et0_w
  | some t => exact h t (List.mem_of_getElem? e)
theorem chgs_nn {by_ : Rat} {ts : List Et} (hb : 0 < by_) (h : ∀ t ∈ ts, EtW t) (k : Nat) : 0 ≤ chgs by_ ts k := chg_nn hb (getD_w h k).1
theorem getD_of {ts : List Et} {k : Nat} {t : Et} (h : ts[k]? = some t) : ts.getD k et0 = t := by
  rw [List.getD_eq_getElem?_getD, h]
  rfl
/-! ### promises -/
/-! the law's own -/
end DL

/-! DMd: plans: plain lemmas -/
namespace DL
open PySem PySem.Spec L2 DM
theorem fitR_down {r up dn : Rat} {a t l : Int} (hu : 0 < up) (hd : 0 < dn) (h : fitR r up dn a (t + 1) l = true) : fitR r up dn a t l = true := by
  unfold fitR at *
  have h := of_decide_eq_true h
  refine decide_eq_true ?_
  have e1 : ((t + 1 - a : Int) : Rat) = ((t - a : Int) : Rat) + 1 := by rw [show t + 1 - a = (t - a) + 1 by omega, Rat.intCast_add]; rfl
  have e2 : ((t + 1 - l : Int) : Rat) = ((t - l : Int) : Rat) + 1 := by rw [show t + 1 - l = (t - l) + 1 by omega, Rat.intCast_add]; rfl
  rw [e1, e2] at h
  grind
theorem planG_get {l : Lim} {ts : List Et} {G : Nat → Int} {j : Nat} {t : Et} (h : ts[j]? = some t) : (planG l ts G)[j]? = some (G j, topE l.up l.dn t.e (capOf l.pl t) (G j) (G (j + 1)), G (j + 1)) := by
  rw [planG, List.getElem?_map, List.getElem?_range (get_lt h)]
  show some (G j, topE l.up l.dn (ts.getD j et0).e (capOf l.pl (ts.getD j et0)) (G j) (G (j + 1)), G (j + 1)) = _
  rw [getD_of h]
end DL

/-! DMe: ways turned about: the plain law of k76 -/
namespace DL
open PySem PySem.Spec L2 DM
/-! ### plans of ways that are alike -/
theorem getD_mem {ts : List Et} {i : Nat} (h : i < ts.length) : ts.getD i et0 ∈ ts := by
  rw [List.getD_eq_getElem?_getD, List.getElem?_eq_getElem h]
  exact List.getElem_mem h
/-! ### led ways -/
/-! ### gone the other way about -/
/-! ### a hop put in -/
def hopT (p : Rat × Rat) : Et := ⟨.hop p p, 5, 0⟩
/-! ### promises -/
def LimS (l : Lim) : Prop := (0 < l.pl ∧ Bd 40 l.pl) ∧ (0 < l.jt ∧ Bd 40 l.jt) ∧ (0 < l.up ∧ Bd 40 l.up) ∧ (0 < l.dn ∧ Bd 40 l.dn)
theorem LimS.ok {l : Lim} (h : LimS l) : LimOk l := ⟨⟨h.1.1, h.1.2.mono (by decide)⟩, ⟨h.2.1.1, h.2.1.2.mono (by decide)⟩, ⟨h.2.2.1.1, h.2.2.1.2.mono (by decide)⟩, h.2.2.2.1, h.2.2.2.2.mono (by decide)⟩
end DL

/-! DXa: exceptions by data: raise, calls that may raise, try .. except C as e, what a def lets out. -/
namespace DL
open PySem PySem.Spec L2 PyProof.Rows
/-- what X wants of an exception -/
def canon (X : Cx) : WX := fun cls d σ H => ∀ u s', XE X (fun cls' d' σ' H' => cls' = cls ∧ d' = d ∧ σ' = σ ∧ H' = H) u s' → X.xe u s'
theorem takes_canon (X : Cx) : Takes X (canon X) := fun u s' ⟨a, B, sI, pins, σ, H, cls, d, h1, h2, h3, h4, h5, h6, h7, h8, w⟩ => w u s' ⟨a, B, sI, pins, σ, H, cls, d, h1, h2, h3, h4, h5, h6, h7, h8, rfl, rfl, rfl, rfl⟩
theorem canon_of {X : Cx} {W : WX} (tk : Takes X W) {cls : Value} {d : Option Addr} {σ : L2.St} {H : Hp} (w : W cls d σ H) : canon X cls d σ H := fun u s' ⟨a, B, sI, pins, σ', H', cls', d', h1, h2, h3, h4, h5, h6, h7, h8, e1, e2, e3, e4⟩ => by
  subst e1 e2 e3 e4
  exact tk u s' ⟨a, B, sI, pins, _, _, _, _, h1, h2, h3, h4, h5, h6, h7, h8, w⟩
/-- an exception's fields stand in its dict -/
def XfAt (K : Fg) (Hs : Hp) (d : Option Addr) (x : Xd) : Prop := (x.fs = [] ∧ d = none) ∨ ∃ (dd : Addr) (vs : List (Str × V)), d = some dd ∧ Hs dd = some (.xd vs) ∧ ∀ f y, x.fs.lookup f = some y → ∃ v, vs.lookup f = some v ∧ Dp K Hs v y
/-- an exception of the class of that name, with its fields -/
def XAt (K : Fg) (Hs : Hp) (cls : Value) (d : Option Addr) (x : Xd) : Prop := cls = .ref (He.ga K x.C) ∧ XfAt K Hs d x
/-- a dict, where there is one, stands -/
def XdAt (H : Hp) (d : Option Addr) : Prop := d = none ∨ ∃ (dd : Addr) (vs : List (Str × V)), d = some dd ∧ H dd = some (.xd vs)
theorem XfAt.xd {K : Fg} {Hs : Hp} {d : Option Addr} {x : Xd} (h : XfAt K Hs d x) : XdAt Hs d := by
  rcases h with ⟨_, h⟩ | ⟨dd, vs, h1, h2, _⟩
  · exact .inl h
  · exact .inr ⟨dd, vs, h1, h2⟩
theorem XdAt.up {H H' : Hp} {d : Option Addr} (h : XdAt H d) (s : Same H H') : XdAt H' d := by
  rcases h with h | ⟨dd, vs, h1, h2⟩
  · exact .inl h
  · exact .inr ⟨dd, vs, h1, s _ _ h2⟩
/-- the wish ex is X's -/
def XOk (X : Cx) (Z : Ent) (ex : Xd → DSt → Prop) : Prop := ∀ (Hs H : Hp) (σ : L2.St) (δ : DSt) (cls : Value) (d : Option Addr) (x : Xd), Rl X.K Z Hs H σ δ → XAt X.K Hs cls d x → ex x δ → canon X cls d σ H
theorem XOk.none {X : Cx} {Z : Ent} : XOk X Z fun _ _ => False := fun _ _ _ _ _ _ _ _ _ z => z.elim
/-! ### promises -/
abbrev FX := List PyData → (Res → Prop) → (Xd → Prop) → Prop
def spX (K : Fg) (f : FX) : Sp := fun vs H Q E => ∃ Hs ds, Same Hs H ∧ DpAll K Hs vs ds ∧ f ds (fun r => ∀ v Hs' H', Rl K (.at H Hs [] []) Hs' H' [] [] → ResOk K (.at H Hs [] []) Hs' H' [] [] v r → Q v H')
  (fun x => ∀ Hs' H' cls d, Rl K (.at H Hs [] []) Hs' H' [] [] → XAt K Hs' cls d x → E cls d H')
class XMono (f : FX) : Prop where
  m : ∀ (ds : List PyData) (Q Q' : Res → Prop) (W W' : Xd → Prop), (∀ r, Q r → Q' r) → (∀ x, W x → W' x) → f ds Q W → f ds Q' W'
section
variable {X : Cx} {Z : Ent} {pos : Pos} {ex : Xd → DSt → Prop}
/-! ### raise C() -/
theorem pmk_own0 {C : Addr} {bmB : List Value} {B newId initId : String} {x : Str} {p : Pos} (F : ExcBaseFacts B newId initId bmB) (q : PySem.W.excIn X.K C bmB newId = true) (gC : X.mg x = some (.ref C)) (kC : PySem.W.keepIn X.K (.ref C) = true) (r : Raises X (.ref C)) (hg : Gl X x)
    (hdb : (x == ("__debug__" : Str)) = false := by decide) : PMk X (.Call (.Name x p) [] [] pos) (fun _ H Q => Q (.ref C) none H) := by
  intro pins s σ H Q I h
  refine wpAny_Call_Name_kw (ld_glob I hg gC ?_ hdb)
  refine PySem.W.callWith_K0 I.kIn kC ?_
  obtain ⟨bm, N, nm, qn, bs, hdct, sn, sub, ab, col, dd, k0, k1, k2, k3, k5, mN, hC, hN, hni, T⟩ := exc_obj I.kIn q
  refine wpAny_call_exc_subT F T hC hN hni (fun h' e hm => ?_) (by show 0 ≤ sizeLine; omega)
  exact mk_of I hm r h (I.hok.gone hm.new)
/-- the facts of a class that is raised -/
structure ExD (K : Fg) (x : Str) : Prop where
  ex : ∃ B newId initId bmB, ExcBaseFacts B newId initId bmB ∧ PySem.W.excIn K (He.ga K x) bmB newId = true
  keep : PySem.W.keepIn K (.ref (He.ga K x)) = true
  sub : PySem.W.subIn K (.ref (He.ga K x)) (.type "BaseException") = some true
  typ : PySem.W.typeIn K (.ref (He.ga K x)) = some (.type "type")
def dRaise (ex : Xd → DSt → Prop) (x : Xd) : DS := fun _ δ => ex x δ
theorem ds_raise {x : Str} {p p2 : Pos} (xo : XOk X Z ex) (hc : X.calm = true) (e : ExD X.K x) (gC : X.mg x = some (.ref (He.ga X.K x))) (hg : Gl X x) (hdb : (x == ("__debug__" : Str)) = false := by decide) :
    Ds X Z (.Raise (some (.Call (.Name x p) [] [] p2)) none pos) (dRaise ex ⟨x, []⟩) := by
  obtain ⟨B, newId, initId, bmB, F, q⟩ := e.ex
  exact ⟨ps_imp (ps_raise hc (takes_canon X) (pmk_own0 F q gC e.keep (raises_own e.sub e.typ) hg hdb)) fun D σ H ⟨Hs, δ, N, R, ok, z⟩ => xo Hs H σ δ _ _ _ R ⟨rfl, .inl ⟨rfl, rfl⟩⟩ z⟩
/-! ### calls that may raise -/
section
variable {k : Nat} {g : Addr} {fd : FuncData} {ps : List Str} {f : FX} {x : Str} {e : Expr} {es : List Expr} {t : DL'} {p : Pos} {dvs : List V} {dus : List Value} {dd : List PyData}
theorem call_runX {σ : L2.St} {H : Hp} {Q : VK} (xo : XOk X Z ex) (fm : XMono f) (hdd : ∀ H, DpAll X.K H dvs dd) {Hs : Hp} {δ : DSt} (R : Rl X.K Z Hs H σ δ) {vs : List V} {ds : List PyData} (dps : DpAll X.K Hs vs ds)
    (q : f (ds ++ dd) (fun r => ∀ v Hs' H', Same Hs Hs' → Rl X.K Z Hs' H' σ δ → ResOk X.K Z Hs' H' σ δ v r → Q v H') (fun x => ex x δ)) : spX X.K f (vs ++ dvs) H Q (WE (canon X) σ) := by
  refine ⟨Hs, ds ++ dd, R.sub, dps.app (hdd Hs), fm.m _ _ _ _ _ (fun r q v Hs' H' C c => ?_) (fun x q Hs' H' cls d C c => xo Hs' H' σ δ cls d x (R.after C) c q) q⟩
  refine q v Hs' H' C.ext (R.after C) ?_
  cases r with
  | d d => exact c
  | o xs => exact FrO.after R C c
  | b o => exact c.elim fun A c => ⟨A, c.after R C⟩
theorem run_fnX {CX : CXT} {E : L2.St → XK} {sp : Sp} {pins : List (Addr × Obj)} {σ : L2.St} {H : Hp} {s : Shared} {Q : VK} {us : List Value} {vs : List V} (F : FnOk X.prog X.w X.K X.mg X.base CX k g fd ps sp) (hr : Room k X.A) (hb : Binds X.K fd ps dus) (hd : Vals dvs dus) (hx : PassesAt CX X σ (E σ))
    (I : Inv X pins σ H s) (r : Vals vs us) (h : sp (vs ++ dvs) H Q (E σ)) : wpAny (model X.prog X.w) X.A (call (.ref g) us) (EP X pins σ Q) X.xe s := by
  have r2 : Vals (vs ++ dvs) (us ++ dus) := r.append hd
  have hl : (us ++ dus).length = ps.length := by rw [← r2.length]; exact F.len _ _ _ _ h
  refine wpAny_call (codeAny_mono (F.run X.A X.stack s H ⟨us, []⟩ (us ++ dus) (vs ++ dvs) Q (E σ) hr I.env0 (hb s us I.kIn hl) r2 h) fun r s' hq => ?_)
  cases r with
  | error e => exact hx pins H s e s' I hq
  | ok fl =>
    cases fl with
    | ret u => exact I.after hq
    | next => exact False.elim hq
    | brk => exact False.elim hq
    | cont => exact False.elim hq
theorem pe_callX {CX : CXT} {E : L2.St → XK} {sp : Sp} {ta : TA} (F : FnOk X.prog X.w X.K X.mg X.base CX k g fd ps sp) (hr : Room k X.A) (hg : Gl X x) (hm : X.mg x = some (.ref g)) (hk : PySem.W.keepIn X.K (.ref g) = true) (hb : Binds X.K fd ps dus) (hd : Vals dvs dus) (hx : ∀ σ, PassesAt CX X σ (E σ))
    (ha : PA X (e :: es) ta) (hdb : (x == ("__debug__" : Str)) = false := by decide) (he : starEach (e :: es) X.env = (false, eval e X.env) :: starEach es X.env := by rfl) (hpl : (backTo pos (starEach es X.env)).any (·.1) = false := by rfl) :
    PE X (.Call (.Name x p) (e :: es) [] pos) (fun σ H Q => ta σ H fun vs H1 => sp (vs ++ dvs) H1 Q (E σ)) := by
  refine ⟨fun pins s σ H Q I h => ?_⟩
  refine wpAny_Call_Name_kw (ld_glob I hg hm ?_ hdb)
  refine PySem.W.callWith_K (h₀ := X.base) I.ok.mod.kin hk (thn (ha.run pos pins s σ H _ I h) fun us s1 ⟨vs, H1, I1, r, q⟩ => ⟨I1.kIn, ?_⟩) he hpl
  exact run_fnX F hr hb hd (hx σ) I1 r q
def dCallX (ex : Xd → DSt → Prop) (f : FX) (dd : List PyData) (t : DL') : DE := fun δ Q => t δ fun ds δ' => f (ds ++ dd) (fun r => Q (asD r) δ') (fun x => ex x δ')
theorem de_callX (F : FnOk X.prog X.w X.K X.mg X.base (L2.CX X.prog X.w) k g fd ps (spX X.K f)) (fm : XMono f) (xo : XOk X Z ex) (hr : Room k X.A) (hg : Gl X x) (hm : X.mg x = some (.ref g)) (hk : PySem.W.keepIn X.K (.ref g) = true) (hb : Binds X.K fd ps dus) (hd : Vals dvs dus) (hdd : ∀ H, DpAll X.K H dvs dd)
    (ha : Da X Z (e :: es) t) (hdb : (x == ("__debug__" : Str)) = false := by decide) (he : starEach (e :: es) X.env = (false, eval e X.env) :: starEach es X.env := by rfl) (hpl : (backTo pos (starEach es X.env)).any (·.1) = false := by rfl) :
    De X Z (.Call (.Name x p) (e :: es) [] pos) (dCallX ex f dd t) := by
  refine ⟨pe_imp (pe_callX F hr hg hm hk hb hd (fun σ => passAt (takes_canon X) σ) ha.run hdb he hpl) fun σ H Q ⟨Hs, δ, R, q⟩ => ⟨Hs, δ, R, ha.mono _ _ _ (fun ds δ1 q vs Hs1 H1 s1 R1 dps => ?_) q⟩, fun δ Q Q' hq q => ha.mono _ _ _ (fun ds δ' z => fm.m _ _ _ _ _ (fun r z => hq _ _ z) (fun _ z => z) z) q⟩
  refine call_runX xo fm hdd R1 dps (fm.m _ _ _ _ _ (fun r q v Hs2 H2 s2 R2 c => ?_) (fun _ z => z) q)
  cases r with
  | d d => exact q v Hs2 H2 (s1.trans s2) R2 c
  | o xs =>
    obtain ⟨Hs3, s3, R3, dp⟩ := FrO.share R2 c
    exact q v Hs3 H2 ((s1.trans s2).trans s3) R3 dp
  | b o =>
    obtain ⟨A, c⟩ := c
    obtain ⟨Hs3, s3, R3, dp⟩ := FrA.share R2 c
    exact q v Hs3 H2 ((s1.trans s2).trans s3) R3 dp
instance {l : DL'} [XMono f] [LMono l] : EMono (dCallX ex f dd l) := ⟨fun δ Q Q' hq q => LMono.m (t := l) _ _ _ (fun ds δ' z => XMono.m (f := f) _ _ _ _ _ (fun r z => hq _ _ z) (fun _ z => z) z) q⟩
end
instance {x : Xd} : SMono (dRaise ex x) := ⟨fun N N' δ le q => q⟩
end
/-! ### a def that may raise keeps its promise -/
section
variable {P : Program} {w : World} {K : Fg} {mg : Str → Option Value} {base : Heap} {x qual : Str} {params : Arguments} {body : List Stmt} {scope : Scope} {dvs : List V} {kws : List (Str × V)} {f : Addr} {fd : FuncData} {N ps : List Str} {k : Nat}
theorem ok_pureX {fn : FX} (F : FunD K x qual params body scope dvs kws f fd) (S : FnScope N ps scope) (fm : XMono fn) (len : ∀ ds Q W, fn ds Q W → ds.length = ps.length)
    (hb : ∀ (cdv : Value) (A : Around) (outer : List Env) (s : Shared) (H : Hp) (E : XK) (Z : Ent) (ex : Xd → DSt → Prop), Room k (A.deeper (PyProof.Rows.envOfC qual scope s.heap.objs.size f cdv)) → XOk (cxOf (L2.CX P w) P w K mg base N qual scope f cdv A outer s H E) Z ex →
      PassesOwn (model P w) (A.deeper (PyProof.Rows.envOfC qual scope s.heap.objs.size f cdv)) (PyProof.Rows.envOfC qual scope s.heap.objs.size f cdv) (cxOf (L2.CX P w) P w K mg base N qual scope f cdv A outer s H E).xe →
      ∃ t, Dss (cxOf (L2.CX P w) P w K mg base N qual scope f cdv A outer s H E) Z body t ∧ ∀ ds Q W, fn ds Q W → (∀ x δ, W x → ex x δ) → t (endsP Q) (startD N ds)) : FnOk P w K mg base (L2.CX P w) (k + 1) f fd ps (spX K fn) := by
  refine F.ok S (fun vs H Q E h => ?_) (fun cdv A outer s H vs Q E hr h => ?_)
  · obtain ⟨Hs, ds, _, d, q⟩ := h
    rw [d.len]
    exact len _ _ _ q
  · obtain ⟨Hs, ds, sub, d, q⟩ := h
    have tk : Takes (cxOf (L2.CX P w) P w K mg base N qual scope f cdv A outer s H E) (fun cls d _ H => E cls d H) := takes_of rfl rfl rfl rfl
    obtain ⟨t, ht, hq⟩ := hb cdv A outer s H E (.at H Hs [] []) (fun x _ => ∀ Hs' H' cls d, Rl K (.at H Hs [] []) Hs' H' [] [] → XAt K Hs' cls d x → E cls d H') hr
      (fun Hs' H' σ δ cls d x R c z => canon_of tk (z Hs' H' cls d R.nil c)) (passes_of rfl)
    refine ⟨_, ht.run, Hs, startD N ds, endsP _, rl_startP sub d, ⟨fun σ δ Hs' H' _ R z => ?_, fun σ δ Hs' H' v e _ R dp z => ?_, fun σ δ Hs' H' v xs _ R fr z => ?_, fun _ _ _ _ _ _ z => z.elim, fun _ _ _ _ _ _ z => z.elim⟩, hq ds _ _ q fun x δ z => z⟩
    · exact z .non Hs' H' R.nil .non
    · exact z v Hs' H' R.nil dp
    · obtain ⟨hp, A, fr⟩ := fr
      cases xs with
      | sh d => exact z.elim
      | xn C => exact z.elim
      | ow p ys => cases p with
        | false => exact z v Hs' H' R.nil ⟨A, fr.nil⟩
        | true => exact nomatch hp
      | ob p o => cases p with
        | false => exact z v Hs' H' R.nil ⟨A, fr.nil⟩
        | true => exact nomatch hp
end
end DL

namespace DL
open PySem PySem.Spec L2 PyProof.Rows
/-! ### try: body, except C as e: suite -/
def noxn : Option Sl → Option Sl
  | some (.xn _) => none
  | s => s
def unxn (δ : DSt) : DSt := δ.map noxn
theorem unxn_some {δ : DSt} {i : Nat} {s : Sl} (h : (unxn δ)[i]? = some (some s)) : δ[i]? = some (some s) ∧ ∀ C, s ≠ .xn C := by
  unfold unxn at h
  rw [List.getElem?_map] at h
  cases w : δ[i]? with
  | none => rw [w] at h; cases h
  | some o =>
    rw [w] at h
    cases o with
    | none => cases h
    | some t => cases t <;> first | (cases h; done) | (cases h; exact ⟨rfl, fun C e => nomatch e⟩)
theorem unxn_own {δ : DSt} {i : Nat} {s : Sl} (h : δ[i]? = some (some s)) (o : ∀ C, s ≠ .xn C) : (unxn δ)[i]? = some (some s) := by
  unfold unxn
  rw [List.getElem?_map, h]
  cases s with
  | xn C => exact absurd rfl (o C)
  | _ => rfl
theorem unxn_len {δ : DSt} : (unxn δ).length = δ.length := List.length_map _
section
variable {K : Fg} {Z : Ent} {Hs H : Hp} {σ : L2.St} {δ : DSt}
abbrev Ent.su (Z : Ent) (xa : Option (Addr × Str)) : Ent := ⟨Z.H0, Z.Hs0, Z.own, Z.G, Z.σ0, xa, Z.blk⟩
theorem Rl.unxn {xa : Option (Addr × Str)} (R : Rl K Z Hs H σ δ) : Rl K (Z.su xa) Hs H σ (unxn δ) := by
  refine ⟨by rw [unxn_len, R.len], R.sub, R.ext, R.fr, R.new, R.hid, fun i d e => R.shr i d (unxn_some e).1, ?_, R.grd, fun i s e => R.prm i s (unxn_some e).1, fun i C e => absurd rfl ((unxn_some e).2 C)⟩
  obtain ⟨f, F⟩ := R.fps
  refine ⟨f, ⟨fun i s e => F.at_ i s (unxn_some e).1, fun i h => F.emp i fun s e => ?_, F.hs, F.old, fun i s a e => F.mine i s a (unxn_some e).1, F.dis, F.g⟩⟩
  cases s with
  | xn C => rfl
  | sh d => rfl
  | ow p xs => exact h _ (unxn_own e fun C z => nomatch z)
  | ob p o => exact h _ (unxn_own e fun C z => nomatch z)
theorem FrA.unxn {xa : Option (Addr × Str)} {v : V} {s : Sl} {A : List Addr} (R : Rl K Z Hs H σ δ) (c : FrA K Z Hs H σ δ v s A) : FrA K (Z.su xa) Hs H σ (DL.unxn δ) v s A := by
  refine ⟨c.at_, c.hs, c.mine, fun f' F' j a m m' => ?_, c.g⟩
  obtain ⟨f, F⟩ := R.fps
  have e : f' j = f j := by
    cases ho : f j with
    | nil =>
      refine F'.emp j fun s e => ?_
      cases h : s.own with
      | false => rfl
      | true =>
        obtain ⟨v, k1, k2⟩ := F.at_ j s (unxn_some e).1 h
        obtain ⟨b, _, mb⟩ := k2.head
        rw [ho] at mb
        exact nomatch mb
    | cons b l =>
      have nx : ∀ s, δ[j]? = some (some s) → ∀ C, s ≠ .xn C := fun s e C z => by
        have := F.emp j (fun t et => by rw [e] at et; cases et; rw [z]; rfl)
        rw [ho] at this
        cases this
      rw [← ho]
      refine F.eqj F' j ?_ (fun _ z => z) fun _ _ => rfl
      cases w : δ[j]? with
      | none =>
        unfold DL.unxn
        rw [List.getElem?_map, w]
        rfl
      | some o =>
        cases o with
        | none =>
          unfold DL.unxn
          rw [List.getElem?_map, w]
          rfl
        | some s => exact unxn_own w (nx s w)
  rw [e] at m'
  exact c.dis f F j a m m'
/-- the suite begins -/
theorem Rl.suite {a : Addr} {C : Str} {i : Nat} (R : Rl K Z Hs H σ δ) : Rl K (Z.su (some (a, C))) Hs H (σ.set i (some (.ref a))) ((DL.unxn δ).set i (some (.xn C))) := by
  by_cases hi : i < σ.length
  · exact (R.unxn (xa := some (a, C))).put (A := []) (fun d e => nomatch e) (fun z => nomatch z) (fun a m => nomatch m) (fun a m => nomatch m) (fun _ a m => nomatch m) (fun _ _ _ a _ m => nomatch m) (fun a o m => nomatch m) (fun z => nomatch z)
      (fun C' e => by cases e; exact ⟨⟨a, rfl, rfl⟩, rfl⟩) hi
  · exact (R.unxn (xa := some (a, C))).set_out hi
/-- the shared part as the entry's -/
abbrev Ent.hs (Z : Ent) (Hs : Hp) : Ent := ⟨Z.H0, Hs, Z.own, Z.G, Z.σ0, Z.xa, Z.blk⟩
theorem Rl.toHs (R : Rl K Z Hs H σ δ) : Rl K (Z.hs Hs) Hs H σ δ :=
  ⟨R.len, R.sub, Same.refl _, R.fr, fun b n => .inl n, R.hid, R.shr, R.fps.elim fun f F => ⟨f, ⟨F.at_, F.emp, F.hs, F.old, F.mine, F.dis, F.g⟩⟩, R.grd, R.prm, R.exn⟩
theorem Rl.ofHs {Hs' H' : Hp} {σ' : L2.St} {δ' : DSt} (R : Rl K Z Hs H σ δ) (R' : Rl K (Z.hs Hs) Hs' H' σ' δ') : Rl K Z Hs' H' σ' δ' :=
  ⟨R'.len, R'.sub, R.ext.trans R'.ext, R'.fr, fun b n => (R'.new b n).elim (fun z => R.new b z) .inr, R'.hid, R'.shr, R'.fps.elim fun f F => ⟨f, ⟨F.at_, F.emp, F.hs, F.old, F.mine, F.dis, F.g⟩⟩, R'.grd, R'.prm, R'.exn⟩
theorem FrA.ofHs {Hs2 : Hp} {v : V} {s : Sl} {A : List Addr} (c : FrA K (Z.hs Hs2) Hs H σ δ v s A) : FrA K Z Hs H σ δ v s A :=
  ⟨c.at_, c.hs, c.mine, fun f F j a m m' => c.dis f ⟨F.at_, F.emp, F.hs, F.old, F.mine, F.dis, F.g⟩ j a m m', c.g⟩
/-- a slot is let go -/
theorem Rl.gone (R : Rl K Z Hs H σ δ) (i : Nat) : Rl K Z Hs H (σ.set i none) (δ.set i none) := by
  have R1 := R.reslot (σ' := σ.set i none) (vs := [i]) (List.length_set) fun j h => by
    rw [List.getElem?_set_ne]
    intro e
    exact h (by rw [e]; exact List.mem_singleton_self _)
  exact R1
end
def suEnds (i : Nat) (N : DEnds) : DEnds := ⟨fun δ => N.nx ((unxn δ).set i none), fun d δ => N.rt d (unxn δ), fun xs δ => N.ro xs (unxn δ), fun δ => N.bk ((unxn δ).set i none), fun δ => N.ct ((unxn δ).set i none)⟩
section
variable {X : Cx} {Z : Ent} {pos : Pos} {ex : Xd → DSt → Prop}
/-- M: of which classes the clause takes exceptions -/
def dTryAs (i : Nat) (M : Str → Option Bool) (ex : Xd → DSt → Prop) (tb : (Xd → DSt → Prop) → DS) (ts : Xd → DS) : DS := fun N δ => tb (fun x δ' => ∃ b, M x.C = some b ∧ (b = true → ts x (suEnds i N) ((unxn δ').set i (some (.xn x.C)))) ∧ (b = false → ex x δ')) N δ
theorem ds_tryAsS {x n : Str} {c : Value} {i : Nat} {M : Str → Option Bool} {body suite : List Stmt} {b₀ : Stmt} {np pos' : Pos} {tb : (Xd → DSt → Prop) → DS} {ts : Xd → DS} (xo : XOk X Z ex) (hs : X.stack = X.env :: X.outer) (hf : X.env.frame = some X.env.locals) (hN : X.N.Nodup) (hi : X.N[i]? = some n) (hln : X.env.kindOf n = some .local) (hc : Names X x c)
    (hM : ∀ C b, M C = some b → PySem.W.exmOne X.K (.ref (He.ga X.K C)) c = some b)
    (hb : ∀ (ex' : Xd → DSt → Prop) (pn : List (Addr × Obj)) (xe : Value → Shared → Prop) (Z' : Ent), XOk (X.tr pn xe) Z' ex' → PassesOwn (model X.prog X.w) X.A X.env xe → (Same Z.Hs0 Z'.Hs0 ∧ Z'.σ0 = Z.σ0) → Dss (X.tr pn xe) Z' body (tb ex'))
    (hsu : ∀ (a : Addr) (oe : Obj) (d : Option Addr) (x : Xd) (pn : List (Addr × Obj)) (Z' : Ent), Z'.xa = some (a, x.C) → Zc (.ref (He.ga X.K x.C)) d oe → (∃ vs, oe.data = .fields vs) → XfAt X.K Z'.Hs0 d x → Dss (X.suite a ((a, oe) :: pn)) Z' (b₀ :: suite) (ts x)) :
    Ds X Z (.Try body [.ExceptHandler (some (.Name x np)) (some n) (b₀ :: suite) pos'] [] [] pos) (dTryAs i M ex tb ts) := by
  refine ⟨ps_imp (ps_try_as hs hf hN hi hln hc (takes_canon X)
    (tb := fun W D σ H => ∃ Hs δ N ex', Rl X.K Z Hs H σ δ ∧ EndsOk X.K Z Hs D N ∧ (∀ Hs' H' σ' δ' cls d x, Same Hs Hs' → Rl X.K Z Hs' H' σ' δ' → XAt X.K Hs' cls d x → ex' x δ' → W cls d σ' H') ∧ tb ex' N δ)
    (ts := fun a cls d D σ H => ∃ x : Xd, cls = .ref (He.ga X.K x.C) ∧ ∃ Z' : Ent, Z'.xa = some (a, x.C) ∧ XfAt X.K Z'.Hs0 d x ∧ lS X.K Z' (ts x) D σ H)
    (fun W pn xe tk po => ⟨fun pins s σ H D I ⟨Hs, δ, N, ex', R, ok, hW, q⟩ => ?_⟩)
    (fun a oe cls d pn hz hd => ⟨fun pins s σ H D I ⟨x, e1, Z', e3, e4, q⟩ => ?_⟩)) fun D σ H ⟨Hs, δ, N, R, ok, q⟩ => ⟨Hs, δ, N, _, R, ok, fun Hs' H' σ' δ' cls d x s' R' xa z => ?_, q⟩⟩
  · refine (hb ex' pn xe (Z.hs Hs) (fun Hs' H' σ' δ' cls d x R' xa z => canon_of tk (hW Hs' H' σ' δ' cls d x R'.ext (R.ofHs R') xa z)) po ⟨R.ext, rfl⟩).run.run pins s σ H D I ⟨Hs, δ, N, R.toHs, ⟨?_, ?_, ?_, ?_, ?_⟩, q⟩
    · exact fun σ5 δ5 Hs5 H5 s5 R5 q5 => ok.nx σ5 δ5 Hs5 H5 s5 (R.ofHs R5) q5
    · exact fun σ5 δ5 Hs5 H5 v d s5 R5 dp q5 => ok.rt σ5 δ5 Hs5 H5 v d s5 (R.ofHs R5) dp q5
    · exact fun σ5 δ5 Hs5 H5 v d s5 R5 c q5 => ok.ro σ5 δ5 Hs5 H5 v d s5 (R.ofHs R5) ⟨c.1, c.2.elim fun A c => ⟨A, c.ofHs⟩⟩ q5
    · exact fun σ5 δ5 Hs5 H5 s5 R5 q5 => ok.bk σ5 δ5 Hs5 H5 s5 (R.ofHs R5) q5
    · exact fun σ5 δ5 Hs5 H5 s5 R5 q5 => ok.ct σ5 δ5 Hs5 H5 s5 (R.ofHs R5) q5
  · subst e1
    exact (hsu a oe d x pn Z' e3 hz hd e4).run.run pins s σ H D I q
  · obtain ⟨b, hb1, hy, hn⟩ := z
    obtain ⟨rfl, xf⟩ := xa
    refine ⟨b, hM _ _ hb1, fun e a na => ⟨x, rfl, (Z.hs Hs').su (some (a, x.C)), rfl, xf, Hs', _, suEnds i N, R'.toHs.suite, ⟨?_, ?_, ?_, ?_, ?_⟩, hy e⟩, fun e => xo Hs' H' σ' δ' _ _ x R' ⟨rfl, xf⟩ (hn e)⟩
    · exact fun σ5 δ5 Hs5 H5 s5 R5 q5 => ok.nx _ _ Hs5 H5 (s'.trans s5) ((R'.ofHs (R5.unxn (xa := Z.xa))).gone i) q5
    · exact fun σ5 δ5 Hs5 H5 v d s5 R5 dp q5 => ok.rt _ _ Hs5 H5 v d (s'.trans s5) (R'.ofHs (R5.unxn (xa := Z.xa))) dp q5
    · exact fun σ5 δ5 Hs5 H5 v d s5 R5 c q5 => ok.ro _ _ Hs5 H5 v d (s'.trans s5) (R'.ofHs (R5.unxn (xa := Z.xa))) ⟨c.1, c.2.elim fun A c => ⟨A, (FrA.unxn (Z := (Z.hs Hs').su (some (a, x.C))) (xa := Z.xa) R5 c).ofHs⟩⟩ q5
    · exact fun σ5 δ5 Hs5 H5 s5 R5 q5 => ok.bk _ _ Hs5 H5 (s'.trans s5) ((R'.ofHs (R5.unxn (xa := Z.xa))).gone i) q5
    · exact fun σ5 δ5 Hs5 H5 s5 R5 q5 => ok.ct _ _ Hs5 H5 (s'.trans s5) ((R'.ofHs (R5.unxn (xa := Z.xa))).gone i) q5
class XSMono (t : (Xd → DSt → Prop) → DS) : Prop where
  m : ∀ (ex ex' : Xd → DSt → Prop) (N N' : DEnds) (δ : DSt), (∀ x δ, ex x δ → ex' x δ) → N.Le N' → t ex N δ → t ex' N' δ
instance {i : Nat} {M : Str → Option Bool} {tb : (Xd → DSt → Prop) → DS} {ts : Xd → DS} [XSMono tb] [∀ x, SMono (ts x)] : SMono (dTryAs i M ex tb ts) := ⟨fun N N' δ le q => by
  refine XSMono.m (t := tb) _ _ _ _ _ (fun x δ' ⟨b, e, h1, h2⟩ => ⟨b, e, fun z => SMono.m (t := ts x) _ _ _ ⟨fun _ z => le.nx _ z, fun _ _ z => le.rt _ _ z, fun _ _ z => le.ro _ _ z, fun _ z => le.bk _ z, fun _ z => le.ct _ z⟩ (h1 z), h2⟩) le q⟩
instance {f : FX} {dd : List PyData} {l : DL'} [XMono f] [LMono l] : XSMono (fun ex => dDrop (dCallX ex f dd l)) := ⟨fun ex ex' N N' δ hx le q => LMono.m (t := l) _ _ _ (fun ds δ' z => XMono.m (f := f) _ _ _ _ _ (fun r z => le.nx _ z) (fun x z => hx _ _ z) z) q⟩
/-! ### isinstance of the exception -/
def dIsE (i : Nat) (M : Str → Option Bool) : DE := fun δ Q => match δ[i]? with
  | some (some (.xn C)) => ∃ b, M C = some b ∧ Q (.bool b) δ
  | _ => False
instance {i : Nat} {M : Str → Option Bool} : EMono (dIsE i M) := ⟨fun δ Q Q' hq q => by
  unfold dIsE at q ⊢
  split at q
  · obtain ⟨b, e, q⟩ := q
    exact ⟨b, e, hq _ _ q⟩
  · exact q⟩
theorem inst_x {X : Cx} {a D : Addr} {oe : Obj} {d : Option Addr} {pn pins : List (Addr × Obj)} {σ : L2.St} {H : Hp} {s : Shared} (I : Inv (X.suite a ((a, oe) :: pn)) pins σ H s) (hz : Zc (.ref D) d oe) (hf : ∃ vs, oe.data = .fields vs) (hx : XdAt H d) : ∃ od, PySem.W.InstAt s.heap a oe D od := by
  have hp := (I.pin (a, oe) (List.mem_append_left _ List.mem_cons_self)).1
  obtain ⟨vs, hv⟩ := hf
  have no : PySem.W.notCls oe = true := by
    unfold PySem.W.notCls
    rw [hv]
  rcases hx with rfl | ⟨dd, ws, rfl, e⟩
  · exact ⟨none, hp, hz.1, no, by rw [hz.2]; trivial⟩
  · have ho : ObjOk X.prog X.w H s.heap dd (.xd ws) := I.hok dd _ e
    obtain ⟨mA, hn, hr⟩ := ho
    obtain ⟨od, h1, h2⟩ := lookIn_ns hn
    exact ⟨some od, hp, hz.1, no, by rw [hz.2]; exact h1⟩
def rIsX (K : PySem.W.Frag) (D a : Addr) (d : Option Addr) : List V → Hp → VK → Prop := fun xs H Q => XdAt H d ∧ rIsE K D a xs H Q
theorem kitx {K : Fg} {D a : Addr} {oe : Obj} {od : Option Obj} (C : ExcC K D) : PySem.W.KitX K (.ref a) (.ref D) (fun h => PySem.W.InstAt h a oe D od) := by
  refine PySem.W.kitx_exc ?_ C.hg C.hk C.hs C.ha C.hn C.ht C.hm
  obtain ⟨cd, hc, _⟩ := PySem.W.any_some C.hd
  rw [hc]
  rfl
theorem call_isX {a D : Addr} {oe : Obj} {d : Option Addr} {pn : List (Addr × Obj)} (C : ExcC X.K D) (hz : Zc (.ref D) d oe) (hf : ∃ vs, oe.data = .fields vs) : CallR (X.suite a ((a, oe) :: pn)) (.builtin "isinstance") (rIsX X.K D a d) := by
  rintro pins s σ H xs us Q I r ⟨hx, c, cv, b, rfl, hcv, e, q⟩
  obtain ⟨od, J⟩ := inst_x I hz hf hx
  cases r with
  | cons r1 r2 =>
    cases r2 with
    | cons r2 r3 =>
      cases r3
      cases r1
      cases hcv _ r2
      exact PySem.W.kia_one (kitx C) I.kIn J e (fun z => nomatch z) fun tk => ⟨.bl b, H, I.kept (t' := tk) fun _ _ z => z, rfl, q⟩
theorem de_isE (i : Nat) {M : Str → Option Bool} {a : Addr} {oe : Obj} {C y : Str} {pn : List (Addr × Obj)} {Z' : Ent} {cE : Expr} {c : V} {cv : Value} {p py : Pos} (hxa : Z'.xa = some (a, C)) {dz : Option Addr} (hz : Zc (.ref (He.ga X.K C)) dz oe) (hf : ∃ vs, oe.data = .fields vs) (hxd : XdAt Z'.Hs0 dz) (ec : M C ≠ none → ExcC X.K (He.ga X.K C)) (hc : PE (X.suite a ((a, oe) :: pn)) cE (tC c)) (hcv : ∀ u, RelV c u → u = cv)
    (hM : ∀ b, M C = some b → PySem.W.kitOne X.K (.ref (He.ga X.K C)) cv = some b) (hg : Gl (X.suite a ((a, oe) :: pn)) "isinstance") (hm : X.mg "isinstance" = none) (hv : bootBuiltins "isinstance" = some (.builtin "isinstance"))
    (hN : X.N[i]? = some y := by rfl) (hvi : Vis X.env.scope y := by first | exact Or.inl rfl | exact Or.inr (Or.inl rfl) | exact Or.inr (Or.inr rfl)) (hd : (y == ("__debug__" : Str)) = false := by decide) (hcd : (y == ("__classdict__" : Str)) = false := by decide)
    (h1 : starEach [.Name y py, cE] X.env = (false, eval (.Name y py) X.env) :: starEach [cE] X.env := by rfl) (h2 : starEach [cE] X.env = (false, eval cE X.env) :: starEach [] X.env := by rfl) (hpl : (backTo pos (starEach [cE] X.env)).any (·.1) = false := by rfl) :
    De (X.suite a ((a, oe) :: pn)) Z' (.Call (.Name "isinstance" p) [.Name y py, cE] [] pos) (dIsE i M) := by
  by_cases hn : M C = none
  · refine ⟨⟨fun pins s σ H Q I ⟨Hs, δ, R, q⟩ => ?_⟩, EMono.m (t := dIsE i M)⟩
    unfold dIsE at q
    split at q
    · rename_i C' e
      obtain ⟨b, e1, q⟩ := q
      obtain ⟨a', h1, h2⟩ := R.exn i C' e
      rw [hxa] at h2
      cases h2
      rw [hn] at e1
      cases e1
    · exact q.elim
  · refine ⟨pe_imp (pe_callB (call_isX (ec hn) hz hf) hg hm hv (pa_cons (pe_var (X := X.suite a ((a, oe) :: pn)) hN hvi hd hcd) (pa_cons hc pa_nil h2) h1) (by decide) (by decide) h1 hpl) fun σ H Q ⟨Hs, δ, R, q⟩ => ?_, EMono.m (t := dIsE i M)⟩
    unfold dIsE at q
    split at q
    · rename_i C' e
      obtain ⟨b, e1, q⟩ := q
      obtain ⟨a', h1, h2⟩ := R.exn i C' e
      rw [hxa] at h2
      cases h2
      exact ⟨_, h1, (hxd.up R.ext).up R.sub, c, cv, b, rfl, hcv, hM b e1, q _ Hs H (Same.refl _) R (.bl _)⟩
    · exact q.elim
end
end DL

namespace DL
open PySem PySem.Spec L2 PyProof.Rows
theorem powB90 {i j : Int} (h1 : -1237940039285380274899124224 < i) (h2 : i < 1237940039285380274899124224) (h3 : 0 ≤ j) (h4 : j ≤ 1000000) : CPowB i j := by
  have e : (2 : Nat) ^ 90 = 1237940039285380274899124224 := by decide
  exact powB (b := 90) (by omega) h3 (by omega)
theorem noxn_sh {d : PyData} : noxn (some (.sh d)) = some (.sh d) := rfl
theorem noxn_ow {p : Bool} {xs : List PyData} : noxn (some (.ow p xs)) = some (.ow p xs) := rfl
theorem noxn_none : noxn none = none := rfl
theorem noxn_xn {C : Str} : noxn (some (.xn C)) = none := rfl
/-! ### facts about exception classes -/
/-- a class by its name: an own one, a built-in one -/
inductive CN where
  | own (x : Str)
  | ty (n : String)
def CN.val (K : Fg) : CN → Value
  | .own x => .ref (He.ga K x)
  | .ty n => .type n
def CN.v (K : Fg) : CN → V
  | .own x => .ref (He.ga K x)
  | .ty n => .ty n
theorem CN.cls {K : Fg} (c : CN) : ClsV (c.v K) (c.val K) := by
  cases c with
  | own x => exact .own _
  | ty n => exact .ty n
def excBases : List (String × List Value) := [("ValueError.__new__", [.type "ValueError", .type "Exception", .type "BaseException", .type "object"]),
  ("ZeroDivisionError.__new__", [.type "ZeroDivisionError", .type "ArithmeticError", .type "Exception", .type "BaseException", .type "object"]),
  ("IndexError.__new__", [.type "IndexError", .type "LookupError", .type "Exception", .type "BaseException", .type "object"])]
theorem excBases_ok {n : String} {bm : List Value} (h : (n, bm) ∈ excBases) : ∃ B initId, ExcBaseFacts B n initId bm := by
  simp only [excBases, List.mem_cons, List.not_mem_nil, or_false, Prod.mk.injEq] at h
  rcases h with ⟨rfl, rfl⟩ | ⟨rfl, rfl⟩ | ⟨rfl, rfl⟩
  · exact ⟨_, _, PySem.F.excBase_ValueError⟩
  · exact ⟨_, _, PySem.F.excBase_ZeroDivisionError⟩
  · exact ⟨_, _, PySem.F.excBase_IndexError⟩
/-! ### tables of the module -/
/-- what a table's value is to the machine -/
def dvK (K : Fg) : PyData → V
  | .str x => .str x
  | .int i => .int i
  | .bool b => .bl b
  | .dict [(.bool true, .str f)] => .ref (He.fAd K (f, none))
  | _ => .non
def okV : PyData → Bool
  | .str _ => true
  | .int _ => true
  | .bool _ => true
  | .none => true
  | .dict [(.bool true, .str _)] => true
  | _ => false
def relB : V → Value → Bool
  | .str x, .str y _ => x == y
  | .int i, .int j _ => i == j
  | .bl b, .bool c => b == c
  | .ref a, .ref b => a == b
  | .non, .none => true
  | _, _ => false
inductive Fb where
  | tab (x : Str) (D : List (Str × PyData))
  | exd (x : Str)
  | exm (c : CN) (l : List (Str × Bool))
  | kit (c : CN) (l : List (Str × Bool))
  | kits (cs : List CN) (l : List (Str × Bool))
  | exi (l : List (Str × Bool))
  | ins (x : Str)
  | p (q : Fg → Bool)
def exiB (K : Fg) (x : Str) : Bool := decide (PySem.W.findIn K (.ref (He.ga K x)) "__getattribute__" = some (some (.builtin "BaseException.__getattribute__"))) && (decide (PySem.W.findIn K (.ref (He.ga K x)) "__getattr__" = some none) && (decide (PySem.W.subIn K (.ref (He.ga K x)) (.type "BaseException") = some true) && (PySem.W.hasDictIn K (He.ga K x) &&
      (decide (PySem.W.findIn K (.ref (He.ga K x)) "__class__" = some (some (.builtin "object.__class__"))) && (decide (PySem.W.specialIn K (.builtin "object.__class__") "__get__" = some (some (.builtin "getset_descriptor.__get__"))) && (decide (PySem.W.takesIn K (.builtin "object.__class__") = some true) && decide (PySem.W.mroIn K (He.ga K x) (.type "object") = some true)))))))
def Fb.ok (K : Fg) : Fb → Bool
  | .p q => q K
  | .tab x D => (match PySem.W.nsIn K mainGlobals x with
    | some (some (.ref a)) => PyProof.Rows.KTD.tabLook (fun d u => relB (dvK K d) u) (fun b => List.lookup b K) a D
    | _ => false) && D.all (fun p => okV p.2)
  | .exd x => excBases.any (fun p => PySem.W.excIn K (He.ga K x) p.2 p.1) && (PySem.W.keepIn K (.ref (He.ga K x)) && (decide (PySem.W.subIn K (.ref (He.ga K x)) (.type "BaseException") = some true) && decide (PySem.W.typeIn K (.ref (He.ga K x)) = some (.type "type"))))
  | .exm c l => l.all fun p => decide (PySem.W.exmOne K (.ref (He.ga K p.1)) (c.val K) = some p.2)
  | .kit c l => l.all fun p => decide (PySem.W.kitOne K (.ref (He.ga K p.1)) (c.val K) = some p.2)
  | .kits cs l => l.all fun p => decide (PySem.W.kitAny K (.ref (He.ga K p.1)) (cs.map (CN.val K)) = some p.2)
  | .exi l => l.all fun p => exiB K p.1
  | .ins x => (He.Fa.cls x).ok K && (decide (PySem.W.findIn K (.ref (He.ga K x)) "__class__" = some (some (.builtin "object.__class__"))) && (decide (PySem.W.specialIn K (.builtin "object.__class__") "__get__" = some (some (.builtin "getset_descriptor.__get__"))) && (decide (PySem.W.takesIn K (.builtin "object.__class__") = some true) &&
    (decide (PySem.W.mroIn K (He.ga K x) (.type "object") = some true) && sixT.all fun T => decide (PySem.W.kitOne K (.ref (He.ga K x)) (.type T) = some false)))))
section
variable {K : Fg}
theorem exd_ok {x : Str} (c : (Fb.exd x).ok K = true) : ExD K x := by
  obtain ⟨c1, c⟩ := He.ba c
  obtain ⟨c2, c⟩ := He.ba c
  obtain ⟨c3, c4⟩ := He.ba c
  obtain ⟨⟨n, bm⟩, m, h⟩ := List.any_eq_true.mp c1
  obtain ⟨B, i, F⟩ := excBases_ok m
  exact ⟨⟨B, n, i, bm, F, h⟩, c2, of_decide_eq_true c3, of_decide_eq_true c4⟩
theorem look_all {α : Type} {p : Str × α → Bool} : ∀ {l : List (Str × α)} {x : Str} {b : α}, l.all p = true → l.lookup x = some b → p (x, b) = true
  | [], _, _, _, h => nomatch h
  | (y, c) :: r, x, b, h1, h2 => by
    rw [List.all_cons, Bool.and_eq_true] at h1
    unfold List.lookup at h2
    split at h2
    · rename_i e
      cases h2
      rw [eq_of_beq e]
      exact h1.1
    · exact look_all h1.2 h2
theorem exm_okB {c : CN} {l : List (Str × Bool)} (h : (Fb.exm c l).ok K = true) : ∀ C b, l.lookup C = some b → PySem.W.exmOne K (.ref (He.ga K C)) (c.val K) = some b := fun C b e => of_decide_eq_true (look_all (p := fun p => decide (PySem.W.exmOne K (.ref (He.ga K p.1)) (c.val K) = some p.2)) h e)
theorem kit_okB {c : CN} {l : List (Str × Bool)} (h : (Fb.kit c l).ok K = true) : ∀ C b, l.lookup C = some b → PySem.W.kitOne K (.ref (He.ga K C)) (c.val K) = some b := fun C b e => of_decide_eq_true (look_all (p := fun p => decide (PySem.W.kitOne K (.ref (He.ga K p.1)) (c.val K) = some p.2)) h e)
theorem exiB_ok {x : Str} (c : exiB K x = true) : ExcC K (He.ga K x) := by
  obtain ⟨c1, c⟩ := He.ba c
  obtain ⟨c2, c⟩ := He.ba c
  obtain ⟨c3, c⟩ := He.ba c
  obtain ⟨c4, c⟩ := He.ba c
  obtain ⟨c5, c⟩ := He.ba c
  obtain ⟨c6, c⟩ := He.ba c
  obtain ⟨c7, c8⟩ := He.ba c
  exact ⟨of_decide_eq_true c1, of_decide_eq_true c2, of_decide_eq_true c3, c4, of_decide_eq_true c5, of_decide_eq_true c6, of_decide_eq_true c7, of_decide_eq_true c8⟩
theorem exi_ok {l : List (Str × Bool)} (h : (Fb.exi l).ok K = true) : ∀ C, l.lookup C ≠ none → ExcC K (He.ga K C) := fun C n => by
  cases e : l.lookup C with
  | none => exact absurd e n
  | some b => exact exiB_ok (look_all (p := fun p => exiB K p.1) h e)
end
/-! ### the hook -/
abbrev AlB : Type := AlC × Bool
def obsB (fa : List He.Fa) (fn : List He.DefD) (cs : List (Str × PyData)) (fb : List Fb) (K : PySem.W.Frag) : AlB := (obsC fa fn cs K, fb.all (Fb.ok K))
def SaysB (fa : List He.Fa) (fn : List He.DefD) (cs : List (Str × PyData)) (fb : List Fb) (K : PySem.W.Frag) : Prop := obsB fa fn cs fb K = ((He.valD fn, true), true)
section
variable {fa : List He.Fa} {fn : List He.DefD} {cs : List (Str × PyData)} {fb : List Fb} {K : PySem.W.Frag}
theorem SaysB.c (c : SaysB fa fn cs fb K) : SaysC fa fn cs K := congrArg (fun z : AlB => z.1) c
theorem SaysB.b (c : SaysB fa fn cs fb K) (i : Nat) {f : Fb} (e : fb[i]? = some f := by rfl) : f.ok K = true := List.all_eq_true.mp (show fb.all (Fb.ok K) = true from congrArg (fun z : AlB => z.2) c) _ (List.mem_of_getElem? e)
end
/-! ### isinstance(e, (A, B, ..)) of the exception -/
section
variable {X : Cx} {pos : Pos}
/-- a class's name -/
theorem pe_cn {x : Str} {c : CN} {p : Pos} (hg : Gl X x) (h : (c = .own x ∧ X.mg x = some (.ref (He.ga X.K x))) ∨ (∃ n, c = .ty n ∧ X.mg x = none ∧ bootBuiltins x = some (.type n) ∧ x ≠ "__name__")) (hd : (x == ("__debug__" : Str)) = false := by decide) : PE X (.Name x p) (tC (c.v X.K)) := by
  rcases h with ⟨rfl, h⟩ | ⟨n, rfl, h1, h2, h3⟩
  · exact pe_glob hg h rfl hd
  · exact pe_bltn hg h1 h2 rfl h3 hd
theorem de_isE1 (i : Nat) {l : List (Str × Bool)} {a : Addr} {oe : Obj} {C y x : Str} {c : CN} {pn : List (Addr × Obj)} {Z' : Ent} {p py px : Pos} (hxa : Z'.xa = some (a, C)) {dz : Option Addr} (hz : Zc (.ref (He.ga X.K C)) dz oe) (hf : ∃ vs, oe.data = .fields vs) (hxd : XdAt Z'.Hs0 dz) (ec : ∀ C, l.lookup C ≠ none → ExcC X.K (He.ga X.K C)) (hM : ∀ C b, l.lookup C = some b → PySem.W.kitOne X.K (.ref (He.ga X.K C)) (c.val X.K) = some b)
    (hgx : Gl (X.suite a ((a, oe) :: pn)) x) (hx : (c = .own x ∧ X.mg x = some (.ref (He.ga X.K x))) ∨ (∃ n, c = .ty n ∧ X.mg x = none ∧ bootBuiltins x = some (.type n) ∧ x ≠ "__name__"))
    (hg : Gl (X.suite a ((a, oe) :: pn)) "isinstance") (hm : X.mg "isinstance" = none) (hv : bootBuiltins "isinstance" = some (.builtin "isinstance"))
    (hdx : (x == ("__debug__" : Str)) = false := by decide) (hN : X.N[i]? = some y := by rfl) (hvi : Vis X.env.scope y := by first | exact Or.inl rfl | exact Or.inr (Or.inl rfl) | exact Or.inr (Or.inr rfl)) (hd : (y == ("__debug__" : Str)) = false := by decide) (hcd : (y == ("__classdict__" : Str)) = false := by decide) :
    De (X.suite a ((a, oe) :: pn)) Z' (.Call (.Name "isinstance" p) [.Name y py, .Name x px] [] pos) (dIsE i (fun C => l.lookup C)) :=
  de_isE i hxa hz hf hxd (ec C) (pe_cn (X := X.suite a ((a, oe) :: pn)) hgx hx hdx) (fun u r => (CN.cls c).eq r) (fun b => hM C b) hg hm hv hN hvi hd hcd
end
end DL

/-! DYa: lists of one's own lists. -/
namespace DL
open PySem PySem.Spec L2 PyProof.Rows
section
variable {K : Fg} {Hs H Hs' H' : Hp} {Z : Ent} {σ : L2.St} {δ : DSt}
theorem LsAt.len {vs : List V} {xss : List (List PyData)} {A : List Addr} (h : LsAt K Hs H vs xss A) : vs.length = xss.length ∧ A.length = xss.length := by
  induction h with
  | nil => exact ⟨rfl, rfl⟩
  | cons _ _ _ ih => simp only [List.length_cons]; omega
theorem LsAt.get {vs : List V} {xss : List (List PyData)} {A : List Addr} (h : LsAt K Hs H vs xss A) : ∀ (n : Nat) (xs : List PyData), xss[n]? = some xs → ∃ b ws, vs[n]? = some (.ref b) ∧ A[n]? = some b ∧ H b = some (.lst ws) ∧ DpAll K Hs ws xs := by
  induction h with
  | nil => exact fun n xs e => nomatch e
  | cons h1 h2 _ ih =>
    intro n xs e
    cases n with
    | zero => cases e; exact ⟨_, _, rfl, rfl, h1, h2⟩
    | succ n => exact ih n xs e
theorem LsAt.set {vs : List V} {xss : List (List PyData)} {A : List Addr} (h : LsAt K Hs H vs xss A) : A.Nodup → ∀ (n : Nat) (b : Addr), A[n]? = some b → ∀ (ws' : List V) (xs' : List PyData), DpAll K Hs ws' xs' → LsAt K Hs (upd H b (.lst ws')) vs (xss.set n xs') A := by
  induction h with
  | nil => exact fun _ n b e => nomatch e
  | @cons a ws vs xs xss A h1 h2 h3 ih =>
    intro nd n b e ws' xs' d
    obtain ⟨na, nd'⟩ := List.nodup_cons.mp nd
    cases n with
    | zero =>
      cases e
      exact .cons upd_same d (h3.fr (Same.refl _) fun c m => upd_ne fun q => na (q ▸ m))
    | succ n =>
      refine .cons ?_ h2 (ih nd' n b e ws' xs' d)
      have mb : b ∈ A := List.mem_of_getElem? e
      have ne : a ≠ b := fun q => na (by rw [q]; exact mb)
      rw [upd_ne ne]
      exact h1
theorem LsAt.app {vs us : List V} {xss yss : List (List PyData)} {A B : List Addr} (h : LsAt K Hs H vs xss A) (h' : LsAt K Hs H us yss B) : LsAt K Hs H (vs ++ us) (xss ++ yss) (A ++ B) := by
  induction h with
  | nil => exact h'
  | cons h1 h2 _ ih => exact .cons h1 h2 ih
theorem LsAt.dp {vs : List V} {xss : List (List PyData)} {A : List Addr} (h : LsAt K Hs H vs xss A) (e : Same Hs Hs') (k : ∀ a ∈ A, Hs' a = H a) : DpAll K Hs' vs (xss.map PyData.list) := by
  induction h with
  | nil => exact .nil
  | cons h1 h2 _ ih => exact .cons (.lst (SqL.of ((k _ (List.mem_cons_self ..)).trans h1)) (h2.up e)) (ih fun a m => k a (List.mem_cons_of_mem _ m))
end
section
variable {X : Cx} {Z : Ent} {pos : Pos}
/-! ### new lists of lists -/
abbrev DB := DSt → (List (List PyData) → DSt → Prop) → Prop
theorem FrA.grow {K : Fg} {Hs H H' : Hp} {σ : L2.St} {δ : DSt} {v : V} {s : Sl} {A : List Addr} (R : Rl K Z Hs H σ δ) (h : FrA K Z Hs H σ δ v s A) (keep : ∀ (b : Addr) (o : HO), H b = some o → H' b = some o) : FrA K Z Hs H' σ δ v s A := by
  refine ⟨h.at_.fr (Same.refl _) fun a m => ?_, h.hs, h.mine, fun f F j a m m' => ?_, h.g⟩
  · cases q : H a with
    | none => exact absurd q (h.at_.live a m)
    | some o => exact keep a o q
  · obtain ⟨f0, F0⟩ := R.fps
    rw [F0.eqj F j rfl (fun _ z => z) fun b mb => by
      cases q : H b with
      | none => exact absurd q (F0.live j mb)
      | some o => exact keep b o q] at m'
    exact h.dis f0 F0 j a m m'
/-! ### for x in a list of lists: x.append(c); x.reverse() -/
end
end DL
namespace DL
open PySem PySem.Spec L2 PyProof.Rows
section
variable {X : Cx} {Z : Ent} {pos : Pos}
class BNMono (t : DB) : Prop where
  m : ∀ (δ : DSt) (Q Q' : List (List PyData) → DSt → Prop), (∀ d δ', Q d δ' → Q' d δ') → t δ Q → t δ Q'
end
section
variable {K : PySem.W.Frag} {x qual : Str} {params : Arguments} {body : List Stmt} {scope : Scope} {kws : List (Str × V)} {f : Addr} {fd : FuncData} {ps : List Str}
end
end DL
namespace DL
open PySem PySem.Spec L2 PyProof.Rows
section
variable {X : Cx} {Z : Ent} {pos : Pos}
end
end DL

/-! DZa: objects: fields read and stored, places, promises with owned arguments. -/
namespace DL
open PySem PySem.Spec L2 PyProof.Rows
/-! ### fields -/
section
variable {K : Fg} {Hs H Hs' H' : Hp} {Z : Ent} {σ : L2.St} {δ : DSt}
theorem putF_set {f : Str} {y : V} : ∀ {xs : List Str} {vs : List V} {n : Nat}, xs.length = vs.length → xs[n]? = some f → f ∉ xs.take n → putF f y (xs.zip vs) = xs.zip (vs.set n y)
  | [], _, _, _, h, _ => by simp at h
  | _ :: _, [], _, h, _, _ => by simp at h
  | x :: xs, w :: vs, 0, _, h, _ => by
    simp at h
    subst h
    simp [putF]
  | x :: xs, w :: vs, n + 1, hl, h, hn => by
    have ne : ¬ x = f := fun e => hn (by rw [e, List.take_succ_cons]; exact List.mem_cons_self ..)
    rw [List.zip_cons_cons, putF, if_neg ne, List.set_cons_succ, List.zip_cons_cons, putF_set (by simpa using hl) (by simpa using h) (fun m => hn (by rw [List.take_succ_cons]; exact List.mem_cons_of_mem _ m))]
theorem putF_new {f : Str} {y : V} : ∀ {xs : List Str} {vs : List V}, xs.length = vs.length → f ∉ xs → putF f y (xs.zip vs) = (xs ++ [f]).zip (vs ++ [y])
  | [], [], _, _ => rfl
  | [], _ :: _, h, _ => by simp at h
  | _ :: _, [], h, _ => by simp at h
  | x :: xs, w :: vs, hl, hn => by
    have ne : ¬ x = f := fun e => hn (by rw [e]; exact List.mem_cons_self ..)
    rw [List.zip_cons_cons, putF, if_neg ne, List.cons_append, List.cons_append, List.zip_cons_cons, putF_new (by simpa using hl) (fun m => hn (List.mem_cons_of_mem _ m))]
theorem FsAt.len {vs : List V} {fs : List Fv} {A : List Addr} (h : FsAt K Hs H vs fs A) : vs.length = fs.length := by
  induction h with
  | nil => rfl
  | cons _ _ ih => simp only [List.length_cons, ih]
theorem FsAt.getD {vs : List V} {fs : List Fv} {A : List Addr} (h : FsAt K Hs H vs fs A) : ∀ {n : Nat} {d : PyData}, fs[n]? = some (.d d) → ∃ v, vs[n]? = some v ∧ Dp K Hs v d := by
  induction h with
  | nil => intro n d e; simp at e
  | @cons v f vs fs A B h1 h2 ih =>
    intro n d e
    cases n with
    | zero =>
      simp at e
      subst e
      cases h1 with
      | d h => exact ⟨v, rfl, h⟩
    | succ n => exact ih (by simpa using e)
theorem FsAt.getL {vs : List V} {fs : List Fv} {A : List Addr} (h : FsAt K Hs H vs fs A) : ∀ {n : Nat} {xs : List PyData}, fs[n]? = some (.l xs) → ∃ a ws, vs[n]? = some (.ref a) ∧ a ∈ A ∧ H a = some (.lst ws) ∧ DpAll K Hs ws xs := by
  induction h with
  | nil => intro n d e; simp at e
  | @cons v f vs fs A B h1 h2 ih =>
    intro n d e
    cases n with
    | zero =>
      simp at e
      subst e
      cases h1 with
      | @l a ws xs h h' => exact ⟨a, ws, rfl, List.mem_append_left _ (List.mem_singleton.mpr rfl), h, h'⟩
    | succ n =>
      obtain ⟨a, ws, k1, k2, k3⟩ := ih (n := n) (by simpa using e)
      exact ⟨a, ws, by simpa using k1, List.mem_append_right _ k2, k3⟩
/-- a field is put -/
theorem FsAt.set {vs : List V} {fs : List Fv} {A : List Addr} {v' : V} {f' : Fv} {B' : List Addr} (h : FsAt K Hs H vs fs A) (h' : FvAt K Hs H v' f' B') : ∀ {n : Nat}, n < fs.length → ∃ A', FsAt K Hs H (vs.set n v') (fs.set n f') A' ∧ (∀ a ∈ A', a ∈ A ∨ a ∈ B') ∧ (A.Nodup → B'.Nodup → (∀ a ∈ B', a ∉ A) → A'.Nodup) := by
  induction h with
  | nil => intro n hn; simp at hn
  | @cons v f vs fs A B h1 h2 ih =>
    intro n hn
    cases n with
    | zero =>
      refine ⟨B' ++ B, .cons h' h2, fun a m => ?_, fun n1 n2 dj => ?_⟩
      · rcases List.mem_append.mp m with z | z
        · exact .inr z
        · exact .inl (List.mem_append_right _ z)
      · obtain ⟨_, nB, _⟩ := List.nodup_append.mp n1
        exact List.nodup_append.mpr ⟨n2, nB, fun a m b m' e => dj a m (List.mem_append_right _ (e ▸ m'))⟩
    | succ n =>
      obtain ⟨A', k1, k2, k3⟩ := ih (n := n) (by simpa using hn)
      refine ⟨A ++ A', .cons h1 k1, fun a m => ?_, fun n1 n2 dj => ?_⟩
      · rcases List.mem_append.mp m with z | z
        · exact .inl (List.mem_append_left _ z)
        · rcases k2 a z with z | z
          · exact .inl (List.mem_append_right _ z)
          · exact .inr z
      · obtain ⟨nA, nB, nd⟩ := List.nodup_append.mp n1
        refine List.nodup_append.mpr ⟨nA, k3 nB n2 fun a m m' => dj a m (List.mem_append_right _ m'), fun a m b m' e => ?_⟩
        subst e
        rcases k2 a m' with z | z
        · exact nd a m a z rfl
        · exact dj a z (List.mem_append_left _ m)
theorem FsAt.app {vs : List V} {fs : List Fv} {A : List Addr} {v' : V} {f' : Fv} {B' : List Addr} (h : FsAt K Hs H vs fs A) (h' : FvAt K Hs H v' f' B') : FsAt K Hs H (vs ++ [v']) (fs ++ [f']) (A ++ B') := by
  induction h with
  | nil =>
    have := FsAt.cons h' FsAt.nil
    rw [List.append_nil] at this
    exact this
  | cons h1 h2 ih =>
    rw [List.cons_append, List.cons_append, List.append_assoc]
    exact .cons h1 ih
/-- a value for a field -/
structure FvFr (K : Fg) (Z : Ent) (Hs H : Hp) (σ : L2.St) (δ : DSt) (v : V) (f : Fv) (B : List Addr) : Prop where
  at_ : FvAt K Hs H v f B
  nd : B.Nodup
  nw : ∀ b ∈ B, Nw K Z Hs H σ δ b
  hs : ∀ b ∈ B, Hs b = none
theorem FvFr.d {v : V} {d : PyData} (h : Dp K Hs v d) : FvFr K Z Hs H σ δ v (.d d) [] := ⟨.d h, List.nodup_nil, fun b m => (nomatch m), fun b m => nomatch m⟩
theorem FvFr.l {v : V} {xs : List PyData} (h : FrO K Z Hs H σ δ v xs) : ∃ B, FvFr K Z Hs H σ δ v (.l xs) B := by
  obtain ⟨A, h⟩ := h
  obtain ⟨a, ws, rfl, rfl, h1, h3⟩ := h.lst
  exact ⟨[a], .l h1 h3, by simp, fun b m => h.nw m, h.hs⟩
/-- an owned object is to be seen -/
theorem Rl.obj (R : Rl K Z Hs H σ δ) {i : Nat} {p : Bool} {C : Str} {FS : List Str} {fs : List Fv} (h : δ[i]? = some (some (.ob p (.ins C FS fs)))) :
    ∃ a dx vs A, σ[i]? = some (some (.ref a)) ∧ H a = some (.ins (He.ga K C) dx (FS.zip vs)) ∧ FS.length = vs.length ∧ FsAt K Hs H vs fs A ∧ InsOk K C ∧ (∀ f, Fps K Z Hs H σ δ f → f i = a :: dx :: A) ∧ H dx = some (.own a) ∧ (a :: dx :: A).Nodup := by
  obtain ⟨f, F⟩ := R.fps
  obtain ⟨v, hv, hat⟩ := F.at_ i _ h rfl
  have hat0 := hat
  generalize hB : f i = B at hat
  cases hat with
  | @ins a dx _ _ _ vs _ A h5 h6 h1 h2 h3 h4 => exact ⟨a, dx, vs, A, hv, h1, h6, h3, h5, fun f' F' => by rw [← F.same F' i, hB], h2, h4⟩
end
end DL

/-! DZb: places, owned arguments. -/
namespace DL
open PySem PySem.Spec L2 PyProof.Rows
/-- a place: a slot; a field of a slot's object, a list -/
inductive Pc where
  | s (i : Nat)
  | f (i : Nat) (C : Str) (FS : List Str) (n : Nat)
def Pc.ix : Pc → Nat
  | .s i => i
  | .f i _ _ _ => i
/-- the owned thing at a place, as an argument -/
def Pc.get (δ : DSt) : Pc → Option Sl
  | .s i => match δ[i]? with
    | some (some (.ow _ xs)) => some (.ow true xs)
    | some (some (.ob _ o)) => some (.ob true o)
    | _ => none
  | .f i C FS n => match δ[i]? with
    | some (some (.ob _ (.ins C' FS' fs))) => if C' = C ∧ FS' = FS then (match fs[n]? with
      | some (.l xs) => some (.ow true xs)
      | _ => none) else none
    | _ => none
def Pc.put (δ : DSt) : Pc → Sl → DSt
  | .s i, .ow _ xs => match δ[i]? with
    | some (some (.ow p _)) => δ.set i (some (.ow p xs))
    | _ => δ
  | .s i, .ob _ o => match δ[i]? with
    | some (some (.ob p _)) => δ.set i (some (.ob p o))
    | _ => δ
  | .f i _ _ n, .ow _ xs => match δ[i]? with
    | some (some (.ob p (.ins C FS fs))) => δ.set i (some (.ob p (.ins C FS (fs.set n (.l xs)))))
    | _ => δ
  | _, _ => δ
inductive Ag where
  | d (d : PyData)
  | p (p : Pc)
def slots (δ : DSt) : List Ag → Option (List Sl)
  | [] => some []
  | .d d :: as => (slots δ as).map (.sh d :: ·)
  | .p p :: as => match p.get δ with
    | some s => (slots δ as).map (s :: ·)
    | none => none
/-- the owned arguments stay what they are -/
def KeepO : List Sl → List Sl → Prop
  | [], [] => True
  | .ow _ _ :: as, .ow true _ :: bs => KeepO as bs
  | .ob _ _ :: as, .ob true _ :: bs => KeepO as bs
  | .sh d :: as, .sh e :: bs => d = e ∧ KeepO as bs
  | _, _ => False
theorem KeepO.len : ∀ {as bs : List Sl}, KeepO as bs → bs.length = as.length
  | [], [], _ => rfl
  | [], _ :: _, h => h.elim
  | .ow _ _ :: as, .ow true _ :: bs, h => by rw [List.length_cons, List.length_cons, KeepO.len (as := as) (bs := bs) h]
  | .ob _ _ :: as, .ob true _ :: bs, h => by rw [List.length_cons, List.length_cons, KeepO.len (as := as) (bs := bs) h]
  | .sh d :: as, .sh e :: bs, h => by rw [List.length_cons, List.length_cons, KeepO.len h.2]
  | .ow _ _ :: _, [], h => h.elim
  | .ob _ _ :: _, [], h => h.elim
  | .sh _ :: _, [], h => h.elim
  | .ow _ _ :: _, .ow false _ :: _, h => h.elim
  | .ow _ _ :: _, .ob _ _ :: _, h => h.elim
  | .ow _ _ :: _, .sh _ :: _, h => h.elim
  | .ow _ _ :: _, .xn _ :: _, h => h.elim
  | .ob _ _ :: _, .ob false _ :: _, h => h.elim
  | .ob _ _ :: _, .ow _ _ :: _, h => h.elim
  | .ob _ _ :: _, .sh _ :: _, h => h.elim
  | .ob _ _ :: _, .xn _ :: _, h => h.elim
  | .sh _ :: _, .ow _ _ :: _, h => h.elim
  | .sh _ :: _, .ob _ _ :: _, h => h.elim
  | .sh _ :: _, .xn _ :: _, h => h.elim
  | .xn _ :: _, [], h => h.elim
  | .xn _ :: _, _ :: _, h => by cases ‹Sl› <;> exact h.elim
/-- of one kind -/
def SameK : Sl → Sl → Prop
  | .ow _ _, .ow true _ => True
  | .ob _ _, .ob true _ => True
  | .sh d, .sh e => d = e
  | _, _ => False
theorem KeepO.at : ∀ {as bs : List Sl}, KeepO as bs → ∀ {k : Nat} {a : Sl}, as[k]? = some a → ∃ b, bs[k]? = some b ∧ SameK a b
  | [], [], _, k, a, e => by simp at e
  | [], _ :: _, h, _, _, _ => h.elim
  | x :: as, [], h, _, _, _ => by cases x <;> exact h.elim
  | x :: as, y :: bs, h, k, a, e => by
    have hh : SameK x y ∧ KeepO as bs := by
      cases x with
      | sh d => cases y with
        | sh d' => exact h
        | _ => exact h.elim
      | ow p xs => cases y with
        | ow q ys => cases q with
          | true => exact ⟨trivial, h⟩
          | false => exact h.elim
        | _ => exact h.elim
      | ob p o => cases y with
        | ob q o' => cases q with
          | true => exact ⟨trivial, h⟩
          | false => exact h.elim
        | _ => exact h.elim
      | xn C => cases y <;> exact h.elim
    cases k with
    | zero =>
      simp at e
      subst e
      exact ⟨y, rfl, hh.1⟩
    | succ k => simpa using KeepO.at hh.2 (k := k) (by simpa using e)
section
variable {K : Fg} {Hs H Hs' H' : Hp} {Z : Ent} {σ : L2.St} {δ : DSt}
/-- the value at a place -/
def PcV (K : Fg) (σ : L2.St) (H : Hp) : Pc → V → Prop
  | .s i, v => σ[i]? = some (some v)
  | .f i C FS n, v => ∃ a dx vs, σ[i]? = some (some (.ref a)) ∧ H a = some (.ins (He.ga K C) dx (FS.zip vs)) ∧ FS.length = vs.length ∧ vs[n]? = some v
/-- what the arguments are -/
inductive AgV (K : Fg) (Hs H : Hp) (σ : L2.St) : List V → List Ag → Prop
  | nil : AgV K Hs H σ [] []
  | d {v : V} {d : PyData} {vs : List V} {as : List Ag} : Dp K Hs v d → AgV K Hs H σ vs as → AgV K Hs H σ (v :: vs) (.d d :: as)
  | p {v : V} {p : Pc} {vs : List V} {as : List Ag} : PcV K σ H p v → AgV K Hs H σ vs as → AgV K Hs H σ (v :: vs) (.p p :: as)
structure ArgsOk (K : Fg) (Hs H : Hp) (σ : L2.St) (δ : DSt) (as : List Ag) (vs : List V) (αs : List Sl) : Prop where
  l1 : vs.length = as.length
  l2 : αs.length = as.length
  d : ∀ (k : Nat) (d : PyData), as[k]? = some (.d d) → αs[k]? = some (.sh d) ∧ ∃ v, vs[k]? = some v ∧ Dp K Hs v d
  p : ∀ (k : Nat) (p : Pc), as[k]? = some (.p p) → ∃ s v, αs[k]? = some s ∧ vs[k]? = some v ∧ p.get δ = some s ∧ PcV K σ H p v
  nd : ∀ (k l : Nat) (p q : Pc), as[k]? = some (.p p) → as[l]? = some (.p q) → p.ix = q.ix → k = l
/-- the footprint of an argument -/
def fpA (f : Nat → List Addr) (as : List Ag) (vs : List V) (k : Nat) : List Addr := match as[k]?, vs[k]? with
  | some (.p (.s i)), _ => f i
  | some (.p (.f _ _ _ _)), some (.ref a) => [a]
  | _, _ => []
theorem Rl.pcAt {f : Nat → List Addr} (R : Rl K Z Hs H σ δ) (F : Fps K Z Hs H σ δ f) {as : List Ag} {vs : List V} {k : Nat} {p : Pc} {s : Sl} {v : V} (ek : as[k]? = some (.p p)) (ev : vs[k]? = some v) (hg : p.get δ = some s) (hv : PcV K σ H p v) :
    At K Hs H v s (fpA f as vs k) ∧ (∀ b ∈ fpA f as vs k, b ∈ f p.ix) ∧ s.prm = true ∧ s.own = true := by
  cases p with
  | s i =>
    have e : fpA f as vs k = f i := by simp only [fpA, ek]
    rw [e]
    simp only [Pc.get] at hg
    split at hg
    · rename_i q xs e0
      cases hg
      obtain ⟨u, h1, h2⟩ := F.at_ i _ e0 rfl
      rw [show σ[i]? = some (some v) from hv] at h1
      cases h1
      exact ⟨h2.as true, fun b m => m, rfl, rfl⟩
    · rename_i q o e0
      cases hg
      obtain ⟨u, h1, h2⟩ := F.at_ i _ e0 rfl
      rw [show σ[i]? = some (some v) from hv] at h1
      cases h1
      exact ⟨h2.as true, fun b m => m, rfl, rfl⟩
    · cases hg
  | f i C FS n =>
    simp only [Pc.get] at hg
    split at hg
    · rename_i q C' FS' fs e0
      split at hg
      · rename_i hc
        obtain ⟨rfl, rfl⟩ := hc
        split at hg
        · rename_i xs e1
          cases hg
          obtain ⟨a, dx, us, A, k1, k2, k3, k4, k5, k6, k7, k8⟩ := R.obj e0
          obtain ⟨a', dx', us', j1, j2, j3, j4⟩ := hv
          rw [k1] at j1
          cases j1
          rw [k2] at j2
          have e2 : FS'.zip us = FS'.zip us' := by injection (Option.some.inj j2)
          have e3 : us = us' := by
            have q := congrArg (List.map Prod.snd) e2
            rw [List.map_snd_zip (by omega), List.map_snd_zip (by omega)] at q
            exact q
          subst e3
          obtain ⟨b, ws, m1, m2, m3, m4⟩ := k4.getL e1
          rw [j4] at m1
          cases m1
          have e : fpA f as vs k = [b] := by simp only [fpA, ek, ev]
          rw [e]
          exact ⟨.ow m3 m4, fun c m => by rw [List.mem_singleton.mp m]; show b ∈ f i; rw [k6 f F]; exact List.mem_cons_of_mem _ (List.mem_cons_of_mem _ m2), rfl, rfl⟩
        · cases hg
      · cases hg
    · cases hg
theorem fpA_p {f : Nat → List Addr} {as : List Ag} {vs : List V} {k : Nat} {b : Addr} (m : b ∈ fpA f as vs k) : ∃ p, as[k]? = some (.p p) := by
  unfold fpA at m
  split at m
  · rename_i i e; exact ⟨_, e⟩
  · rename_i a e1 e2; exact ⟨_, e1⟩
  · exact nomatch m
open Classical in
/-- to which argument an address belongs -/
noncomputable def blkG (f : Nat → List Addr) (as : List Ag) (vs : List V) : Addr → Nat := fun a => if h : ∃ k, a ∈ fpA f as vs k then h.choose else 0
section
variable {as : List Ag} {vs : List V} {αs : List Sl} {f : Nat → List Addr}
theorem ArgsOk.uniq (ao : ArgsOk K Hs H σ δ as vs αs) (R : Rl K Z Hs H σ δ) (F : Fps K Z Hs H σ δ f) {k l : Nat} {b : Addr} (h1 : b ∈ fpA f as vs k) (h2 : b ∈ fpA f as vs l) : k = l := by
  obtain ⟨p, ep⟩ := fpA_p h1
  obtain ⟨q, eq⟩ := fpA_p h2
  obtain ⟨s, v, a1, a2, a3, a4⟩ := ao.p k p ep
  obtain ⟨s', v', b1, b2, b3, b4⟩ := ao.p l q eq
  have m1 := (R.pcAt F ep a2 a3 a4).2.1 b h1
  have m2 := (R.pcAt F eq b2 b3 b4).2.1 b h2
  by_cases e : p.ix = q.ix
  · exact ao.nd k l p q ep eq e
  · exact absurd m2 (F.dis _ _ b e m1)
theorem ArgsOk.blk (ao : ArgsOk K Hs H σ δ as vs αs) (R : Rl K Z Hs H σ δ) (F : Fps K Z Hs H σ δ f) {k : Nat} {b : Addr} (h1 : b ∈ fpA f as vs k) : blkG f as vs b = k := by
  have h : ∃ k, b ∈ fpA f as vs k := ⟨k, h1⟩
  unfold blkG
  rw [dif_pos h]
  exact ao.uniq R F h.choose_spec h1
end
end
end DL

/-! DZc: behind a call with owned arguments; promises of that kind. -/
namespace DL
open PySem PySem.Spec L2 PyProof.Rows
section
variable {K : Fg} {Hs H Hs' H' : Hp} {Z : Ent} {σ : L2.St} {δ : DSt}
variable {as : List Ag} {vs : List V} {αs βs : List Sl} {f : Nat → List Addr}
open Classical in
end
/-! ### promises -/
abbrev FG := List Sl → (Res → List Sl → Prop) → (Xd → List Sl → Prop) → Prop
class GFMono (f : FG) : Prop where
  m : ∀ (αs : List Sl) (Q Q' : Res → List Sl → Prop) (W W' : Xd → List Sl → Prop), (∀ r βs, Q r βs → Q' r βs) → (∀ x βs, W x βs → W' x βs) → f αs Q W → f αs Q' W'
end DL

/-! DZd: a def with owned arguments keeps its promise. -/
namespace DL
open PySem PySem.Spec L2 PyProof.Rows
def outG : List Sl → DSt → Option (List Sl)
  | [], _ => some []
  | .sh d :: as, _ :: δ => (outG as δ).map (.sh d :: ·)
  | .ow _ _ :: as, some (.ow true xs) :: δ => (outG as δ).map (.ow true xs :: ·)
  | .ob _ _ :: as, some (.ob true o) :: δ => (outG as δ).map (.ob true o :: ·)
  | _, _ => none
theorem outG_keep : ∀ {αs βs : List Sl} {δ : DSt}, outG αs δ = some βs → KeepO αs βs ∧ ∀ (k : Nat) (b : Sl), βs[k]? = some b → (∃ d, b = .sh d ∧ αs[k]? = some (.sh d)) ∨ (b.own = true ∧ b.prm = true ∧ δ[k]? = some (some b))
  | [], βs, δ, h => by
    unfold outG at h
    cases h
    exact ⟨trivial, fun k b e => by simp at e⟩
  | a :: as, βs, [], h => by cases a <;> simp [outG] at h
  | .sh d :: as, βs, o :: δ, h => by
    simp only [outG, Option.map_eq_some_iff] at h
    obtain ⟨r, h1, rfl⟩ := h
    obtain ⟨k1, k2⟩ := outG_keep h1
    refine ⟨⟨rfl, k1⟩, fun k b e => ?_⟩
    cases k with
    | zero => simp at e; subst e; exact .inl ⟨d, rfl, rfl⟩
    | succ k => simpa using k2 k b (by simpa using e)
  | .ow p xs :: as, βs, o :: δ, h => by
    unfold outG at h
    split at h
    · rename_i h0; cases h0
    · rename_i h0 _; cases h0
    · rename_i p' xs' as' q ys δ' h0 h0'
      cases h0
      cases h0'
      simp only [Option.map_eq_some_iff] at h
      obtain ⟨r, h1, rfl⟩ := h
      obtain ⟨k1, k2⟩ := outG_keep h1
      refine ⟨k1, fun k b e => ?_⟩
      cases k with
      | zero => simp at e; subst e; exact .inr ⟨rfl, rfl, rfl⟩
      | succ k => simpa using k2 k b (by simpa using e)
    · rename_i h0 _; cases h0
    · cases h
  | .ob p xs :: as, βs, o :: δ, h => by
    unfold outG at h
    split at h
    · rename_i h0; cases h0
    · rename_i h0 _; cases h0
    · rename_i h0 _; cases h0
    · rename_i p' xs' as' q ys δ' h0 h0'
      cases h0
      cases h0'
      simp only [Option.map_eq_some_iff] at h
      obtain ⟨r, h1, rfl⟩ := h
      obtain ⟨k1, k2⟩ := outG_keep h1
      refine ⟨k1, fun k b e => ?_⟩
      cases k with
      | zero => simp at e; subst e; exact .inr ⟨rfl, rfl, rfl⟩
      | succ k => simpa using k2 k b (by simpa using e)
    · cases h
  | .xn C :: as, βs, o :: δ, h => by simp [outG] at h
section
variable {K : Fg} {Hs H Hs' H' : Hp} {Z : Ent} {σ : L2.St} {δ : DSt}
theorem pad_get {δ : DSt} {n i : Nat} {s : Sl} (h : (δ ++ List.replicate n none)[i]? = some (some s)) : δ[i]? = some (some s) := by
  rcases Nat.lt_or_ge i δ.length with z | z
  · rw [List.getElem?_append_left z] at h
    exact h
  · rw [List.getElem?_append_right z, List.getElem?_replicate] at h
    split at h <;> cases h
theorem Rl.pad {τ : L2.St} (R : Rl K Z Hs H σ δ) : Rl K Z Hs H (σ ++ τ) (δ ++ List.replicate τ.length none) := by
  have up : ∀ {i : Nat} {s : Sl}, δ[i]? = some (some s) → (σ ++ τ)[i]? = σ[i]? := fun {i s} e => by rw [List.getElem?_append_left (by rw [R.len]; exact get_lt e)]
  refine ⟨by rw [List.length_append, List.length_append, List.length_replicate, R.len], R.sub, R.ext, R.fr, R.new, R.hid, fun i d e => ?_, ?_, R.grd, fun i s e p => ?_, fun i C e => ?_⟩
  · obtain ⟨v, h1, h2⟩ := R.shr i d (pad_get e)
    exact ⟨v, by rw [up (pad_get e)]; exact h1, h2⟩
  · obtain ⟨f, F⟩ := R.fps
    refine ⟨f, ⟨fun i s e o => ?_, fun i h => F.emp i fun s e => h s ?_, F.hs, F.old, fun i s a e => F.mine i s a (pad_get e), F.dis, F.g⟩⟩
    · obtain ⟨v, h1, h2⟩ := F.at_ i s (pad_get e) o
      exact ⟨v, by rw [up (pad_get e)]; exact h1, h2⟩
    · rw [List.getElem?_append_left (get_lt e)]
      exact e
  · rw [up (pad_get e)]
    exact R.prm i s (pad_get e) p
  · obtain ⟨a, h1, h2⟩ := R.exn i C (pad_get e)
    exact ⟨a, by rw [up (pad_get e)]; exact h1, h2⟩
theorem mapsome {α : Type} {l : List α} {k : Nat} {x : α} : (l.map some)[k]? = some (some x) ↔ l[k]? = some x := by
  rw [List.getElem?_map]
  cases l[k]? <;> simp
/-- what the caller sees of a body's end -/
theorem Rl.out {vs : List V} {αs βs : List Sl} (R : Rl K Z Hs' H' σ δ) (R0 : Rl K Z Hs H (vs.map some) (αs.map some)) (h0 : Z.σ0 = vs.map some) (sm : Same Hs Hs') (ho : outG αs δ = some βs) :
    Rl K Z Hs' H' (vs.map some) (βs.map some) ∧ ∀ {u : V} {s : Sl} {A : List Addr}, FrA K Z Hs' H' σ δ u s A → FrA K Z Hs' H' (vs.map some) (βs.map some) u s A := by
  obtain ⟨hk, hb⟩ := outG_keep ho
  obtain ⟨f, F⟩ := R.fps
  have own : ∀ {k : Nat} {b : Sl}, βs[k]? = some b → b.own = true → δ[k]? = some (some b) ∧ σ[k]? = (vs.map some)[k]? := fun {k b} e o => by
    rcases hb k b e with ⟨d, rfl, _⟩ | ⟨_, p, e'⟩
    · cases o
    · exact ⟨e', by rw [R.prm k b e' p, h0]⟩
  let f' : Nat → List Addr := fun k => match βs[k]? with
    | some b => if b.own = true then f k else []
    | none => []
  have f1 : ∀ {k : Nat} {a : Addr}, a ∈ f' k → a ∈ f k ∧ ∃ b, βs[k]? = some b ∧ b.own = true := fun {k a} m => by
    have m : a ∈ (match βs[k]? with
      | some b => if b.own = true then f k else []
      | none => []) := m
    split at m
    · rename_i b e
      split at m
      · rename_i o
        exact ⟨m, b, e, o⟩
      · exact nomatch m
    · exact nomatch m
  have f2 : ∀ {k : Nat} {b : Sl}, βs[k]? = some b → b.own = true → f' k = f k := fun {k b} e o => by
    show (match βs[k]? with
      | some b => if b.own = true then f k else []
      | none => []) = f k
    rw [e]
    exact if_pos o
  have FF : Fps K Z Hs' H' (vs.map some) (βs.map some) f' := by
    refine ⟨fun k b e o => ?_, fun k h => ?_, fun k a m => F.hs k a (f1 m).1, fun k a m => F.old k a (f1 m).1, fun k b a e p m => ?_, fun k l a n m m' => F.dis k l a n (f1 m).1 (f1 m').1, fun k a o m => F.g k a o (f1 m).1⟩
    · have e := mapsome.mp e
      obtain ⟨e1, e2⟩ := own e o
      obtain ⟨v, h1, h2⟩ := F.at_ k b e1 o
      exact ⟨v, by rw [← e2]; exact h1, by rw [f2 e o]; exact h2⟩
    · cases q : f' k with
      | nil => rfl
      | cons a r =>
        obtain ⟨_, b, e, o⟩ := f1 (k := k) (a := a) (by rw [q]; exact List.mem_cons_self ..)
        rw [h b (mapsome.mpr e)] at o
        cases o
    · obtain ⟨_, b', e', o'⟩ := f1 m
      have e := mapsome.mp e
      rw [e] at e'
      cases e'
      exact F.mine k b a (own e o').1 p (f1 m).1
  refine ⟨⟨by rw [List.length_map, List.length_map, hk.len, ← List.length_map (f := some) (as := αs), ← R0.len, List.length_map], R.sub, R.ext, R.fr, R.new, R.hid, fun k d e => ?_, ⟨f', FF⟩, R.grd, fun k b e p => by rw [h0], fun k C e => ?_⟩, fun {u s A} c => ⟨c.at_, c.hs, c.mine, fun g G k a m m' => ?_, c.g⟩⟩
  · have e := mapsome.mp e
    rcases hb k _ e with ⟨d', e1, e2⟩ | ⟨o, _⟩
    · cases e1
      obtain ⟨v, h1, h2⟩ := R0.shr k d (mapsome.mpr e2)
      exact ⟨v, h1, h2.up sm⟩
    · cases o
  · have e := mapsome.mp e
    rcases hb k _ e with ⟨d', e1, e2⟩ | ⟨o, _⟩
    · cases e1
    · cases o
  · rw [G.same FF k] at m'
    exact c.dis f F k a m (f1 m').1
end
section
variable {P : Program} {w : World} {K : Fg} {mg : Str → Option Value} {base : Heap} {x qual : Str} {params : Arguments} {body : List Stmt} {scope : Scope} {dvs : List V} {kws : List (Str × V)} {f : Addr} {fd : FuncData} {N ps : List Str} {k : Nat}
end
end DL

/-! DZe: a slot more; arguments; calls with owned arguments; objects made. -/
namespace DL
open PySem PySem.Spec L2 PyProof.Rows
section
variable {K : Fg} {Hs H Hs' H' : Hp} {Z : Ent} {σ : L2.St} {δ : DSt}
theorem Rl.cut {τ : L2.St} {n : Nat} (R : Rl K Z Hs H (σ ++ τ) (δ ++ List.replicate n none)) (hl : σ.length = δ.length) : Rl K Z Hs H σ δ ∧ ∀ {v : V} {s : Sl} {A : List Addr}, FrA K Z Hs H (σ ++ τ) (δ ++ List.replicate n none) v s A → FrA K Z Hs H σ δ v s A := by
  have up : ∀ {i : Nat} {s : Sl}, δ[i]? = some (some s) → (δ ++ List.replicate n none)[i]? = some (some s) ∧ (σ ++ τ)[i]? = σ[i]? := fun {i s} e => ⟨by rw [List.getElem?_append_left (get_lt e)]; exact e, by rw [List.getElem?_append_left (by rw [hl]; exact get_lt e)]⟩
  obtain ⟨f, F⟩ := R.fps
  have FF : Fps K Z Hs H σ δ f := by
    refine ⟨fun i s e o => ?_, fun i h => F.emp i fun s e => h s (pad_get e), F.hs, F.old, fun i s a e => F.mine i s a (up e).1, F.dis, F.g⟩
    obtain ⟨v, h1, h2⟩ := F.at_ i s (up e).1 o
    exact ⟨v, by rw [← (up e).2]; exact h1, h2⟩
  refine ⟨⟨hl, R.sub, R.ext, R.fr, R.new, R.hid, fun i d e => ?_, ⟨f, FF⟩, R.grd, fun i s e p => ?_, fun i C e => ?_⟩, fun {v s A} c => ⟨c.at_, c.hs, c.mine, fun g G j a m m' => ?_, c.g⟩⟩
  · obtain ⟨v, h1, h2⟩ := R.shr i d (up e).1
    exact ⟨v, by rw [← (up e).2]; exact h1, h2⟩
  · rw [← (up e).2]
    exact R.prm i s (up e).1 p
  · obtain ⟨a, h1, h2⟩ := R.exn i C (up e).1
    exact ⟨a, by rw [← (up e).2]; exact h1, h2⟩
  · rw [G.same FF j] at m'
    exact c.dis f F j a m m'
/-- a slot more, for a new thing -/
theorem Rl.push (R : Rl K Z Hs H σ δ) {v : V} {s : Sl} {A : List Addr} (c : FrA K Z Hs H σ δ v s A) (hp : s.prm = false) : Rl K Z Hs H (σ ++ [some v]) (δ ++ [some s]) := by
  have R1 : Rl K Z Hs H (σ ++ [none]) (δ ++ [none]) := R.pad (τ := [none])
  have c1 : FrA K Z Hs H (σ ++ [none]) (δ ++ [none]) v s A := by
    refine ⟨c.at_, c.hs, c.mine, fun g G j a m m' => ?_, c.g⟩
    obtain ⟨f, F⟩ := R.fps
    have G' : Fps K Z Hs H σ δ g := by
      have up : ∀ {i : Nat} {s : Sl}, δ[i]? = some (some s) → (δ ++ [none])[i]? = some (some s) ∧ (σ ++ [none])[i]? = σ[i]? := fun {i s} e => ⟨by rw [List.getElem?_append_left (get_lt e)]; exact e, by rw [List.getElem?_append_left (by rw [R.len]; exact get_lt e)]⟩
      refine ⟨fun i s e o => ?_, fun i h => G.emp i fun s e => h s (pad_get (n := 1) e), G.hs, G.old, fun i s a e => G.mine i s a (up e).1, G.dis, G.g⟩
      obtain ⟨v, h1, h2⟩ := G.at_ i s (up e).1 o
      exact ⟨v, by rw [← (up e).2]; exact h1, h2⟩
    exact c.dis g G' j a m m'
  have R2 := R1.setA (i := σ.length) c1 hp
  rw [List.set_append_right _ _ (Nat.le_refl _), Nat.sub_self, show σ.length = δ.length from R.len, List.set_append_right _ _ (Nat.le_refl _), Nat.sub_self] at R2
  exact R2
/-- the last slot let go -/
theorem Rl.pop {v : V} {s : Sl} (R : Rl K Z Hs H (σ ++ [some v]) (δ ++ [some s])) (hl : σ.length = δ.length) (ho : s.own = true) (hp : s.prm = false) : Rl K Z Hs H σ δ ∧ ∃ A, FrA K Z Hs H σ δ v s A := by
  obtain ⟨v', A, h1, R1, c⟩ := R.moveA (i := δ.length) (s := s) (by rw [List.getElem?_append_right (Nat.le_refl _), Nat.sub_self]; rfl) ho hp
  have e : (δ ++ [some s]).set δ.length none = δ ++ List.replicate 1 none := by
    rw [List.set_append_right _ _ (Nat.le_refl _), Nat.sub_self]
    rfl
  rw [e] at R1 c
  rw [← hl, List.getElem?_append_right (Nat.le_refl _), Nat.sub_self] at h1
  cases h1
  obtain ⟨R2, h⟩ := R1.cut hl
  exact ⟨R2, A, h c⟩
/-- a new object, without fields -/
theorem Rl.fresh (R : Rl K Z Hs H σ δ) {C : Str} (ic : InsOk K C) {x dx : Addr} (hx : H x = none) (hdx : H dx = none) (ne : dx ≠ x) :
    Rl K Z Hs (upd (upd H dx (.own x)) x (.ins (He.ga K C) dx [])) σ δ ∧ FrA K Z Hs (upd (upd H dx (.own x)) x (.ins (He.ga K C) dx [])) σ δ (.ref x) (.ob false (.ins C [] [])) [x, dx] := by
  have hx2 : upd H dx (.own x) x = none := by rw [upd_ne ne.symm]; exact hx
  have R2 := (R.allocO (o := .own x) hdx).allocO (o := .ins (He.ga K C) dx []) hx2
  refine ⟨R2, FrA.fresh R R2 (.ins (vs := []) (A := []) ic rfl upd_same (by rw [upd_ne ne, upd_same]) .nil (by simp [ne.symm])) (fun a m => ?_) (fun a m => ?_) fun f F => F.back R fun b o e => ?_⟩
  · simp only [List.mem_cons, List.not_mem_nil, or_false] at m
    rcases m with rfl | rfl
    · exact hx
    · exact hdx
  · simp only [List.mem_cons, List.not_mem_nil, or_false] at m
    rcases m with rfl | rfl
    · exact R.hsn hx
    · exact R.hsn hdx
  · rw [upd_ne (ne_of_none e hx), upd_ne (ne_of_none e hdx)]
    exact e
theorem AgV.app {vs zs : List V} {as : List Ag} {ds : List PyData} (h : AgV K Hs H σ vs as) (h' : DpAll K Hs zs ds) : AgV K Hs H σ (vs ++ zs) (as ++ ds.map .d) := by
  induction h with
  | nil =>
    show AgV K Hs H σ zs (ds.map .d)
    clear as vs
    induction ds generalizing zs with
    | nil => cases h'; exact .nil
    | cons d ds ih => cases h' with
      | cons a b => exact .d a (ih b)
  | d a _ ih => exact .d a ih
  | p a _ ih => exact .p a ih
theorem AgV.up {vs : List V} {as : List Ag} (h : AgV K Hs H σ vs as) (e : Same Hs Hs') (hp : ∀ p ∈ as.filterMap (fun a => match a with | .p p => some p | _ => none), ∀ v, PcV K σ H p v → PcV K σ H' p v) : AgV K Hs' H' σ vs as := by
  induction h with
  | nil => exact .nil
  | d a _ ih => exact .d (a.up e) (ih hp)
  | p a _ ih => exact .p (hp _ (List.mem_cons_self ..) _ a) (ih fun p m => hp p (List.mem_cons_of_mem _ m))
end
/-! ### arguments -/
abbrev DAg := DSt → (List Ag → DSt → Prop) → Prop
class AgMono (t : DAg) : Prop where
  m : ∀ (δ : DSt) (Q Q' : List Ag → DSt → Prop), (∀ d δ', Q d δ' → Q' d δ') → t δ Q → t δ Q'
section
variable {X : Cx} {Z : Ent} {pos : Pos}
end
end DL

/-! DZf: calls with owned arguments, methods, objects made. -/
namespace DL
open PySem PySem.Spec L2 PyProof.Rows
abbrev DR := DSt → (Res → DSt → Prop) → Prop
abbrev DBo := DSt → (Ob → DSt → Prop) → Prop
def lR (K : Fg) (Z : Ent) (t : DR) : TE := fun σ H Q => ∃ Hs δ, Rl K Z Hs H σ δ ∧ t δ fun r δ' => ∀ v Hs' H', Same Hs Hs' → Rl K Z Hs' H' σ δ' → ResOk K Z Hs' H' σ δ' v r → Q v H'
def lOb (K : Fg) (Z : Ent) (t : DBo) : TE := fun σ H Q => ∃ Hs δ, Rl K Z Hs H σ δ ∧ t δ fun o δ' => ∀ v Hs' H' A, Same Hs Hs' → Rl K Z Hs' H' σ δ' → FrA K Z Hs' H' σ δ' v (.ob false o) A → Q v H'
structure Dr (X : Cx) (Z : Ent) (e : Expr) (t : DR) : Prop where
  run : PE X e (lR X.K Z t)
  mono : ∀ (δ : DSt) (Q Q' : Res → DSt → Prop), (∀ d δ', Q d δ' → Q' d δ') → t δ Q → t δ Q'
structure Dob (X : Cx) (Z : Ent) (e : Expr) (t : DBo) : Prop where
  run : PE X e (lOb X.K Z t)
  mono : ∀ (δ : DSt) (Q Q' : Ob → DSt → Prop), (∀ d δ', Q d δ' → Q' d δ') → t δ Q → t δ Q'
class RMono (t : DR) : Prop where
  m : ∀ (δ : DSt) (Q Q' : Res → DSt → Prop), (∀ d δ', Q d δ' → Q' d δ') → t δ Q → t δ Q'
class OBMono (t : DBo) : Prop where
  m : ∀ (δ : DSt) (Q Q' : Ob → DSt → Prop), (∀ d δ', Q d δ' → Q' d δ') → t δ Q → t δ Q'
/-! ### what is done with what is told -/
def dAsD (t : DR) : DE := fun δ Q => t δ fun r δ' => Q (asD r) δ'
def resO (Q : List PyData → Prop) : Res → Prop
  | .o xs => Q xs
  | _ => False
def resB (Q : Ob → Prop) : Res → Prop
  | .b o => Q o
  | _ => False
theorem resO_o {Q : List PyData → Prop} {xs : List PyData} : resO Q (.o xs) = Q xs := rfl
theorem resB_b {Q : Ob → Prop} {o : Ob} : resB Q (.b o) = Q o := rfl
def dAsO (t : DR) : DL' := fun δ Q => t δ fun r δ' => resO (fun xs => Q xs δ') r
def dAsB (t : DR) : DBo := fun δ Q => t δ fun r δ' => resB (fun o => Q o δ') r
def dShB (t : DBo) : DE := fun δ Q => t δ fun o δ' => Q (frzD o) δ'
instance {t : DR} [RMono t] : EMono (dAsD t) := ⟨fun δ Q Q' hq q => RMono.m (t := t) _ _ _ (fun r δ' z => hq _ _ z) q⟩
instance {t : DR} [RMono t] : LMono (dAsO t) := ⟨fun δ Q Q' hq q => RMono.m (t := t) _ _ _ (fun r δ' z => by
  cases r with
  | o xs => exact hq _ _ z
  | d d => exact z
  | b o => exact z) q⟩
instance {t : DR} [RMono t] : OBMono (dAsB t) := ⟨fun δ Q Q' hq q => RMono.m (t := t) _ _ _ (fun r δ' z => by
  cases r with
  | b o => exact hq _ _ z
  | d d => exact z
  | o xs => exact z) q⟩
instance {t : DBo} [OBMono t] : EMono (dShB t) := ⟨fun δ Q Q' hq q => OBMono.m (t := t) _ _ _ (fun r δ' z => hq _ _ z) q⟩
section
variable {X : Cx} {Z : Ent} {pos : Pos} {ex : Xd → DSt → Prop}
theorem Dr.de {e : Expr} {t : DR} (h : Dr X Z e t) : De X Z e (dAsD t) := by
  refine ⟨pe_imp h.run fun σ H Q ⟨Hs, δ, R, q⟩ => ⟨Hs, δ, R, h.mono _ _ _ (fun r δ' q v Hs' H' s R' c => ?_) q⟩, fun δ Q Q' hq q => h.mono _ _ _ (fun r δ' z => hq _ _ z) q⟩
  cases r with
  | d d => exact q v Hs' H' s R' c
  | o xs =>
    obtain ⟨Hs2, s2, R2, dp⟩ := FrO.share R' c
    exact q v Hs2 H' (s.trans s2) R2 dp
  | b o =>
    obtain ⟨A, c⟩ := c
    obtain ⟨Hs2, s2, R2, dp⟩ := FrA.share R' c
    exact q v Hs2 H' (s.trans s2) R2 dp
theorem Dr.do {e : Expr} {t : DR} (h : Dr X Z e t) : Do X Z e (dAsO t) := by
  refine ⟨pe_imp h.run fun σ H Q ⟨Hs, δ, R, q⟩ => ⟨Hs, δ, R, h.mono _ _ _ (fun r δ' q v Hs' H' s R' c => ?_) q⟩, fun δ Q Q' hq q => h.mono _ _ _ (fun r δ' z => ?_) q⟩
  · cases r with
    | o xs => exact q v Hs' H' s R' c
    | d d => exact q.elim
    | b o => exact q.elim
  · cases r with
    | o xs => exact hq _ _ z
    | d d => exact z
    | b o => exact z
theorem Dr.ob {e : Expr} {t : DR} (h : Dr X Z e t) : Dob X Z e (dAsB t) := by
  refine ⟨pe_imp h.run fun σ H Q ⟨Hs, δ, R, q⟩ => ⟨Hs, δ, R, h.mono _ _ _ (fun r δ' q v Hs' H' s R' c => ?_) q⟩, fun δ Q Q' hq q => h.mono _ _ _ (fun r δ' z => ?_) q⟩
  · cases r with
    | b o => exact c.elim fun A c => q v Hs' H' A s R' c
    | d d => exact q.elim
    | o xs => exact q.elim
  · cases r with
    | b o => exact hq _ _ z
    | d d => exact z
    | o xs => exact z
theorem Dob.sh {e : Expr} {t : DBo} (h : Dob X Z e t) : De X Z e (dShB t) := by
  refine ⟨pe_imp h.run fun σ H Q ⟨Hs, δ, R, q⟩ => ⟨Hs, δ, R, h.mono _ _ _ (fun o δ' q v Hs' H' A s R' c => ?_) q⟩, fun δ Q Q' hq q => h.mono _ _ _ (fun r δ' z => hq _ _ z) q⟩
  obtain ⟨Hs2, s2, R2, dp⟩ := FrA.share R' c
  exact q v Hs2 H' (s.trans s2) R2 dp
/-! ### calls -/
section
variable {k : Nat} {g : Addr} {fd : FuncData} {ps : List Str} {f : FG} {x m : Str} {e o : Expr} {es : List Expr} {t : DAg} {p apos : Pos} {dvs : List V} {dus : List Value} {dd : List PyData}
/-! methods -/
theorem look_none {m : Str} : ∀ {FS : List Str} {vs : List V}, m ∉ FS → (FS.zip vs).lookup m = none
  | [], _, _ => rfl
  | _ :: _, [], _ => rfl
  | x :: xs, v :: vs, h => by
    have ne : (m == x) = false := by
      rw [beq_eq_false_iff_ne]
      exact fun e => h (by rw [e]; exact List.mem_cons_self ..)
    rw [List.zip_cons_cons, List.lookup, ne]
    exact look_none fun z => h (List.mem_cons_of_mem _ z)
end
end
end DL

/-! DZg: shared objects: fields and methods; fields of one's own objects. -/
namespace DL
open PySem PySem.Spec L2 PyProof.Rows
section
variable {K : Fg} {H : Hp}
end
section
variable {X : Cx} {Z : Ent} {pos : Pos} {ex : Xd → DSt → Prop}
/-! ### fields put -/
section
variable {i n : Nat} {C : Str} {FS FS1 : List Str} {t : DE} {tl : DL'}
variable {f x : Str} {e : Expr} {px pa : Pos}
end
end
end DL

/-! DZh: methods of shared objects; objects made; lists that are fields. -/
namespace DL
open PySem PySem.Spec L2 PyProof.Rows
section
variable {X : Cx} {Z : Ent} {pos : Pos} {ex : Xd → DSt → Prop}
section
variable {k : Nat} {g : Addr} {fd : FuncData} {ps : List Str} {f : FG} {x m : Str} {e o : Expr} {es : List Expr} {t : DAg} {to : DE} {p apos : Pos} {dvs : List V} {dus : List Value} {dd : List PyData}
/-! ### objects made -/
theorem AgV.len {K : Fg} {Hs H : Hp} {σ : L2.St} {vs : List V} {as : List Ag} (h : AgV K Hs H σ vs as) : vs.length = as.length := by
  induction h with
  | nil => rfl
  | d _ _ ih => simp [ih]
  | p _ _ ih => simp [ih]
/-- the places among arguments are slots -/
def slotsOnly : List Ag → Prop
  | [] => True
  | .p (.f _ _ _ _) :: _ => False
  | _ :: as => slotsOnly as
theorem AgV.stay {K : Fg} {Hs Hs' H H' : Hp} {σ τ : L2.St} {vs : List V} {as : List Ag} (h : AgV K Hs H σ vs as) (e : Same Hs Hs') (hh : slotsOnly as ∨ ∀ (b : Addr) (o : HO), H b = some o → H' b = some o) : AgV K Hs' H' (σ ++ τ) vs as := by
  have up : ∀ {i : Nat} {v : V}, σ[i]? = some (some v) → (σ ++ τ)[i]? = some (some v) := fun {i v} e => by rw [List.getElem?_append_left (get_lt e)]; exact e
  induction h with
  | nil => exact .nil
  | d a _ ih => exact .d (a.up e) (ih (hh.imp id id))
  | @p v p vs as a _ ih =>
    cases p with
    | s i => exact .p (p := .s i) (up a) (ih (hh.imp id id))
    | f i C FS n =>
      rcases hh with z | z
      · exact z.elim
      · obtain ⟨b, dx, us, k1, k2, k3, k4⟩ := a
        exact .p (p := .f i C FS n) ⟨b, dx, us, up k1, z _ _ k2, k3, k4⟩ (ih (.inr z))
end
end
end DL

/-! DZi: a class's body; reading rules for simp. -/
namespace DL
open PySem PySem.Spec L2 PyProof.Rows
/-! arguments evaluated -/
theorem slots_nil {δ : DSt} : slots δ [] = some [] := rfl
theorem slots_d {δ : DSt} {d : PyData} {as : List Ag} : slots δ (.d d :: as) = (slots δ as).map (.sh d :: ·) := rfl
theorem outG_nil {δ : DSt} : outG [] δ = some [] := rfl
theorem outG_sh {d : PyData} {as : List Sl} {o : Option Sl} {δ : DSt} : outG (.sh d :: as) (o :: δ) = (outG as δ).map (.sh d :: ·) := rfl
theorem outG_ow {p : Bool} {xs ys : List PyData} {as : List Sl} {δ : DSt} : outG (.ow p xs :: as) (some (.ow true ys) :: δ) = (outG as δ).map (.ow true ys :: ·) := rfl
theorem outG_ob {p : Bool} {o o' : Ob} {as : List Sl} {δ : DSt} : outG (.ob p o :: as) (some (.ob true o') :: δ) = (outG as δ).map (.ob true o' :: ·) := rfl
theorem nd_nil : ([] : List Nat).Nodup = True := eq_true List.nodup_nil
theorem nd_one {i : Nat} : [i].Nodup = True := eq_true (by simp)
theorem frzD_ins {C : Str} {FS : List Str} {fs : List Fv} : frzD (.ins C FS fs) = insD C FS (fs.map fvD) := rfl
end DL

/-! DPa: holders of joints' gears; promises of the papers' defs. -/
namespace DM
open PySem PySem.Spec L2 DL
/-! ### sums of the first ones -/
def psm (f : Nat → Int) : Nat → Int
  | 0 => 0
  | k + 1 => psm f k + f k
/-- the greatest gear at j that h lets be -/
def bnd (c r d : Nat → Int) (h j : Nat) : Int := if h ≤ j then c h + psm r j - psm r h else c h + psm d h - psm d j
/-! ### promises -/
/-! the sum of a cut -/
end DM

/-! DZj: the greatest and the least of a tuple of three ints. -/
namespace DL
open PySem PySem.Spec L2 PyProof.Rows
section
variable {X : Cx} {Z : Ent}
end
end DL

/-! DPb: what keeps the limits: plans and papers of any kind. -/
namespace DM
open PySem PySem.Spec L2 DL
abbrev G3 := Int × Int × Int
/-! ### things that are gears -/
def In9 (p : G3) : Prop := (0 ≤ p.1 ∧ p.1 ≤ 9) ∧ (0 ≤ p.2.1 ∧ p.2.1 ≤ 9) ∧ (0 ≤ p.2.2 ∧ p.2.2 ≤ 9)
/-! ### lists zipped -/
/-! ### plans -/
/-- a plan's gears at joints -/
def jg (ps : List G3) : Nat → Int
  | 0 => 0
  | k + 1 => (ps.getD k (0, 0, 0)).2.2
structure JoinP (c : Nat → Int) (ps : List G3) : Prop where
  join : ∀ (k : Nat) p q, ps[k]? = some p → ps[k + 1]? = some q → p.2.2 = q.1
  fst : ∀ (k : Nat) p, ps[k]? = some p → p.1 ≤ c k
  lst : ∀ (k : Nat) p, ps[k]? = some p → p.2.2 ≤ c (k + 1)
structure PlanP (l : Lim) (ts : List Et) (ps : List G3) : Prop where
  len : ps.length = ts.length
  gear : ∀ p ∈ ps, In9 p
  cap : ∀ (k : Nat) t p, ts[k]? = some t → ps[k]? = some p → max (max p.1 p.2.1) p.2.2 ≤ capOf l.pl t
  jn : JoinP (jcaps l.pl l.jt ts) ps
  fit : ∀ (k : Nat) t p, ts[k]? = some t → ps[k]? = some p → fitE l.up l.dn t.e p.1 p.2.2 p.2.1 = true
theorem fitE_in {l : Lim} {e : En} {a b t : Int} (hlim : LimOk l) (he : EnW e) (h : fitE l.up l.dn e a b t = true) : max a b ≤ t ∧ b ≤ a + chg l.up e ∧ a ≤ b + chg l.dn e := by
  have key : ∀ {r w : Rat} {x : Int}, 0 < w → (x : Rat) * w ≤ r → x ≤ (r / w).floor := fun {r w x} hw h => by
    rw [Rat.le_floor_iff]
    have e : r / w * w = r := by
      have : w ≠ 0 := by grind
      grind
    apply Classical.byContradiction
    intro z
    have := Rat.mul_pos (show 0 < (x : Rat) - r / w by grind) hw
    grind
  have arc : (decide (a = t) && decide (t = b)) = true → max a b ≤ t ∧ b ≤ a + 0 ∧ a ≤ b + 0 := fun h => by
    rw [Bool.and_eq_true] at h
    have h1 := of_decide_eq_true h.1
    have h2 := of_decide_eq_true h.2
    omega
  rcases e with ⟨p, q⟩ | ⟨⟨p, q⟩ | ⟨p, q, o, w⟩, r⟩
  · exact arc h
  · have h : (decide (a ≤ t) && decide (b ≤ t) && fitR r l.up l.dn a t b) = true := h
    rw [Bool.and_eq_true, Bool.and_eq_true] at h
    have h1 := of_decide_eq_true h.1.1
    have h2 := of_decide_eq_true h.1.2
    have h3 := of_decide_eq_true h.2
    have u := hlim.2.2.1.1
    have d := hlim.2.2.2.1
    have ra : 0 ≤ ((t - a : Int) : Rat) := by have := Rat.intCast_le_intCast.mpr (show 0 ≤ t - a by omega); exact this
    have rb : 0 ≤ ((t - b : Int) : Rat) := by have := Rat.intCast_le_intCast.mpr (show 0 ≤ t - b by omega); exact this
    have m1 := Rat.mul_nonneg ra (show 0 ≤ l.up by grind)
    have m2 := Rat.mul_nonneg rb (show 0 ≤ l.dn by grind)
    have k1 := key u (show ((t - a : Int) : Rat) * l.up ≤ r by grind)
    have k2 := key d (show ((t - b : Int) : Rat) * l.dn ≤ r by grind)
    refine ⟨by omega, ?_, ?_⟩
    · show b ≤ a + (r / l.up).floor
      omega
    · show a ≤ b + (r / l.dn).floor
      omega
  · exact arc h
theorem fitE_top {l : Lim} {e : En} {cap a b t A B : Int} (hlim : LimOk l) (h : fitE l.up l.dn e a b t = true) (ha : a ≤ A) (hb : b ≤ B) (hc : t ≤ cap) : t ≤ topE l.up l.dn e cap A B := by
  have ge := (climb_ge (p := fitE l.up l.dn e A B) (n := (cap - max A B).toNat) (t := max A B)).1
  rcases (show t ≤ max A B ∨ max A B ≤ t by omega) with z | z
  · exact Int.le_trans z ge
  rcases e with ⟨p, q⟩ | ⟨⟨p, q⟩ | ⟨p, q, o, w⟩, r⟩
  · have h : (decide (a = t) && decide (t = b)) = true := h
    rw [Bool.and_eq_true] at h
    have h1 := of_decide_eq_true h.1
    have : t ≤ max A B := by omega
    exact Int.le_trans this ge
  · have h : (decide (a ≤ t) && decide (b ≤ t) && fitR r l.up l.dn a t b) = true := h
    rw [Bool.and_eq_true, Bool.and_eq_true] at h
    have h3 := of_decide_eq_true h.2
    have u := hlim.2.2.1.1
    have d := hlim.2.2.2.1
    refine climb_top (fun x hx hf => ?_) t z (by omega) ?_
    · have hf : (decide (A ≤ x + 1) && decide (B ≤ x + 1) && fitR r l.up l.dn A (x + 1) B) = true := hf
      rw [Bool.and_eq_true] at hf
      show (decide (A ≤ x) && decide (B ≤ x) && fitR r l.up l.dn A x B) = true
      rw [decide_eq_true (show A ≤ x by omega), decide_eq_true (show B ≤ x by omega)]
      exact fitR_down u d hf.2
    · show (decide (A ≤ t) && decide (B ≤ t) && fitR r l.up l.dn A t B) = true
      rw [decide_eq_true (show A ≤ t by omega), decide_eq_true (show B ≤ t by omega)]
      refine decide_eq_true ?_
      have e1 : ((t - A : Int) : Rat) = ((t - a : Int) : Rat) - ((A - a : Int) : Rat) := by rw [← Rat.intCast_sub, show t - a - (A - a) = t - A by omega]
      have e2 : ((t - B : Int) : Rat) = ((t - b : Int) : Rat) - ((B - b : Int) : Rat) := by rw [← Rat.intCast_sub, show t - b - (B - b) = t - B by omega]
      have ra : 0 ≤ ((A - a : Int) : Rat) := by have := Rat.intCast_le_intCast.mpr (show 0 ≤ A - a by omega); exact this
      have rb : 0 ≤ ((B - b : Int) : Rat) := by have := Rat.intCast_le_intCast.mpr (show 0 ≤ B - b by omega); exact this
      have m1 := Rat.mul_nonneg ra (show 0 ≤ l.up by grind)
      have m2 := Rat.mul_nonneg rb (show 0 ≤ l.dn by grind)
      rw [e1, e2]
      grind
  · have h : (decide (a = t) && decide (t = b)) = true := h
    rw [Bool.and_eq_true] at h
    have h1 := of_decide_eq_true h.1
    have : t ≤ max A B := by omega
    exact Int.le_trans this ge
section
variable {l : Lim} {ts : List Et} {ps : List G3}
theorem PlanP.at (P : PlanP l ts ps) {k : Nat} (h : k < ts.length) : ∃ t p, ts[k]? = some t ∧ ps[k]? = some p := ⟨_, _, List.getElem?_eq_getElem h, List.getElem?_eq_getElem (by rw [P.len]; exact h)⟩
theorem jg_s {k : Nat} {p : G3} (e : ps[k]? = some p) : jg ps (k + 1) = p.2.2 := by
  show (ps.getD k (0, 0, 0)).2.2 = _
  rw [List.getD_eq_getElem?_getD, e]
  rfl
theorem PlanP.fst (P : PlanP l ts ps) {k : Nat} {p : G3} (e : ps[k]? = some p) : p.1 = jg ps k := by
  cases k with
  | zero =>
    have h1 : p.1 ≤ 0 := P.jn.fst 0 p e
    have h2 := (P.gear p (List.mem_of_getElem? e)).1.1
    show p.1 = 0
    omega
  | succ k =>
    have hk := get_lt e
    obtain ⟨q, eq⟩ : ∃ q, ps[k]? = some q := ⟨_, List.getElem?_eq_getElem (by omega)⟩
    rw [jg_s eq]
    exact (P.jn.join k q p eq e).symm
theorem PlanP.sol (P : PlanP l ts ps) (hlim : LimOk l) (ht : ∀ t ∈ ts, EtW t) : Sol ts.length (jcaps l.pl l.jt ts) (chgs l.up ts) (chgs l.dn ts) (jg ps) := by
  refine ⟨fun i hi => ?_, fun k hk => ?_, fun k hk => ?_⟩
  · cases i with
    | zero => exact Int.le_refl 0
    | succ k =>
      obtain ⟨t, p, e1, e2⟩ := P.at (k := k) (by omega)
      rw [jg_s e2]
      exact P.jn.lst k p e2
  · obtain ⟨t, p, e1, e2⟩ := P.at hk
    have f := fitE_in hlim (ht t (List.mem_of_getElem? e1)).1 (P.fit k t p e1 e2)
    rw [jg_s e2, ← P.fst e2, chgs, getD_of e1]
    exact f.2.1
  · obtain ⟨t, p, e1, e2⟩ := P.at hk
    have f := fitE_in hlim (ht t (List.mem_of_getElem? e1)).1 (P.fit k t p e1 e2)
    rw [jg_s e2, ← P.fst e2, chgs, getD_of e1]
    exact f.2.2
/-- nowhere greater than the quickest -/
theorem PlanP.le (P : PlanP l ts ps) (hlim : LimOk l) (ht : ∀ t ∈ ts, EtW t) {k : Nat} {p q : G3} (e : ps[k]? = some p) (e' : (planL l ts)[k]? = some q) : p.1 ≤ q.1 ∧ p.2.1 ≤ q.2.1 ∧ p.2.2 ≤ q.2.2 := by
  have hk : k < ts.length := by rw [← P.len]; exact get_lt e
  obtain ⟨t, et⟩ : ∃ t, ts[k]? = some t := ⟨_, List.getElem?_eq_getElem hk⟩
  rw [planL, planG_get et] at e'
  cases e'
  have hr : ∀ k, k < ts.length → 0 ≤ chgs l.up ts k := fun k _ => chgs_nn hlim.2.2.1.1 ht k
  have hd : ∀ k, k < ts.length → 0 ≤ chgs l.dn ts k := fun k _ => chgs_nn hlim.2.2.2.1 ht k
  have g := gr_grt (c := jcaps l.pl l.jt ts) hr hd
  have a := g.top _ (P.sol hlim ht) k (by omega)
  have b := g.top _ (P.sol hlim ht) (k + 1) (by omega)
  rw [← P.fst e] at a
  rw [jg_s e] at b
  have c := P.cap k t p et e
  exact ⟨a, fitE_top hlim (P.fit k t p et e) a b (by omega), b⟩
/-! ### papers -/
end
/-! holders -/
/-! ### promises -/
/-! ### lists of gears -/
/-! ### nowhere greater -/
/-! a plan that keeps all, some joints held lower -/
/-! a plan with one gear more: somewhere greater -/
end DM

/-! DVa: zip of two tuples. -/
namespace DL
open PySem PySem.Spec L2
section
variable {X : Cx} {Z : Ent} {pos : Pos} {tg : Expr}
end
/-! ### a, b = e1, e2, the first one a new list of one's own -/
section
variable {X : Cx} {Z : Ent} {pos : Pos}
end
end DL

/-! DVb: enumerate(zip(xs, ys)) -/
namespace DZ
open PySem Sem
section
variable {prog : Program} {w : World} {A : Around} {E : Value → Shared → Prop} {s : Shared}
/-! the enumerate around it -/
end
end DZ
namespace DZ
open PySem Sem
section
variable {prog : Program} {w : World} {A : Around} {E : Value → Shared → Prop} {s : Shared}
end
end DZ
namespace DL
open PySem PySem.Spec PyProof.Rows L2 DZ
section
variable {X : Cx} {Z : Ent} {pos : Pos}
end
end DL

/-! DVc: lists that are fields of one's own objects: seen, cut, lengthened; len of an object. -/
namespace DL
open PySem PySem.Spec L2
section
variable {K : Fg} {Z : Ent} {Hs Hs' H H' : Hp} {σ : L2.St} {δ : DSt}
end
/-! ### a list of one's own, seen -/
section
variable {X : Cx} {Z : Ent} {pos : Pos}
/-! len -/
/-! one item, by a written place -/
end
/-! reversed -/
section
variable {X : Cx} {Z : Ent} {pos : Pos} {tg : Expr}
end
/-! ### parts, and one item more: what is between may look at the object -/
section
variable {K : Fg} {Z : Ent} {Hs Hs' H H' : Hp} {σ : L2.St} {δ : DSt}
end
section
variable {X : Cx} {Z : Ent} {pos : Pos}
end
end DL

/-! DVd: len of an object of one's own. -/
namespace DL
open PySem PySem.Spec L2
section
variable {X : Cx} {Z : Ent} {pos : Pos}
variable {k : Nat} {g : Addr} {fd : FuncData} {ps : List Str} {dvs : List V} {dus : List Value}
end
end DL

/-! DPc: gears told with some steps known ahead. -/
namespace DM
open PySem PySem.Spec L2 DL
def cutF (n : Nat) (c : Nat → Int) : Nat → Int := fun i => if i < n then c i else 0
/-- the greatest gear at joint k from which it can stand behind n entries -/
def rchF (l : Lim) (ts : List Et) (n k : Nat) : Int := gbw (cutF n (jcaps l.pl l.jt ts)) (chgs l.dn ts) n k
def lastF (l : Lim) (ts : List Et) (n m : Nat) (g : Int) : Int := min (g + chgs l.up ts m) (rchF l ts n (m + 1))
section
variable {l : Lim} {ts : List Et} {n : Nat}
end
/-! ### the objects -/
/-! ### promises -/
/-! the law's -/
end DM

/-! DVe: extend of a list of one's own; a new list by `.. if .. else ..`. -/
namespace DL
open PySem PySem.Spec L2
section
variable {X : Cx} {Z : Ent} {pos : Pos}
end
end DL

/-! DVf: an object of one's own and others told at once: o, xs = C(..), [] and o, i, j = C(..), 0, 0. -/
namespace DL
open PySem PySem.Spec L2
section
variable {X : Cx} {Z : Ent} {pos : Pos}
end
end DL

/-! DPd: what an Ahead tells, put together. -/
namespace DM
open PySem PySem.Spec L2 DL
/-! ### what is told, bit by bit -/
section
variable {l : Lim} {ts : List Et}
def entG (l : Lim) (ts : List Et) (G : Nat → Int) (i : Nat) : G3 := (G i, topE l.up l.dn (ts.getD i et0).e (capOf l.pl (ts.getD i et0)) (G i) (G (i + 1)), G (i + 1))
structure TF (l : Lim) (ts : List Et) (n m : Nat) (g : Int) (acc : List G3) (G : Nat → Int) : Prop where
  g0 : G 0 = 0
  gm : G m = g
  cap : ∀ i, i ≤ m → 0 ≤ G i ∧ G i ≤ jcaps l.pl l.jt ts i
  up : ∀ k, k < m → G (k + 1) ≤ G k + chgs l.up ts k
  dn : ∀ k, k < m → G k ≤ G (k + 1) + chgs l.dn ts k
  ac : acc = (List.range m).map (entG l ts G)
  rc : g ≤ rchF l ts n m
  mn : m ≤ n
  nl : n ≤ ts.length
theorem TF.sol {n m : Nat} {g : Int} {acc : List G3} {G : Nat → Int} (f : TF l ts n m g acc G) (hm : m = ts.length) : Sol ts.length (jcaps l.pl l.jt ts) (chgs l.up ts) (chgs l.dn ts) G := by
  subst hm
  exact ⟨fun i hi => (f.cap i hi).2, f.up, f.dn⟩
/-! ### a run by a window -/
end
end DM

/-! DVg: monotony of DVe's and DVf's readings. -/
namespace DL
open PySem PySem.Spec L2
end DL
namespace DM
open PySem PySem.Spec L2 DL
end DM

/-! DPe: ways parted by hops; what is told by windows, compared. -/
namespace DM
open PySem PySem.Spec L2 DL
section
variable {l : Lim}
end
end DM

/-! DVh: a method, or len, of an object that was just made: a slot more for it. -/
namespace DL
open PySem PySem.Spec L2
section
variable {K : Fg} {Z : Ent} {Hs H Hs' H' : Hp} {σ : L2.St} {δ : DSt}
theorem gd_snoc {α : Type} {l : List (Option α)} {i : Nat} {y : α} (h : (l ++ [none])[i]? = some (some y)) : l[i]? = some (some y) := by
  rcases Nat.lt_or_ge i l.length with z | z
  · rw [List.getElem?_append_left z] at h
    exact h
  · rw [List.getElem?_append_right z] at h
    rcases Nat.eq_zero_or_pos (i - l.length) with e | e
    · rw [e] at h
      cases h
    · rw [List.getElem?_eq_none (by simp; omega)] at h
      cases h
theorem gs_snoc {α : Type} {l : List α} {i : Nat} {x y : α} (h : l[i]? = some y) : (l ++ [x])[i]? = some y := by
  rw [List.getElem?_append_left (get_lt' h)]
  exact h
where get_lt' {α : Type} {l : List α} {i : Nat} {y : α} (h : l[i]? = some y) : i < l.length := (List.getElem?_eq_some_iff.mp h).1
theorem Fps.pad {f : Nat → List Addr} {x : Option V} (F : Fps K Z Hs H σ δ f) : Fps K Z Hs H (σ ++ [x]) (δ ++ [none]) f :=
  ⟨fun i s e o => let ⟨v, a, b⟩ := F.at_ i s (gd_snoc e) o; ⟨v, gs_snoc a, b⟩, fun i h => F.emp i fun s e => h s (gs_snoc e), F.hs, F.old, fun i s a e => F.mine i s a (gd_snoc e), F.dis, F.g⟩
theorem Fps.unpad {f : Nat → List Addr} {x : Option V} (hl : σ.length = δ.length) (F : Fps K Z Hs H (σ ++ [x]) (δ ++ [none]) f) : Fps K Z Hs H σ δ f := by
  refine ⟨fun i s e o => ?_, fun i h => F.emp i fun s e => h s (gd_snoc e), F.hs, F.old, fun i s a e => F.mine i s a (gs_snoc e), F.dis, F.g⟩
  obtain ⟨v, a, b⟩ := F.at_ i s (gs_snoc e) o
  have := (List.getElem?_eq_some_iff.mp e).1
  rw [List.getElem?_append_left (by omega)] at a
  exact ⟨v, a, b⟩
theorem Rl.pad1 {x : Option V} (R : Rl K Z Hs H σ δ) : Rl K Z Hs H (σ ++ [x]) (δ ++ [none]) := by
  refine ⟨by rw [List.length_append, List.length_append, R.len]; rfl, R.sub, R.ext, R.fr, R.new, R.hid, fun i d e => ?_, ?_, R.grd, fun i s e p => ?_, fun i C e => ?_⟩
  · obtain ⟨v, a, b⟩ := R.shr i d (gd_snoc e)
    exact ⟨v, gs_snoc a, b⟩
  · obtain ⟨f, F⟩ := R.fps
    exact ⟨f, F.pad⟩
  · have e := gd_snoc e
    have hi := (List.getElem?_eq_some_iff.mp e).1
    rw [← R.prm i s e p, List.getElem?_append_left (by rw [R.len]; exact hi)]
  · obtain ⟨a, e1, e2⟩ := R.exn i C (gd_snoc e)
    exact ⟨a, gs_snoc e1, e2⟩
theorem Rl.unpad {x : Option V} (hl : σ.length = δ.length) (R : Rl K Z Hs H (σ ++ [x]) (δ ++ [none])) : Rl K Z Hs H σ δ := by
  refine ⟨hl, R.sub, R.ext, R.fr, R.new, R.hid, fun i d e => ?_, ?_, R.grd, fun i s e p => ?_, fun i C e => ?_⟩
  · obtain ⟨v, a, b⟩ := R.shr i d (gs_snoc e)
    have hi := (List.getElem?_eq_some_iff.mp e).1
    rw [List.getElem?_append_left (by omega)] at a
    exact ⟨v, a, b⟩
  · obtain ⟨f, F⟩ := R.fps
    exact ⟨f, F.unpad hl⟩
  · have hi := (List.getElem?_eq_some_iff.mp e).1
    rw [← R.prm i s (gs_snoc e) p, List.getElem?_append_left (by omega)]
  · obtain ⟨a, e1, e2⟩ := R.exn i C (gs_snoc e)
    have hi := (List.getElem?_eq_some_iff.mp e).1
    rw [List.getElem?_append_left (by omega)] at e1
    exact ⟨a, e1, e2⟩
theorem FrA.pad {w : V} {s : Sl} {A : List Addr} {x : Option V} (hl : σ.length = δ.length) (c : FrA K Z Hs H σ δ w s A) : FrA K Z Hs H (σ ++ [x]) (δ ++ [none]) w s A :=
  ⟨c.at_, c.hs, c.mine, fun f F => c.dis f (F.unpad hl), c.g⟩
theorem FrA.unpad {w : V} {s : Sl} {A : List Addr} {x : Option V} {y : Option Sl} (hl : σ.length = δ.length) (R : Rl K Z Hs H (σ ++ [x]) (δ ++ [y])) (c : FrA K Z Hs H (σ ++ [x]) (δ ++ [y]) w s A) : FrA K Z Hs H σ δ w s A := by
  refine ⟨c.at_, c.hs, c.mine, fun f F j a m m' => ?_, c.g⟩
  obtain ⟨f', F'⟩ := R.fps
  by_cases hj : j < δ.length
  · have e := F'.eqj F j (by rw [List.getElem?_append_left hj]) (fun v h => by rw [List.getElem?_append_left (by omega)] at h; exact h) fun a _ => rfl
    rw [e] at m'
    exact c.dis f' F' j a m m'
  · rw [F.emp j fun s e => absurd (List.getElem?_eq_some_iff.mp e).1 hj] at m'
    cases m'
/-- a new object is put in a slot behind all others -/
theorem Rl.snoc (R : Rl K Z Hs H σ δ) {v : V} {s : Sl} {A : List Addr} (c : FrA K Z Hs H σ δ v s A) (hp : s.prm = false) : Rl K Z Hs H (σ ++ [some v]) (δ ++ [some s]) := by
  have := (R.pad1 (x := none)).setA (i := σ.length) (c.pad R.len) hp
  rw [List.set_append_right _ _ (Nat.le_refl _), Nat.sub_self, List.set_append_right _ _ (by rw [R.len]; exact Nat.le_refl _), R.len, Nat.sub_self] at this
  exact this
end
section
variable {X : Cx} {Z : Ent} {pos : Pos} {k : Nat} {g : Addr} {fd : FuncData} {ps : List Str} {dvs : List V} {dus : List Value} {dd : List PyData} {f : FG} {ex : Xd → DSt → Prop}
end
end DL

/-! DPf: which gears are told (k63). -/
namespace DM
open PySem PySem.Spec L2 DL
section
variable {l : Lim} {ts : List Et}
end
end DM

/-! DQa: a loop over an own list, which stays as it is while the loop goes (it may be changed behind it). -/
namespace DL
open PySem PySem.Spec L2
section
variable {K : Fg} {Z : Ent} {Hs H Hs' H' : Hp} {σ σ0 : St} {δ δ0 : DSt}
end
section
variable {X : Cx} {Z : Ent} {pos : Pos} {tg : Expr}
end
section
variable {g : DG} {s : DS}
end
end DL

/-! DSa: texts: comparisons, int() and str(), methods, f-strings, walks. -/
namespace DL
open PySem PySem.Spec L2
section
variable {X : Cx} {Z : Ent} {pos : Pos}
/-- a text of one sign -/
def sgn (c : Nat) : Str := ⟨#[c]⟩
/-! ### int(text), str(thing) -/
/-! ### methods of one text -/
def isStr : PyData → Prop
  | .str _ => True
  | _ => False
theorem isStr_s {a : Str} : isStr (.str a) = True := rfl
theorem isStr_v {K : Fg} {H : Hp} {v : V} {d : PyData} (h : isStr d) (p : Dp K H v d) : ∃ a, v = .str a := by
  cases p with
  | str x => exact ⟨x, rfl⟩
  | _ => cases h
/-- s.split(sep): a new list -/
def dSplit (t u : DE) : DL' := fun δ Q => t δ fun d δ1 => isStr d ∧ u δ1 fun e δ2 => match d, e with
  | .str a, .str b => (b.length == 0) = false ∧ a.length + 2 ≤ sizeLine ∧ Q ((Txt.split a b).map .str) δ2
  | _, _ => False
theorem dpa_strs {K : Fg} {H : Hp} : ∀ (ys : List Str), DpAll K H (ys.map V.str) (ys.map PyData.str)
  | [] => .nil
  | y :: r => .cons (.str y) (dpa_strs r)
theorem do_split {o e : Expr} {apos : Pos} {t u : DE} (ho : De X Z o t) (he : De X Z e u)
    (hs : starEach [e] X.env = [(false, eval e X.env)] := by rfl) (hbase : attributeBase o "split" X.env (eval o X.env) = eval o X.env := by rfl) (hline : (apos.endLine == pos.line) = true := by rfl) : Do X Z (.Call (.Attribute o "split" apos) [e] [] pos) (dSplit t u) := by
  refine ⟨pe_imp (pe_split ho.run he.run hs hbase hline) fun σ H Q ⟨Hs, δ, R, q⟩ => ⟨Hs, δ, R, ho.mono _ _ _ (fun d δ1 q v Hs1 H1 s1 R1 dp => ⟨isStr_v q.1 dp, Hs1, δ1, R1, he.mono _ _ _ (fun e δ2 q w Hs2 H2 s2 R2 dp2 => ?_) q.2⟩) q⟩,
    fun δ Q Q' hq q => ho.mono _ _ _ (fun d δ1 z => ⟨z.1, he.mono _ _ _ (fun e δ2 z => ?_) z.2⟩) q⟩
  · split at q
    · cases dp
      cases dp2
      refine ⟨_, _, rfl, rfl, q.1, q.2.1, fun p np => ?_⟩
      exact q.2.2 (.ref p) Hs2 _ (s1.trans s2) (R2.allocO np) (FrO.new R2 np (dpa_strs _))
    · exact q.elim
  · split at z
    · exact ⟨z.1, z.2.1, hq _ _ z.2.2⟩
    · exact z
instance {t u : DE} [EMono t] [EMono u] : LMono (dSplit t u) := ⟨fun δ Q Q' hq q => EMono.m (t := t) _ _ _ (fun d δ1 z => ⟨z.1, EMono.m (t := u) _ _ _ (fun e δ2 z => by
  split at z
  · exact ⟨z.1, z.2.1, hq _ _ z.2.2⟩
  · exact z) z.2⟩) q⟩
end
end DL

/-! DPg: when gears are told (k62). -/
namespace DM
open PySem PySem.Spec L2 DL
section
variable {l : Lim} {ts : List Et}
end
end DM

/-! DTa: tables of the module, dicts (shared and one's own), defs held in slots. -/
namespace DL
open PySem PySem.Spec L2
/-! ### a table of the module, by texts -/
section
open PyProof.Rows PyProof.Rows.KTD PySem.Calls PyProof.V
variable {prog : Program} {w : World} {A : Around} {E : Value → Shared → Prop} {s : Shared} {a : Addr} {R : PyData → Value → Prop} {D : List (Str × PyData)} {k : Str} {tk : Tok}
end
section
variable {X : Cx} {Z : Ent} {pos : Pos}
/-! ### defs held in slots -/
end
end DL

/-! DTb: zip of a text and a list of as many things, strict. -/
namespace DZ
open PySem Sem
section
variable {prog : Program} {w : World} {A : Around} {E : Value → Shared → Prop} {s : Shared}
end
section
variable {prog : Program} {w : World} {A : Around} {E : Value → Shared → Prop} {s : Shared}
end
end DZ

/-! DTc: walks of a strict zip of a text and a list; of a text. -/
namespace DL
open PySem PySem.Spec L2 DZ
section
variable {M : Model} {A : Around} {E : Value → Shared → Prop} {s : Shared} {env : Env}
end
/-! ### by data -/
/-- a text's signs -/
def signs (x : Str) : List PyData := x.cps.toList.map fun c => .str (sgn c)
end DL

/-! DTd: dicts by data (shared, one's own), a sign of a text. -/
namespace DL
open PySem PySem.Spec L2
def obD (kds : List (Key × PyData)) : Ob := .dct (kds.map (·.1)) (kds.map (·.2))
def lookK (kds : List (Key × PyData)) (k : Key) : Option PyData := (kds.find? fun kd => decide (kd.1 = k)).map (·.2)
def putD (kds : List (Key × PyData)) (k : Key) (d : PyData) : List (Key × PyData) := if (kds.any fun kd => decide (kd.1 = k)) = true then kds.map (fun kd => if kd.1 = k then (kd.1, d) else kd) else kds ++ [(k, d)]
theorem pairs_inj {α β : Type} : ∀ {a b : List (α × β)}, a.map (·.1) = b.map (·.1) → a.map (·.2) = b.map (·.2) → a = b
  | [], [], _, _ => rfl
  | [], _ :: _, h, _ => nomatch h
  | _ :: _, [], h, _ => nomatch h
  | (x, y) :: a, (x', y') :: b, h1, h2 => by
    rw [List.map_cons, List.map_cons] at h1 h2
    injection h1 with h1 h1'
    injection h2 with h2 h2'
    rw [pairs_inj h1' h2']
    simp only at h1 h2
    rw [h1, h2]
theorem obD_inj {a b : List (Key × PyData)} : obD a = obD b ↔ a = b := ⟨fun h => by
  unfold obD at h
  injection h with h1 h2
  exact pairs_inj h1 h2, fun h => by rw [h]⟩
/-- entries, keys alike -/
inductive KD (K : Fg) (H : Hp) : List (Key × V) → List (Key × PyData) → Prop
  | nil : KD K H [] []
  | cons {k : Key} {v : V} {d : PyData} {r : List (Key × V)} {s : List (Key × PyData)} : Dp K H v d → KD K H r s → KD K H ((k, v) :: r) ((k, d) :: s)
section
variable {K : Fg} {H : Hp}
theorem KD.of : ∀ {ks : List Key} {vs : List V} {kds : List (Key × PyData)}, ks = kds.map (·.1) → ks.length = vs.length → DpAll K H vs (kds.map (·.2)) → KD K H (ks.zip vs) kds
  | [], [], [], _, _, _ => .nil
  | [], [], _ :: _, h, _, _ => nomatch h
  | [], _ :: _, _, _, h, _ => nomatch h
  | _ :: _, [], _, _, h, _ => nomatch h
  | k :: ks, v :: vs, [], h, _, _ => nomatch h
  | k :: ks, v :: vs, (k', d) :: r, h, l, .cons a t => by
    rw [List.map_cons] at h
    injection h with h1 h2
    simp only at h1
    subst h1
    exact .cons a (KD.of h2 (by simpa using l) t)
theorem KD.keys {kvs : List (Key × V)} {kds : List (Key × PyData)} (h : KD K H kvs kds) : kvs.map (·.1) = kds.map (·.1) := by
  induction h with
  | nil => rfl
  | cons _ _ ih => rw [List.map_cons, List.map_cons, ih]
theorem KD.vals {kvs : List (Key × V)} {kds : List (Key × PyData)} (h : KD K H kvs kds) : DpAll K H (kvs.map (·.2)) (kds.map (·.2)) := by
  induction h with
  | nil => exact .nil
  | cons a _ ih => exact .cons a ih
theorem zip_fs {α β : Type} : ∀ (l : List (α × β)), (l.map (·.1)).zip (l.map (·.2)) = l
  | [] => rfl
  | (a, b) :: r => by
    show (a, b) :: (r.map (·.1)).zip (r.map (·.2)) = _
    rw [zip_fs r]
theorem KD.any {kvs : List (Key × V)} {kds : List (Key × PyData)} (h : KD K H kvs kds) (k : Key) : (kvs.any fun kv => decide (kv.1 = k)) = kds.any fun kd => decide (kd.1 = k) := by
  induction h with
  | nil => rfl
  | cons _ _ ih => rw [List.any_cons, List.any_cons, ih]
theorem KD.put {kvs : List (Key × V)} {kds : List (Key × PyData)} (h : KD K H kvs kds) (k : Key) {v : V} {d : PyData} (dp : Dp K H v d) : KD K H (putK kvs k v) (putD kds k d) := by
  have e := h.any k
  unfold putK putD
  rw [e]
  split
  · clear e
    rename_i hx
    clear hx
    induction h with
    | nil => exact .nil
    | @cons k' v' d' r s a _ ih =>
      rw [List.map_cons, List.map_cons]
      by_cases q : k' = k
      · rw [if_pos q, if_pos q]
        exact .cons dp ih
      · rw [if_neg q, if_neg q]
        exact .cons a ih
  · clear e
    rename_i hx
    clear hx
    induction h with
    | nil => exact .cons dp .nil
    | cons a _ ih => exact .cons a ih
theorem KD.look {kvs : List (Key × V)} {kds : List (Key × PyData)} (h : KD K H kvs kds) (k : Key) : (∀ d, lookK kds k = some d → ∃ v, valV kvs k = some v ∧ Dp K H v d) ∧ (lookK kds k = none → valV kvs k = none) := by
  induction h with
  | nil => exact ⟨fun d e => (nomatch e), fun _ => rfl⟩
  | @cons k' v' d' r s a _ ih =>
    by_cases q : k' = k
    · have e1 : lookK ((k', d') :: s) k = some d' := by unfold lookK; rw [List.find?_cons, decide_eq_true q]; rfl
      have e2 : valV ((k', v') :: r) k = some v' := valV_pos q
      rw [e1, e2]
      exact ⟨fun d e => by cases e; exact ⟨v', rfl, a⟩, fun e => nomatch e⟩
    · have e1 : lookK ((k', d') :: s) k = lookK s k := by unfold lookK; rw [List.find?_cons, decide_eq_false q]
      have e2 : valV ((k', v') :: r) k = valV r k := valV_neg q
      rw [e1, e2]
      exact ih
theorem KD.up {H' : Hp} {kvs : List (Key × V)} {kds : List (Key × PyData)} (h : KD K H kvs kds) (e : Same H H') : KD K H' kvs kds := by
  induction h with
  | nil => exact .nil
  | cons a _ ih => exact .cons (a.up e) ih
end
section
variable {X : Cx} {Z : Ent} {pos : Pos} {k : Nat}
/-! ### d[k], k in d of a shared dict -/
/-! ### dicts of one's own -/
theorem Rl.putD {K : Fg} {Hs H : Hp} {σ : L2.St} {δ : DSt} (R : Rl K Z Hs H σ δ) {i : Nat} {p : Bool} {kds : List (Key × PyData)} (h : δ[i]? = some (some (.ob p (obD kds)))) {kk : Key} {v : V} {d : PyData} (dp : Dp K Hs v d) :
    ∃ a kvs, σ[i]? = some (some (V.ref a)) ∧ H a = some (.dK kvs) ∧ KD K Hs kvs kds ∧ Rl K Z Hs (upd H a (.dK (putK kvs kk v))) σ (δ.set i (some (.ob p (obD (DL.putD kds kk d))))) := by
  obtain ⟨a, vs, h1, h2, h3, h4, h5⟩ := R.ownD i p _ _ h
  have kd := KD.of rfl h4 h5
  refine ⟨a, _, h1, h2, kd, ?_⟩
  have kd2 := kd.put kk dp
  have fi : ∀ f, Fps K Z Hs H σ δ f → f i = [a] := fun f F => by
    obtain ⟨v, k1, k2⟩ := F.at_ i _ h rfl
    rw [h1] at k1
    cases k1
    exact k2.uniq (.dct h2 h4 h5)
  have at2 : At K Hs (upd H a (.dK (putK ((kds.map (·.1)).zip vs) kk v))) (.ref a) (.ob p (obD (DL.putD kds kk d))) [a] := by
    refine .dct (vs := (putK ((kds.map (·.1)).zip vs) kk v).map (·.2)) ?_ (by rw [← kd2.keys, List.length_map, List.length_map]) kd2.vals
    rw [upd_same, ← kd2.keys, zip_fs]
  refine R.chg (A := [a]) (s' := .ob p (obD (DL.putD kds kk d))) h rfl h1 rfl (Same.refl _) (fun b x e => ?_) (fun f F b o n e => ?_) (fun b n => ?_) (fun b n => .inl n) at2 (fun f F b m => .inl (by rw [fi f F]; exact m)) (fun b m => by rw [List.mem_singleton.mp m]; exact h3)
  · rw [upd_ne (ne_of_none e h3)]
    exact R.sub b x e
  · rw [fi f F] at n
    rw [upd_ne (fun q => n (List.mem_singleton.mpr q))]
    exact e
  · by_cases q : b = a
    · subst q
      rw [upd_same]
      exact fun z => nomatch z
    · rw [upd_ne q]
      exact n
/-! ### a sign of a text -/
end
end DL

/-! DTe: [e for x in xs if .. for y in ys if ..]. -/
namespace DL
open PySem PySem.Spec L2
section
variable {K : Fg} {Z : Ent} {Hs H : Hp} {σ : L2.St} {δ : DSt}
end
section
variable {X : Cx} {Z : Ent} {pos : Pos} {tg tg1 : Expr}
end
end DL

/-! DTf: str(..), f-strings; readings of texts told apart. -/
namespace DL
open PySem PySem.Spec L2
section
variable {X : Cx} {Z : Ent} {pos : Pos}
def rStr : D1 := fun ds Q => match ds with
  | [.int i] => i.natAbs.log2 < 1920 ∧ Q (.str (Str.ofString (toString i)))
  | [.str a] => Q (.str a)
  | _ => False
theorem rStr_mono (ds : List PyData) (Q Q' : PyData → Prop) (h : ∀ z, Q z → Q' z) (q : rStr ds Q) : rStr ds Q' := by
  unfold rStr at q ⊢
  split at q
  · exact ⟨q.1, h _ q.2⟩
  · exact h _ q
  · exact q
instance : D1M rStr := ⟨rStr_mono⟩
theorem str_i {i : Int} {Q : PyData → Prop} : rStr [.int i] Q = (i.natAbs.log2 < 1920 ∧ Q (.str (Str.ofString (toString i)))) := rfl
theorem str_s {a : Str} {Q : PyData → Prop} : rStr [.str a] Q = Q (.str a) := rfl
theorem cd_str : ClD X Z (.type "str") rStr := by
  refine ⟨⟨_, call_str_int.or SkE.call_str_str, fun ds vs Hs H σ δ Q R dps q => ?_⟩, rStr_mono⟩
  unfold rStr at q
  split at q
  · cases dps with
    | cons d1 d2 =>
      cases d1
      cases d2
      exact .inl ⟨_, rfl, q.1, q.2 _ Hs H (Same.refl _) R (.str _)⟩
  · cases dps with
    | cons d1 d2 =>
      cases d1
      cases d2
      exact .inr ⟨_, rfl, q _ Hs H (Same.refl _) R (.str _)⟩
  · exact q.elim
/-! ### f-strings -/
def dFmt (t : DE) : DE := fun δ Q => t δ fun d δ' => match d with
  | .str y => y.length ≤ sizeLine ∧ Q (.str y) δ'
  | .int i => i.natAbs.log2 < 1920 ∧ Q (.str (Str.ofString (toString i))) δ'
  | _ => False
theorem de_fmt {e : Expr} {t : DE} (h : De X Z e t) : De X Z (.FormattedValue e (-1) none pos) (dFmt t) := by
  refine ⟨pe_imp (pe_fmt h.run) fun σ H Q ⟨Hs, δ, R, q⟩ => ⟨Hs, δ, R, h.mono _ _ _ (fun d δ1 q v Hs1 H1 s1 R1 dp => ?_) q⟩, fun δ Q Q' hq q => h.mono _ _ _ (fun d δ' z => ?_) q⟩
  · split at q
    · cases dp
      exact .inl ⟨_, rfl, q.1, q.2 _ Hs1 H1 s1 R1 (.str _)⟩
    · cases dp
      exact .inr ⟨_, rfl, q.1, q.2 _ Hs1 H1 s1 R1 (.str _)⟩
    · exact q.elim
  · split at z
    · exact ⟨z.1, hq _ _ z.2⟩
    · exact ⟨z.1, hq _ _ z.2⟩
    · exact z
instance {t : DE} [EMono t] : EMono (dFmt t) := ⟨fun δ Q Q' hq q => EMono.m (t := t) _ _ _ (fun d δ' z => by
  split at z
  · exact ⟨z.1, hq _ _ z.2⟩
  · exact ⟨z.1, hq _ _ z.2⟩
  · exact z) q⟩
/-- the parts of an f-string -/
inductive Dj (X : Cx) (Z : Ent) : List Expr → List DE → Prop where
  | nil : Dj X Z [] []
  | cons {e : Expr} {t : DE} {es : List Expr} {ts : List DE} (h : De X Z e t) (r : Dj X Z es ts) : Dj X Z (e :: es) (t :: ts)
def dJs : List DE → Str → DSt → (Str → DSt → Prop) → Prop
  | [], acc, δ, Q => Q acc δ
  | t :: ts, acc, δ, Q => t δ fun d δ' => ∃ y : Str, d = .str y ∧ (acc ++ y).length ≤ sizeLine ∧ dJs ts (acc ++ y) δ' Q
def dJoin (ts : List DE) : DE := fun δ Q => dJs ts Str.empty δ fun s δ' => Q (.str s) δ'
theorem dj_mono {es : List Expr} {ts : List DE} (h : Dj X Z es ts) : ∀ (acc : Str) (δ : DSt) (Q Q' : Str → DSt → Prop), (∀ s δ', Q s δ' → Q' s δ') → dJs ts acc δ Q → dJs ts acc δ Q' := by
  induction h with
  | nil => exact fun acc δ Q Q' hq q => hq _ _ q
  | cons h _ ih => exact fun acc δ Q Q' hq q => h.mono _ _ _ (fun d δ' ⟨y, e, l, z⟩ => ⟨y, e, l, ih _ _ _ _ hq z⟩) q
theorem dj_pj {es : List Expr} {ts : List DE} (h : Dj X Z es ts) : ∃ us : List TE, PJ X es us ∧ ∀ (acc : Str) (σ : L2.St) (H Hs : Hp) (δ : DSt) (Q : Str → Hp → Prop), Rl X.K Z Hs H σ δ → dJs ts acc δ (fun s δ' => ∀ Hs' H', Same Hs Hs' → Rl X.K Z Hs' H' σ δ' → Q s H') → tJs us acc σ H Q := by
  induction h with
  | nil => exact ⟨[], .nil, fun acc σ H Hs δ Q R q => q Hs H (Same.refl _) R⟩
  | @cons e t es ts h r ih =>
    obtain ⟨us, pj, hu⟩ := ih
    refine ⟨_ :: us, .cons h.run pj, fun acc σ H Hs δ Q R q => ⟨Hs, δ, R, h.mono _ _ _ (fun d δ1 ⟨y, ey, l, q⟩ v Hs1 H1 s1 R1 dp => ?_) q⟩⟩
    subst ey
    cases dp
    exact ⟨y, rfl, l, hu _ σ H1 Hs1 δ1 Q R1 (dj_mono r _ _ _ _ (fun s δ' z Hs' H' s2 R' => z Hs' H' (s1.trans s2) R') q)⟩
theorem de_joined {v1 v2 : Expr} {rest : List Expr} {ts : List DE} (h : Dj X Z (v1 :: v2 :: rest) ts) : De X Z (.JoinedStr (v1 :: v2 :: rest) pos) (dJoin ts) := by
  obtain ⟨us, pj, hu⟩ := dj_pj h
  refine ⟨pe_imp (pe_joined pj) fun σ H Q ⟨Hs, δ, R, q⟩ => hu _ σ H Hs δ _ R (dj_mono h _ _ _ _ (fun s δ' q Hs' H' s' R' => q (.str s) Hs' H' s' R' (.str s)) q), fun δ Q Q' hq q => dj_mono h _ _ _ _ (fun s δ' z => hq _ _ z) q⟩
end
end DL

/-! DTg: a dict of one's own lent to a test; monotony. -/
namespace DL
open PySem PySem.Spec L2
section
variable {X : Cx} {Z : Ent} {pos : Pos}
end
section
variable {g g1 : DG} {tt tt1 : DT} {ti ti1 : DL'} {te : DE} {vs vs1 : List Nat}
end
end DL

/-! DUa: rows of programs and their texts, by plain law. -/
namespace DR
open PySem PySem.Spec L2 DL SX
/-! ### words -/
inductive Wd where
  | hop | cut | run | left | right | by_ | from_ | pace | side | shift | turn | flip | back | piece | end_ | call
  deriving DecidableEq
def Wd.s : Wd → Str
  | .hop => "hop" | .cut => "cut" | .run => "run" | .left => "left" | .right => "right" | .by_ => "by" | .from_ => "from" | .pace => "pace"
  | .side => "side" | .shift => "shift" | .turn => "turn" | .flip => "flip" | .back => "back" | .piece => "piece" | .end_ => "end" | .call => "call"
def Wd.sh : Wd → Str
  | .hop => "xx" | .cut => "xx" | .run => "ppl" | .left => "xxpp" | .right => "xxpp" | .by_ => "" | .from_ => "" | .pace => "g"
  | .side => "r" | .shift => "rr" | .turn => "pp" | .flip => "" | .back => "" | .piece => "n" | .end_ => "" | .call => "nt"
theorem wd_free (w : Wd) : 32 ∉ w.s.cps.toList ∧ 10 ∉ w.s.cps.toList ∧ w.s.length ≤ 5 := by
  cases w <;> (unfold Wd.s; decide +kernel)
/-- where the heading's numbers stand -/
def Wd.at_ : Wd → Option Nat
  | .run => some 0
  | .left => some 2
  | .right => some 2
  | .turn => some 0
  | _ => none
/-! ### values -/
inductive Rv where
  | pt
  | nu (u : Rat)
  | wh (i : Int)
  | nm (l : List Nat)
  deriving DecidableEq
def Rv.d : Rv → PyData
  | .pt => .none
  | .nu u => numD u
  | .wh i => .int i
  | .nm l => .str (S l)
/-- a whole number's text -/
def intT (i : Int) : List Nat := if i < 0 then 45 :: TL.numL i.natAbs else TL.numL i.natAbs
def numT (u : Rat) : List Nat := if u.den = 1 then intT u.num else intT u.num ++ 47 :: TL.numL u.den
def Rv.t : Rv → List Nat
  | .pt => [46]
  | .nu u => numT u
  | .wh i => intT i
  | .nm l => l
def NumOk (u : Rat) : Prop := u.num.natAbs ≤ 9999 ∧ u.den ≤ 999
def NameOk (l : List Nat) : Prop := l ≠ [] ∧ l.length ≤ 8 ∧ ∀ c ∈ l, 97 ≤ c ∧ c ≤ 122
/-- what a sign of a shape lets stand -/
inductive OkV : Nat → Rv → Prop
  | xp : OkV 120 .pt
  | xn {u : Rat} : NumOk u → OkV 120 (.nu u)
  | r {u : Rat} : NumOk u → OkV 114 (.nu u)
  | l {u : Rat} : NumOk u → 0 < u → OkV 108 (.nu u)
  | p {i : Int} : -99 ≤ i → i ≤ 99 → OkV 112 (.wh i)
  | g {i : Int} : 0 ≤ i → i ≤ 9 → OkV 103 (.wh i)
  | t {i : Int} : 1 ≤ i → i ≤ 99 → OkV 116 (.wh i)
  | n {l : List Nat} : NameOk l → OkV 110 (.nm l)
structure Rw where
  w : Wd
  vs : List Rv
  deriving DecidableEq
def Rw.d (r : Rw) : PyData := .tuple (.str r.w.s :: r.vs.map Rv.d)
def Rw.words (r : Rw) : List (List Nat) := r.w.s.cps.toList :: r.vs.map Rv.t
def Rw.t (r : Rw) : List Nat := TL.joinL [32] r.words
structure RwOk (r : Rw) : Prop where
  len : r.vs.length = r.w.sh.cps.size
  ok : ∀ (i : Nat) (c : Nat) (v : Rv), r.w.sh.cps[i]? = some c → r.vs[i]? = some v → OkV c v
  hd : ∀ k, r.w.at_ = some k → ∃ p q, r.vs[k]? = some (.wh p) ∧ r.vs[k + 1]? = some (.wh q) ∧ ¬ (p = 0 ∧ q = 0)
/-! ### signs of texts -/
theorem intT_mem {i : Int} {c : Nat} (h : c ∈ intT i) : c = 45 ∨ (48 ≤ c ∧ c ≤ 57) := by
  unfold intT at h
  split at h
  · rcases List.mem_cons.mp h with z | z
    · exact .inl z
    · exact .inr (TL.numL_digits _ c z)
  · exact .inr (TL.numL_digits _ c h)
theorem numT_mem {u : Rat} {c : Nat} (h : c ∈ numT u) : c = 45 ∨ c = 47 ∨ (48 ≤ c ∧ c ≤ 57) := by
  unfold numT at h
  split at h
  · rcases intT_mem h with z | z
    · exact .inl z
    · exact .inr (.inr z)
  · rcases List.mem_append.mp h with z | z
    · rcases intT_mem z with z | z
      · exact .inl z
      · exact .inr (.inr z)
    · rcases List.mem_cons.mp z with z | z
      · exact .inr (.inl z)
      · exact .inr (.inr (TL.numL_digits _ c z))
theorem numL_len4 {n : Nat} (h : n ≤ 9999) : (TL.numL n).length ≤ 4 := TL.numL_len (by decide) (by omega)
theorem intT_len {i : Int} (h : i.natAbs ≤ 9999) : (intT i).length ≤ 5 := by
  have := numL_len4 h
  unfold intT
  split
  · rw [List.length_cons]; omega
  · omega
theorem numT_len {u : Rat} (h : NumOk u) : (numT u).length ≤ 10 := by
  have a := intT_len h.1
  have b := numL_len4 (n := u.den) (by have := h.2; omega)
  unfold numT
  split
  · omega
  · rw [List.length_append, List.length_cons]; omega
/-- a word of a value: signs, size -/
theorem okv_word {c : Nat} {v : Rv} (h : OkV c v) : 32 ∉ v.t ∧ 10 ∉ v.t ∧ v.t.length ≤ 10 ∧ v.t ≠ [] := by
  have num : ∀ {u : Rat}, NumOk u → 32 ∉ numT u ∧ 10 ∉ numT u ∧ (numT u).length ≤ 10 ∧ numT u ≠ [] := fun {u} h => by
    refine ⟨fun m => by have := numT_mem m; omega, fun m => by have := numT_mem m; omega, numT_len h, fun e => ?_⟩
    unfold numT intT at e
    split at e
    · split at e
      · cases e
      · exact TL.numL_ne _ e
    · have := List.append_eq_nil_iff.mp e
      cases this.2
  have int : ∀ {i : Int}, i.natAbs ≤ 9999 → 32 ∉ intT i ∧ 10 ∉ intT i ∧ (intT i).length ≤ 10 ∧ intT i ≠ [] := fun {i} h => by
    refine ⟨fun m => by have := intT_mem m; omega, fun m => by have := intT_mem m; omega, by have := intT_len h; omega, fun e => ?_⟩
    unfold intT at e
    split at e
    · cases e
    · exact TL.numL_ne _ e
  cases h with
  | xp => exact ⟨by decide, by decide, by decide, by decide⟩
  | xn h => exact num h
  | r h => exact num h
  | l h _ => exact num h
  | p h1 h2 => exact int (by omega)
  | g h1 h2 => exact int (by omega)
  | t h1 h2 => exact int (by omega)
  | n h => exact ⟨fun m => by have := h.2.2 _ m; omega, fun m => by have := h.2.2 _ m; omega, Nat.le_trans h.2.1 (by decide), h.1⟩
theorem sh_len (w : Wd) : w.sh.cps.size ≤ 4 := by
  cases w <;> (unfold Wd.sh; decide +kernel)
theorem RwOk.at {r : Rw} (h : RwOk r) {v : Rv} (m : v ∈ r.vs) : ∃ c, OkV c v := by
  obtain ⟨i, e⟩ := List.mem_iff_getElem?.mp m
  have hi : i < r.vs.length := (List.getElem?_eq_some_iff.mp e).1
  exact ⟨_, h.ok i _ v (Array.getElem?_eq_getElem (by rw [← h.len]; exact hi)) e⟩
theorem RwOk.free {r : Rw} (h : RwOk r) : ∀ p ∈ r.words, 32 ∉ p ∧ 10 ∉ p ∧ p.length ≤ 10 := fun p m => by
  rcases List.mem_cons.mp m with rfl | m
  · have := wd_free r.w
    exact ⟨this.1, this.2.1, by have := this.2.2; rw [TL.len_tl] at this; exact Nat.le_trans this (by decide)⟩
  · obtain ⟨v, mv, rfl⟩ := List.mem_map.mp m
    obtain ⟨c, o⟩ := h.at mv
    have := okv_word o
    exact ⟨this.1, this.2.1, this.2.2.1⟩
theorem join_mem {s : List Nat} {c : Nat} : ∀ {ps : List (List Nat)}, c ∈ TL.joinL s ps → c ∈ s ∨ ∃ p ∈ ps, c ∈ p
  | [], h => nomatch h
  | [p], h => .inr ⟨p, List.mem_cons_self .., h⟩
  | p :: q :: r, h => by
    have h : c ∈ p ++ (s ++ TL.joinL s (q :: r)) := h
    rcases List.mem_append.mp h with z | z
    · exact .inr ⟨p, List.mem_cons_self .., z⟩
    · rcases List.mem_append.mp z with z | z
      · exact .inl z
      · rcases join_mem z with z | ⟨p', m, z⟩
        · exact .inl z
        · exact .inr ⟨p', List.mem_cons_of_mem _ m, z⟩
theorem join_len {s : List Nat} {n : Nat} : ∀ {ps : List (List Nat)}, (∀ p ∈ ps, p.length ≤ n) → (TL.joinL s ps).length ≤ ps.length * (n + s.length)
  | [], _ => Nat.zero_le _
  | [p], h => by
    show p.length ≤ 1 * _
    have := h p (List.mem_cons_self ..)
    omega
  | p :: q :: r, h => by
    show (p ++ (s ++ TL.joinL s (q :: r))).length ≤ (r.length + 1 + 1) * (n + s.length)
    have a := h p (List.mem_cons_self ..)
    have b := join_len (s := s) (ps := q :: r) fun p m => h p (List.mem_cons_of_mem _ m)
    have b : (TL.joinL s (q :: r)).length ≤ (r.length + 1) * (n + s.length) := b
    rw [List.length_append, List.length_append, Nat.succ_mul (r.length + 1)]
    omega
theorem RwOk.line {r : Rw} (h : RwOk r) : 10 ∉ r.t ∧ r.t.length ≤ 55 ∧ r.t ≠ [] := by
  refine ⟨fun m => ?_, ?_, fun e => ?_⟩
  · rcases join_mem m with z | ⟨p, mp, z⟩
    · exact absurd z (by decide)
    · exact (h.free p mp).2.1 z
  · have := join_len (s := [32]) (n := 10) fun p m => (h.free p m).2.2
    have l : r.words.length ≤ 5 := by
      show (r.vs.map Rv.t).length + 1 ≤ 5
      rw [List.length_map, h.len]
      have := sh_len r.w
      omega
    have e : r.t.length = (TL.joinL [32] r.words).length := rfl
    rw [e]
    have this : (TL.joinL [32] r.words).length ≤ r.words.length * 11 := this
    omega
  · have ne : r.w.s.cps.toList ≠ [] := by cases r.w <;> (unfold Wd.s; decide +kernel)
    unfold Rw.t Rw.words at e
    cases q : r.vs.map Rv.t with
    | nil => rw [q] at e; exact ne e
    | cons a b =>
      rw [q] at e
      have e : r.w.s.cps.toList ++ ([32] ++ TL.joinL [32] (a :: b)) = [] := e
      exact ne (List.append_eq_nil_iff.mp e).1
end DR

/-! DUb: what reading rows promises, of right texts. -/
namespace DR
open PySem PySem.Spec L2 DL SX DM
theorem intT_nn {i : Int} (h : 0 ≤ i) : intT i = TL.numL i.natAbs := if_neg (by omega)
theorem intT_neg {i : Int} (h : i < 0) : intT i = 45 :: TL.numL i.natAbs := if_pos h
theorem S_int (i : Int) (h : 0 ≤ i) : S (intT i) = Str.ofString (toString i) := by
  obtain ⟨n, rfl⟩ := Int.eq_ofNat_of_zero_le h
  rw [intT_nn h]
  exact (SX.num_S n).symm
theorem int_text {i : Int} (h : i.natAbs ≤ 9999) : intText? (S (intT i)) = some i := by
  by_cases z : i < 0
  · have := PySem.intText_neg (x := S (intT i)) (cs := TL.numL i.natAbs) (by rw [intT_neg z]) (TL.numL_digits _) (TL.numL_ne _) (by rw [SX.S_len]; have := intT_len h; omega)
    rw [this, TL.numL_val]
    congr 1
    omega
  · rw [S_int i (by omega)]
    obtain ⟨n, rfl⟩ := Int.eq_ofNat_of_zero_le (show 0 ≤ i by omega)
    exact TL.int_num (by have := numL_len4 (n := n) (by omega); omega)
theorem split_c {c : Nat} {parts : List (List Nat)} (hc : c < 256) (hne : parts ≠ []) (h : ∀ p ∈ parts, c ∉ p) : Txt.split (S (TL.joinL [c] parts)) (S [c]) = parts.map S := by
  rw [SX.split_S (List.cons_ne_nil _ _) (by simp; omega), SX.spl_join hne h]
theorem t_slash : Str.ofString "/" = S [47] := by decide +kernel
/-! ### promises -/
/-- the name of a piece's begin, of a call -/
def Rw.name (r : Rw) : List Nat := match r.vs with
  | .nm l :: _ => l
  | _ => []
/-- whether a row may stand where a piece is opened, or none, and pieces of some names stand ahead -/
def fitR (r : Rw) (o : Bool) (ns : List (List Nat)) : Bool := if r.w = .piece then !o && !decide (r.name ∈ ns) else decide (r.w ≠ .end_) || o
/-- pieces stand well -/
def Fits : Bool → List (List Nat) → List Rw → Prop
  | o, _, [] => o = false
  | o, ns, r :: rs => fitR r o ns = true ∧ Fits (if r.w = .piece then true else if r.w = .end_ then false else o) (if r.w = .piece then ns ++ [r.name] else ns) rs
structure PrOk (rs : List Rw) : Prop where
  len : rs.length ≤ 80
  ok : ∀ r ∈ rs, RwOk r
  fits : Fits false [] rs
  calls : ∀ r ∈ rs, r.w = .call → ∃ q ∈ rs, q.w = .piece ∧ q.name = r.name
end DR

/-! DUc: programs put together at random (k13), by plain law; promises. -/
namespace DR
open PySem PySem.Spec L2 DL SX DM
theorem S_intT (i : Int) : Str.ofString (toString i) = S (intT i) := by
  cases i with
  | ofNat n => exact (S_int n (by omega)).symm
  | negSucc m =>
    refine TL.ext_tl ?_
    rw [TL.tl_ofString]
    have e := TL.tl_num (m + 1)
    rw [TL.tl_ofString] at e
    show ("-" ++ toString ((m + 1 : Nat) : Int)).toList.map Char.toNat = intT (Int.negSucc m)
    rw [String.toList_append, List.map_append, e, intT_neg (Int.negSucc_lt_zero m)]
    rfl
theorem sh_S {l : List Nat} (h : ∀ c ∈ l, c < 256) : SeqAt.shaped (.str (S l)) = true := by
  unfold SeqAt.shaped
  show (PyData.strOk (S l) && decide (PyData.depth (.str (S l)) ≤ 64)) = true
  have : PyData.strOk (S l) = true := by
    unfold PyData.strOk
    show l.toArray.all _ = true
    rw [List.all_toArray, List.all_eq_true]
    intro c m
    have := h c m
    simp only [decide_eq_true_eq]
    omega
  rw [this]
  rfl
/-! ### rows by their shape -/
inductive AllV : List Nat → List Rv → Prop
  | nil : AllV [] []
  | cons {c : Nat} {v : Rv} {cs : List Nat} {vs : List Rv} : OkV c v → AllV cs vs → AllV (c :: cs) (v :: vs)
theorem AllV.len {cs : List Nat} {vs : List Rv} (h : AllV cs vs) : vs.length = cs.length := by
  induction h with
  | nil => rfl
  | cons _ _ ih => simp [ih]
theorem AllV.at {cs : List Nat} {vs : List Rv} (h : AllV cs vs) : ∀ (i c : Nat) (v : Rv), cs[i]? = some c → vs[i]? = some v → OkV c v := by
  induction h with
  | nil => intro i c v h; simp at h
  | cons a _ ih =>
    intro i c v h1 h2
    cases i with
    | zero =>
      simp at h1 h2
      subst h1 h2
      exact a
    | succ i => exact ih i c v (by simpa using h1) (by simpa using h2)
theorem rw_ok {w : Wd} {vs : List Rv} {sh : List Nat} (e : w.sh.cps = sh.toArray) (h : AllV sh vs) (hd : ∀ k, w.at_ = some k → ∃ p q, vs[k]? = some (.wh p) ∧ vs[k + 1]? = some (.wh q) ∧ ¬ (p = 0 ∧ q = 0)) : RwOk ⟨w, vs⟩ := by
  refine ⟨by rw [e, h.len]; simp, fun i c v h1 h2 => ?_, hd⟩
  have h1 : w.sh.cps[i]? = some c := h1
  rw [e] at h1
  exact h.at i c v (by simpa using h1) h2
def pcR (l : List Nat) : Rw := ⟨.piece, [.nm l]⟩
def enR : Rw := ⟨.end_, []⟩
theorem pc_ok {l : List Nat} (h : NameOk l) : RwOk (pcR l) := rw_ok (sh := [110]) (by decide +kernel) (.cons (.n h) .nil) (fun k e => nomatch e)
theorem en_ok : RwOk enR := rw_ok (sh := []) (by decide +kernel) .nil (fun k e => nomatch e)
/-! ### pieces -/
def pnames : List Rw → List (List Nat)
  | [] => []
  | r :: rs => if r.w = .piece then r.name :: pnames rs else pnames rs
def runO : Bool → List Rw → Option Bool
  | o, [] => some o
  | o, r :: rs => if r.w = .piece then (if o then none else runO true rs) else if r.w = .end_ then (if o then runO false rs else none) else runO o rs
def cntW (w : Wd) : List Rw → Nat
  | [] => 0
  | r :: rs => (if r.w = w then 1 else 0) + cntW w rs
theorem runO_cons (o : Bool) (r : Rw) (rs : List Rw) : runO o (r :: rs) = if r.w = .piece then (if o then none else runO true rs) else if r.w = .end_ then (if o then runO false rs else none) else runO o rs := rfl
theorem pnames_cons (r : Rw) (rs : List Rw) : pnames (r :: rs) = if r.w = .piece then r.name :: pnames rs else pnames rs := rfl
theorem runO_app : ∀ (a b : List Rw) (o : Bool), runO o (a ++ b) = (runO o a).bind fun o' => runO o' b
  | [], b, o => rfl
  | r :: a, b, o => by
    rw [List.cons_append, runO_cons, runO_cons, runO_app a b, runO_app a b, runO_app a b]
    split
    · split <;> rfl
    · split
      · split <;> rfl
      · rfl
theorem pnames_app : ∀ (a b : List Rw), pnames (a ++ b) = pnames a ++ pnames b
  | [], b => rfl
  | r :: a, b => by
    rw [List.cons_append, pnames_cons, pnames_cons, pnames_app a b]
    split <;> rfl
theorem runO_plain : ∀ {a : List Rw} {o : Bool}, (∀ r ∈ a, r.w ≠ .piece ∧ r.w ≠ .end_) → runO o a = some o
  | [], o, _ => rfl
  | r :: a, o, h => by
    unfold runO
    have := h r (List.mem_cons_self ..)
    rw [if_neg this.1, if_neg this.2]
    exact runO_plain fun x m => h x (List.mem_cons_of_mem _ m)
theorem pnames_plain : ∀ {a : List Rw}, (∀ r ∈ a, r.w ≠ .piece ∧ r.w ≠ .end_) → pnames a = []
  | [], _ => rfl
  | r :: a, h => by
    unfold pnames
    rw [if_neg (h r (List.mem_cons_self ..)).1]
    exact pnames_plain fun x m => h x (List.mem_cons_of_mem _ m)
theorem runO_cnt : ∀ {a : List Rw} {o o' : Bool}, runO o a = some o' → o.toNat + cntW .piece a = o'.toNat + cntW .end_ a
  | [], o, o', h => by cases h; rfl
  | r :: a, o, o', h => by
    unfold runO at h
    unfold cntW
    split at h
    · rename_i e
      split at h
      · cases h
      · rename_i ho
        have := runO_cnt h
        cases o with
        | true => exact absurd rfl ho
        | false =>
          rw [if_pos e, if_neg (by rw [e]; decide)]
          simp only [Bool.toNat_true, Bool.toNat_false] at this ⊢
          omega
    · rename_i e
      split at h
      · rename_i e2
        split at h
        · rename_i ho
          subst ho
          have := runO_cnt h
          rw [if_neg e, if_pos e2]
          simp only [Bool.toNat_true, Bool.toNat_false] at this ⊢
          omega
        · cases h
      · rename_i e2
        have := runO_cnt h
        rw [if_neg e, if_neg e2]
        omega
theorem fits_of : ∀ {rs : List Rw} {o : Bool} {ns : List (List Nat)}, runO o rs = some false → (ns ++ pnames rs).Nodup → Fits o ns rs
  | [], o, ns, h, _ => by cases h; rfl
  | r :: rs, o, ns, h, hn => by
    unfold runO at h
    unfold pnames at hn
    unfold Fits fitR
    by_cases e : r.w = .piece
    · rw [if_pos e] at h hn
      cases o with
      | true => cases h
      | false =>
        rw [if_pos e, if_pos e, if_pos e]
        have h : runO true rs = some false := h
        refine ⟨?_, fits_of h (by rw [List.append_assoc]; exact hn)⟩
        have : r.name ∉ ns := fun m => (List.nodup_append.mp hn).2.2 _ m _ (List.mem_cons_self ..) rfl
        rw [decide_eq_false this]
        rfl
    · rw [if_neg e] at h hn
      rw [if_neg e, if_neg e, if_neg e]
      by_cases e2 : r.w = .end_
      · rw [if_pos e2] at h
        cases o with
        | false => cases h
        | true => exact ⟨by simp, by rw [if_pos e2]; exact fits_of h hn⟩
      · rw [if_neg e2] at h
        exact ⟨by rw [decide_eq_true e2]; rfl, by rw [if_neg e2]; exact fits_of h hn⟩
/-- a row that stands anywhere -/
structure PlR (ns : List (List Nat)) (r : Rw) : Prop where
  ok : RwOk r
  np : r.w ≠ .piece
  ne : r.w ≠ .end_
  cl : r.w = .call → r.name ∈ ns
/-- a program into which the pieces of the first names were put -/
structure PrB (ns : List (List Nat)) (j : Nat) (rs : List Rw) : Prop where
  ok : ∀ r ∈ rs, RwOk r
  run : runO false rs = some false
  pn : (pnames rs).Perm (ns.take j)
  cl : ∀ r ∈ rs, r.w = .call → r.name ∈ ns
  len : rs.length ≤ 40 + 8 * j
def outAt (rs : List Rw) (k : Nat) : Prop := cntW .piece (rs.take k) = cntW .end_ (rs.take k)
instance (rs : List Rw) (k : Nat) : Decidable (outAt rs k) := inferInstanceAs (Decidable (_ = _))
theorem PrB.start {ns : List (List Nat)} {rs : List Rw} (h : ∀ r ∈ rs, PlR ns r) (l : rs.length ≤ 40) : PrB ns 0 rs :=
  ⟨fun r m => (h r m).ok, runO_plain fun r m => ⟨(h r m).np, (h r m).ne⟩, by rw [pnames_plain fun r m => ⟨(h r m).np, (h r m).ne⟩]; exact .nil, fun r m => (h r m).cl, by omega⟩
theorem PrB.put {ns : List (List Nat)} {j k : Nat} {rs inn : List Rw} {l : List Nat} (h : PrB ns j rs) (hj : ns[j]? = some l) (hl : NameOk l) (hk : outAt rs k) (hi : ∀ r ∈ inn, PlR ns r) (li : inn.length ≤ 6) :
    PrB ns (j + 1) (rs.take k ++ [pcR l] ++ inn ++ [enR] ++ rs.drop k) := by
  have e := List.take_append_drop k rs
  have hr := h.run
  rw [← e, runO_app] at hr
  cases ho : runO false (rs.take k) with
  | none => rw [ho] at hr; cases hr
  | some o =>
    rw [ho] at hr
    have hr : runO o (rs.drop k) = some false := hr
    have c := runO_cnt ho
    unfold outAt at hk
    rw [hk] at c
    have eo : o = false := by
      cases o with
      | false => rfl
      | true => simp only [Bool.toNat_true, Bool.toNat_false] at c; omega
    subst eo
    refine ⟨fun r m => ?_, ?_, ?_, fun r m => ?_, ?_⟩
    · simp only [List.mem_append, List.mem_singleton] at m
      rcases m with (((m | rfl) | m) | rfl) | m
      · exact h.ok r (List.mem_of_mem_take m)
      · exact pc_ok hl
      · exact (hi r m).ok
      · exact en_ok
      · exact h.ok r (List.mem_of_mem_drop m)
    · rw [runO_app, runO_app, runO_app, runO_app, ho]
      show ((runO true inn).bind fun o' => runO o' [enR]).bind (fun o' => runO o' (rs.drop k)) = _
      rw [runO_plain fun r m => ⟨(hi r m).np, (hi r m).ne⟩]
      exact hr
    · have e1 : pnames (rs.take k ++ [pcR l] ++ inn ++ [enR] ++ rs.drop k) = pnames (rs.take k) ++ l :: pnames (rs.drop k) := by
        rw [pnames_app, pnames_app, pnames_app, pnames_app, pnames_plain (a := inn) fun r m => ⟨(hi r m).np, (hi r m).ne⟩]
        show pnames (rs.take k) ++ [l] ++ [] ++ [] ++ pnames (rs.drop k) = _
        simp
      have e2 : pnames rs = pnames (rs.take k) ++ pnames (rs.drop k) := by rw [← pnames_app, e]
      have hp := h.pn
      rw [e2] at hp
      rw [e1]
      have e3 : ns.take (j + 1) = ns.take j ++ [l] := by rw [List.take_add_one, hj]; rfl
      rw [e3]
      exact List.perm_middle.trans ((hp.cons l).trans (List.perm_append_comm (l₁ := [l]) (l₂ := ns.take j)))
    · simp only [List.mem_append, List.mem_singleton] at m
      rcases m with (((m | rfl) | m) | rfl) | m
      · exact h.cl r (List.mem_of_mem_take m)
      · intro z; cases z
      · exact (hi r m).cl
      · intro z; cases z
      · exact h.cl r (List.mem_of_mem_drop m)
    · have := h.len
      have l2 : (rs.take k).length + (rs.drop k).length = rs.length := by rw [← List.length_append, e]
      simp only [List.length_append, List.length_singleton]
      omega
theorem pname_mem : ∀ {rs : List Rw} {l : List Nat}, l ∈ pnames rs → ∃ q ∈ rs, q.w = .piece ∧ q.name = l
  | [], l, h => nomatch h
  | r :: rs, l, h => by
    unfold pnames at h
    split at h
    · rename_i e
      rcases List.mem_cons.mp h with rfl | h
      · exact ⟨r, List.mem_cons_self .., e, rfl⟩
      · obtain ⟨q, m, z⟩ := pname_mem h
        exact ⟨q, List.mem_cons_of_mem _ m, z⟩
    · obtain ⟨q, m, z⟩ := pname_mem h
      exact ⟨q, List.mem_cons_of_mem _ m, z⟩
theorem PrB.done {ns : List (List Nat)} {rs : List Rw} (h : PrB ns ns.length rs) (hn : ns.Nodup) (l : ns.length ≤ 4) : PrOk rs := by
  have hp := h.pn
  rw [List.take_length] at hp
  refine ⟨by have := h.len; omega, h.ok, fits_of h.run (by rw [List.nil_append]; exact hp.nodup_iff.mpr hn), fun r m e => ?_⟩
  exact pname_mem (hp.mem_iff.mpr (h.cl r m e))
/-! ### promises -/
end DR

/-! DUd: small laws of rows and texts for the readers' walks. -/
namespace DR
open PySem PySem.Spec L2 DL SX DM
theorem vs1 {r : Rw} (h : RwOk r) {a : Nat} (e : r.w.sh.cps = #[a]) : ∃ v, r.vs = [v] ∧ OkV a v := by
  have l := h.len
  rw [e] at l
  match q : r.vs, l with
  | [v], _ => exact ⟨v, rfl, h.ok 0 a v (by rw [e]; rfl) (by rw [q]; rfl)⟩
theorem numok_div {t b : Int} (hb : 0 < b) (h1 : t.natAbs ≤ 9999) (h2 : b ≤ 999) : NumOk (Rat.divInt t b) := by
  refine ⟨?_, ?_⟩
  · rw [← num_pos hb, Int.fdiv_eq_ediv_of_nonneg _ (by omega)]
    exact Nat.le_trans (Int.natAbs_ediv_le_natAbs _ _) h1
  · have e := den_pos' (t := t) hb
    rw [Int.fdiv_eq_ediv_of_nonneg _ (by omega)] at e
    have := Int.natAbs_ediv_le_natAbs b (Int.gcd t b : Nat)
    omega
def Rw.its (r : Rw) : List (PyData × List Nat) := (.str r.w.s, r.w.s.cps.toList) :: r.vs.map fun v => (v.d, v.t)
class SgMono (S : Str → Option FP) : Prop where
  m : ∀ f fn, S f = some fn → FMono fn
/-! ### shapes -/
def Lay (n : Nat) (d : PyData) : Prop := PyData.canLay0 d = true ∧ PyData.depth d ≤ n
theorem lay_list {n : Nat} {xs : List PyData} (h : ∀ x ∈ xs, Lay n x) : Lay (n + 1) (.list xs) := ⟨canAll fun x m => (h x m).1, by
  show PyData.depthAll _ + 1 ≤ _
  have := depAll (n := n) fun x m => (h x m).2
  omega⟩
theorem lay_sh {n : Nat} {d : PyData} (h : Lay n d) (hn : n ≤ 64) : SeqAt.shaped d = true := by
  show (_ && decide _) = true
  rw [h.1, decide_eq_true (Nat.le_trans h.2 hn)]
  rfl
theorem lay_str {s : String} : Lay 0 (.str (Str.ofString s)) := ⟨(Bool.and_eq_true_iff.mp (sh_str (s := s))).1, Nat.le_refl _⟩
theorem sh_two {a b : String} : SeqAt.shaped (.list [.str (Str.ofString a), .str (Str.ofString b)]) = true := lay_sh (lay_list (n := 0) fun x m => by
  rcases List.mem_cons.mp m with rfl | m
  · exact lay_str
  · rw [List.mem_singleton] at m
    rw [m]
    exact lay_str) (by decide)
end DR

/-! DUe: programs written; texts tell rows apart (k16). -/
namespace DR
open PySem PySem.Spec L2 DL SX DM
theorem int_inj {i j : Int} (hi : i.natAbs ≤ 9999) (hj : j.natAbs ≤ 9999) (e : intT i = intT j) : i = j := by
  have a := int_text hi
  rw [e, int_text hj] at a
  injection a with a
  exact a.symm
/-! ### equality of rows' data -/
theorem Lay.mono {m n : Nat} {d : PyData} (h : Lay m d) (e : m ≤ n) : Lay n d := ⟨h.1, Nat.le_trans h.2 e⟩
/-! ### promises -/
end DR

/-! DUf: tops with tables of texts: a text's hash asks how a world follows the reference at one point, so the top is run for both answers. -/
noncomputable section
namespace DL
open PySem PySem.W HandSHeadRun
end DL

/-! DWa: an object's list fields: the last item taken off. -/
namespace DL
open PySem PySem.Spec L2
section
variable {X : Cx} {Z : Ent} {pos : Pos}
end
end DL

/-! DWb: an object lent to an expression that tells things without lists; f(x, ..) through a slot, owned things handed on; f(C(..)); list(x) of a slot. -/
namespace DL
open PySem PySem.Spec L2
/-! ### things without lists, dicts, objects -/
mutual
def nlD : PyData → Bool
  | .none => true
  | .bool _ => true
  | .int _ => true
  | .str _ => true
  | .tuple ds => nlAll ds
  | .list _ => false
  | .dict _ => false
def nlAll : List PyData → Bool
  | [] => true
  | d :: r => nlD d && nlAll r
end
theorem nlD_t {ds : List PyData} : nlD (.tuple ds) = nlAll ds := by rw [nlD]
theorem nlAll_c {d : PyData} {r : List PyData} : nlAll (d :: r) = (nlD d && nlAll r) := by rw [nlAll]
theorem Dp.nl {K : Fg} {H H' : Hp} (keep : ∀ a xs, Rd H a (.tup xs) → Rd H' a (.tup xs)) {v : V} {d : PyData} (h : Dp K H v d) : nlD d = true → Dp K H' v d :=
  Dp.rec (motive_1 := fun v d _ => nlD d = true → Dp K H' v d) (motive_2 := fun vs ds _ => nlAll ds = true → DpAll K H' vs ds) (fun _ => .non) (fun b _ => .bl b) (fun i _ => .int i) (fun x _ => .str x) (fun _ _ _ c => by rw [nlD] at c; cases c)
    (fun s _ a c => .tup (s.imp (keep _ _) id) (a (by rw [nlD_t] at c; exact c))) (fun _ _ _ _ _ _ c => by rw [insD, nlD] at c; cases c) (fun _ _ _ _ c => by rw [dctD, nlD] at c; cases c) (fun _ c => by rw [fnD, nlD] at c; cases c) (fun _ c => by rw [nlD] at c; cases c) (fun _ c => by rw [nlD] at c; cases c) (fun _ => .nil)
    (fun _ _ a b c => by
      rw [nlAll_c] at c
      have c' := Bool.and_eq_true_iff.mp c
      exact .cons (a c'.1) (b c'.2)) h
/-- no tuple stands there -/
def NT (H : Hp) (b : Addr) : Prop := ∀ xs, ¬ Rd H b (.tup xs)
theorem nt_of {H : Hp} {b : Addr} {o : HO} (h : H b = some o) (h1 : ∀ xs, o ≠ .tup xs) (h2 : ∀ q xs, o ≠ .frz q (.tup xs)) : NT H b := fun xs z => by
  rcases z with z | ⟨q, z⟩
  · rw [h] at z
    exact h1 xs (Option.some.inj z)
  · rw [h] at z
    exact h2 q xs (Option.some.inj z)
section
variable {K : Fg} {Z : Ent} {Hs H : Hp} {σ : L2.St} {δ : DSt}
theorem FvAt.nt {v : V} {f : Fv} {A : List Addr} (h : FvAt K Hs H v f A) : ∀ a ∈ A, NT H a := by
  cases h with
  | d h => exact fun a m => nomatch m
  | l h1 h2 =>
    intro a m
    rw [List.mem_singleton.mp m]
    exact nt_of h1 (fun _ z => nomatch z) fun _ _ z => nomatch z
  | la h1 h2 =>
    intro a m
    rw [List.mem_singleton.mp m]
    exact nt_of h1 (fun _ z => nomatch z) fun _ _ z => nomatch z
theorem FsAt.nt {vs : List V} {fs : List Fv} {A : List Addr} (h : FsAt K Hs H vs fs A) : ∀ a ∈ A, NT H a := by
  induction h with
  | nil => exact fun a m => nomatch m
  | cons h _ ih =>
    intro a m
    rcases List.mem_append.mp m with z | z
    · exact h.nt a z
    · exact ih a z
open Classical in
end
section
variable {X : Cx} {Z : Ent} {pos : Pos}
/-! ### f(x, ..) through a slot, owned things handed on -/
class SgMonoG (S : Str → Option FG) : Prop where
  m : ∀ (f : Str) (fn : FG), S f = some fn → GFMono fn
section
variable {k : Nat} {e : Expr} {es : List Expr} {t : DAg} {ex : Xd → DSt → Prop}
end
/-! ### f(C(..)) -/
section
variable {k : Nat} {g : Addr} {fd : FuncData} {ps : List Str} {f : FG} {x : Str} {e : Expr} {p : Pos} {dvs : List V} {dus : List Value} {dd : List PyData} {ex : Xd → DSt → Prop}
end
/-! ### list(x) of a slot, whatever holds the list -/
/-! ### isinstance(e, (T1, T2)) of built-in types -/
end
end DL

/-! DWc: programs run: rows by their kinds, the runner's state, what a row does, runs; the promises. -/
namespace DR
open PySem PySem.Spec L2 DL DM SX
/-! ### rows by their kinds -/
inductive Rc where
  | hop (x y : Option Rat)
  | cut (x y : Option Rat)
  | run (p q : Int) (l : Rat)
  | arc (left : Bool) (x y : Option Rat) (p q : Int)
  | mode (b : Bool)
  | pace (g : Int)
  | side (u : Rat)
  | frame (f : Fr)
  | back
  | piece (l : List Nat)
  | end_
  | call (l : List Nat) (n : Nat)
def coD : Option Rat → PyData
  | none => .none
  | some u => numD u
def modeD (b : Bool) : PyData := .str (if b then "by" else "from")
def Rc.d : Rc → PyData
  | .hop x y => .tuple [.str "hop", coD x, coD y]
  | .cut x y => .tuple [.str "cut", coD x, coD y]
  | .run p q l => .tuple [.str "run", .int p, .int q, numD l]
  | .arc left x y p q => .tuple [.str (if left then "left" else "right"), coD x, coD y, .int p, .int q]
  | .mode b => .tuple [modeD b]
  | .pace g => .tuple [.str "pace", .int g]
  | .side u => .tuple [.str "side", numD u]
  | .frame f => frD f
  | .back => .tuple [.str "back"]
  | .piece l => .tuple [.str "piece", .str (S l)]
  | .end_ => .tuple [.str "end"]
  | .call l n => .tuple [.str "call", .str (S l), .int (n : Int)]
def coOk : Option Rat → Prop
  | none => True
  | some u => Bd 14 u
def hdOk (p q : Int) : Prop := (p ≠ 0 ∨ q ≠ 0) ∧ p.natAbs < 2 ^ 7 ∧ q.natAbs < 2 ^ 7
def RcOk : Rc → Prop
  | .hop x y => coOk x ∧ coOk y
  | .cut x y => coOk x ∧ coOk y
  | .run p q l => hdOk p q ∧ Bd 14 l
  | .arc _ x y p q => (coOk x ∧ coOk y) ∧ hdOk p q
  | .mode _ => True
  | .pace g => 0 ≤ g ∧ g ≤ 9
  | .side u => Bd 14 u
  | .frame f => FrOk f
  | .back => True
  | .piece _ => True
  | .end_ => True
  | .call _ n => 1 ≤ n ∧ n ≤ 99
/-- rows that make a step -/
def Rc.isStep : Rc → Bool
  | .hop _ _ => true
  | .cut _ _ => true
  | .run _ _ _ => true
  | .arc _ _ _ _ _ => true
  | _ => false
def Rc.isCall : Rc → Bool
  | .call _ _ => true
  | _ => false
/-- neither a piece's begin nor an end -/
def Rc.plain : Rc → Bool
  | .piece _ => false
  | .end_ => false
  | _ => true
def Rc.isEnd : Rc → Bool
  | .end_ => true
  | _ => false
/-! ### pieces -/
/-- the first end from a row on -/
def endAt (rs : List Rc) (k : Nat) : Nat := k + (rs.drop k).findIdx Rc.isEnd
def spsFrom : List Rc → List Rc → Nat → List (List Nat × Nat × Nat)
  | _, [], _ => []
  | rs, .piece l :: r, k => (l, k + 1, endAt rs k) :: spsFrom rs r (k + 1)
  | rs, _ :: r, k => spsFrom rs r (k + 1)
def sps (rs : List Rc) : List (List Nat × Nat × Nat) := spsFrom rs rs 0
structure SpOk (rs : List Rc) : Prop where
  nd : ((sps rs).map (·.1)).Nodup
  en : ∀ k l, rs[k]? = some (.piece l) → endAt rs k < rs.length
  len : rs.length ≤ 80
/-! ### steps -/
inductive Stp where
  | hop (b f : Rat × Rat)
  | line (b f : Rat × Rat)
  | arc (b f c : Rat × Rat) (w : Int)
def Stp.d : Stp → PyData
  | .hop b f => .tuple [.str "hop", plD b, plD f]
  | .line b f => .tuple [.str "line", plD b, plD f]
  | .arc b f c w => .tuple [.str "arc", plD b, plD f, plD c, .int w]
def Stp.beg : Stp → Rat × Rat
  | .hop b _ => b
  | .line b _ => b
  | .arc b _ _ _ => b
def Stp.fin : Stp → Rat × Rat
  | .hop _ f => f
  | .line _ f => f
  | .arc _ f _ _ => f
abbrev Tr := List (Nat × Nat)
def trD (t : Nat × Nat) : PyData := .tuple [.int (t.1 : Int), .int (t.2 : Int)]
structure Ey where
  st : Stp
  pace : Int
  side : Rat
  trail : Tr
def Ey.d (e : Ey) : PyData := .tuple [e.st.d, .int e.pace, numD e.side, .tuple (e.trail.map trD)]
/-! ### the runner -/
/-- out, fout: the levels without, the innermost first -/
structure Rn where
  out : Tr
  row : Nat
  turn : Nat
  place : Rat × Rat
  by_ : Bool
  pace : Int
  side : Rat
  fout : List (List Fr)
  fl : List Fr
  many : Nat
  made : List Ey
def Rn.trail (s : Rn) : Tr := s.out.reverse ++ [(s.row, s.turn)]
def Rn.frs (s : Rn) : List (List Fr) := s.fout.reverse ++ [s.fl]
def Rn.fs (s : Rn) : List Fr := s.frs.flatten
def rn0 : Rn := ⟨[], 0, 0, (0, 0), false, 0, 0, [], [], 0, []⟩
/-- what always holds of a runner -/
structure RnOk (rs : List Rc) (s : Rn) : Prop where
  sp : SpOk rs
  rc : ∀ r ∈ rs, RcOk r
  fr : ∀ f ∈ s.fs, FrOk f
  f8 : s.fs.length ≤ 8
  dep : s.out.length ≤ 8
  fdep : s.fout.length = s.out.length
  mny : s.many ≤ 2000
  md : s.made.length ≤ 100
def AtEnd (rs : List Rc) (s : Rn) : Prop := s.out = [] ∧ s.row = rs.length
instance (rs : List Rc) (s : Rn) : Decidable (AtEnd rs s) := inferInstanceAs (Decidable (_ ∧ _))
/-! ### what a row does -/
def abB (fs : List Fr) : Bool := ((nfl fs : Nat) : Int).fmod 2 == 1
def spotR (s : Rn) (x y : Option Rat) : Rat × Rat :=
  if s.by_ then (s.place.1 + (led false s.fs (x.getD 0, y.getD 0)).1, s.place.2 + (led false s.fs (x.getD 0, y.getD 0)).2)
  else led true s.fs (x.getD (unled s.fs s.place).1, y.getD (unled s.fs s.place).2)
def mkR (s : Rn) (st : Stp) : Rn := { s with made := s.made ++ [⟨st, s.pace, if abB s.fs then -s.side else s.side, s.trail⟩], place := st.fin }
inductive Xr where
  | uneven (k : Nat)
  | noframe (k : Nat)
  | deep (k : Nat)
  | many (n : Nat)
noncomputable def farP (p q : Rat × Rat) : Bool := farB (dt (sb2 p q) (sb2 p q))
def enterR (s : Rn) (b : Nat) : Rn := { s with out := (s.row, s.turn) :: s.out, row := b, turn := 0, fout := s.fl :: s.fout, fl := [] }
def lookP (rs : List Rc) (l : List Nat) : Option (Nat × Nat) := ((sps rs).find? fun e => decide (e.1 = l)).map (·.2)
def arcW (left : Bool) (fs : List Fr) : Int := if left != abB fs then 1 else -1
noncomputable def arcE (s : Rn) (c : Rat × Rat) (w p q : Int) : Rat × Rat :=
  (c.1 + ((s.place.1 - c.1) * hdc (w * p) q - (s.place.2 - c.2) * hds (w * p) q), c.2 + ((s.place.1 - c.1) * hds (w * p) q + (s.place.2 - c.2) * hdc (w * p) q))
def runE (s : Rn) (p q : Int) (l : Rat) : Rat × Rat := (s.place.1 + (led false s.fs (hdc p q, hds p q)).1 * l, s.place.2 + (led false s.fs (hdc p q, hds p q)).2 * l)
noncomputable def deedR (rs : List Rc) (s : Rn) : Rc → Except Xr Rn
  | .hop x y => .ok (mkR s (.hop s.place (spotR s x y)))
  | .cut x y => if farP s.place (spotR s x y) then .ok (mkR s (.line s.place (spotR s x y))) else .error (.uneven s.row)
  | .run p q l => .ok (mkR s (.line s.place (runE s p q l)))
  | .arc left x y p q => if farP (spotR s x y) s.place then .ok (mkR s (.arc s.place (arcE s (spotR s x y) (arcW left s.fs) p q) (spotR s x y) (arcW left s.fs))) else .error (.uneven s.row)
  | .mode b => .ok { s with by_ := b }
  | .pace g => .ok { s with pace := g }
  | .side u => .ok { s with side := u }
  | .frame f => if s.fs.length = 8 then .error (.noframe s.row) else .ok { s with fl := s.fl ++ [f] }
  | .back => if s.fl = [] then .error (.noframe s.row) else .ok { s with fl := s.fl.dropLast }
  | .piece _ => .ok s
  | .end_ => .ok s
  | .call l _ => if 8 ≤ s.out.length then .error (.deep s.row) else match lookP rs l with
    | some (b, _) => .ok (enterR s b)
    | none => .ok s
/-- sizes that a row asks -/
def SpotOk (s : Rn) : Prop := ∃ n, n + 58 * s.fs.length + 30 ≤ 1800 ∧ Bc n s.place
def Fit (s : Rn) : Rc → Prop
  | .hop _ _ => SpotOk s
  | .cut x y => SpotOk s ∧ Bd2 900 s.place ∧ Bd2 900 (spotR s x y)
  | .run _ _ _ => Bd2 1900 s.place
  | .arc _ x y _ _ => SpotOk s ∧ Bc 900 s.place ∧ Bc 900 (spotR s x y)
  | _ => True
/-! ### runs -/
def leaveR (s : Rn) (r t n b : Nat) (o : Tr) (f : List Fr) (fo : List (List Fr)) : Rn :=
  if t + 1 < n then { s with out := (r, t + 1) :: o, row := b, turn := 0, fout := f :: fo, fl := [] } else { s with out := o, row := r + 1, turn := 0, fout := fo, fl := f }
inductive Stl (rs : List Rc) : Nat → Rn → Rn → Prop
  | fin {s : Rn} : AtEnd rs s → Stl rs 0 s s
  | row {s : Rn} {r : Rc} : ¬ AtEnd rs s → rs[s.row]? = some r → r.plain = true → Stl rs 0 s s
  | piece {n : Nat} {s u : Rn} {l : List Nat} {b e : Nat} : ¬ AtEnd rs s → rs[s.row]? = some (.piece l) → lookP rs l = some (b, e) → Stl rs n { s with row := e + 1, turn := 0 } u → Stl rs (n + 1) s u
  | leave {m : Nat} {s u : Rn} {l : List Nat} {r t n b e : Nat} {o : Tr} {f : List Fr} {fo : List (List Fr)} : ¬ AtEnd rs s → rs[s.row]? = some .end_ → s.out = (r, t) :: o → s.fout = f :: fo → rs[r]? = some (.call l n) → lookP rs l = some (b, e) →
    Stl rs m (leaveR s r t n b o f fo) u → Stl rs (m + 1) s u
inductive Dn (rs : List Rc) : Rn → Except Xr Rn → Prop
  | many {s : Rn} : s.many = 2000 → Dn rs s (.error (.many 2000))
  | steps {s : Rn} {r : Rc} : s.many ≠ 2000 → rs[s.row]? = some r → r.isStep = true → s.made.length = 100 → Dn rs s (.error (.many 100))
  | err {s : Rn} {r : Rc} {x : Xr} : s.many ≠ 2000 → rs[s.row]? = some r → r.plain = true → (r.isStep = true → s.made.length ≠ 100) → Fit s r → (∀ l n, r = .call l n → lookP rs l ≠ none) → deedR rs s r = .error x → Dn rs s (.error x)
  | ok {k : Nat} {s t u : Rn} {r : Rc} : s.many ≠ 2000 → rs[s.row]? = some r → r.plain = true → (r.isStep = true → s.made.length ≠ 100) → Fit s r → (∀ l n, r = .call l n → lookP rs l ≠ none) → deedR rs s r = .ok t →
    Stl rs k (if r.isCall then { t with many := t.many + 1 } else { t with many := t.many + 1, row := t.row + 1, turn := 0 }) u → Dn rs s (.ok u)
/-- on to the next row that makes a step -/
inductive Go (rs : List Rc) : Nat → Rn → Except Xr Rn → Prop
  | fin {s : Rn} : AtEnd rs s → Go rs 0 s (.ok s)
  | step {s : Rn} {r : Rc} : ¬ AtEnd rs s → rs[s.row]? = some r → r.isStep = true → Go rs 0 s (.ok s)
  | err {s : Rn} {r : Rc} {x : Xr} : ¬ AtEnd rs s → rs[s.row]? = some r → r.isStep = false → Dn rs s (.error x) → Go rs 1 s (.error x)
  | on {n : Nat} {s t : Rn} {r : Rc} {e : Except Xr Rn} : ¬ AtEnd rs s → rs[s.row]? = some r → r.isStep = false → Dn rs s (.ok t) → Go rs n t e → Go rs (n + 1) s e
inductive Run (rs : List Rc) : Nat → Rn → Except Xr Rn → Prop
  | fin {s : Rn} : AtEnd rs s → Run rs 0 s (.ok s)
  | err {s : Rn} {r : Rc} {x : Xr} : ¬ AtEnd rs s → rs[s.row]? = some r → Dn rs s (.error x) → Run rs 1 s (.error x)
  | on {n : Nat} {s t : Rn} {r : Rc} {e : Except Xr Rn} : ¬ AtEnd rs s → rs[s.row]? = some r → Dn rs s (.ok t) → Run rs n t e → Run rs (n + 1) s e
/-- a run goes on to a step, does it, and so on -/
theorem Run.cut {rs : List Rc} {n : Nat} {s : Rn} {e : Except Xr Rn} (h : Run rs n s e) : ∃ m g, Go rs m s g ∧ ((∃ u, g = .ok u ∧ AtEnd rs u ∧ e = .ok u) ∨ (∃ x, g = .error x ∧ e = .error x) ∨
    (∃ u, g = .ok u ∧ ¬ AtEnd rs u ∧ ((∃ x, Dn rs u (.error x) ∧ e = .error x) ∨ ∃ v k, Dn rs u (.ok v) ∧ Run rs k v e ∧ k < n))) := by
  induction h with
  | fin h => exact ⟨0, _, .fin h, .inl ⟨_, rfl, h, rfl⟩⟩
  | @err s r x h1 h2 h3 =>
    cases hs : r.isStep with
    | true => exact ⟨0, _, .step h1 h2 hs, .inr (.inr ⟨_, rfl, h1, .inl ⟨_, h3, rfl⟩⟩)⟩
    | false => exact ⟨1, _, .err h1 h2 hs h3, .inr (.inl ⟨_, rfl, rfl⟩)⟩
  | @on n s t r e h1 h2 h3 h4 ih =>
    cases hs : r.isStep with
    | true => exact ⟨0, _, .step h1 h2 hs, .inr (.inr ⟨_, rfl, h1, .inr ⟨_, _, h3, h4, Nat.lt_succ_self _⟩⟩)⟩
    | false =>
      obtain ⟨m, g, hg, z⟩ := ih
      refine ⟨m + 1, g, .on h1 h2 hs h3 hg, ?_⟩
      rcases z with z | z | ⟨u, a, b, z⟩
      · exact .inl z
      · exact .inr (.inl z)
      · refine .inr (.inr ⟨u, a, b, ?_⟩)
        rcases z with z | ⟨v, k, c, d, f⟩
        · exact .inl z
        · exact .inr ⟨v, k, c, d, by omega⟩
/-- a whole run: the entries told, or what it is refused with -/
def Runs (rs : List Rc) (e : Except Xr Rn) : Prop := ∃ k n s, Stl rs k rn0 s ∧ Run rs n s e
/-! ### promises -/
/-- the rows of a text, by their kinds -/
def rcOf (r : Rw) : Option Rc := match r.w, r.vs with
  | .hop, [x, y] => (match x, y with | .pt, .pt => some (.hop none none) | .pt, .nu v => some (.hop none (some v)) | .nu u, .pt => some (.hop (some u) none) | .nu u, .nu v => some (.hop (some u) (some v)) | _, _ => none)
  | .cut, [x, y] => (match x, y with | .pt, .pt => some (.cut none none) | .pt, .nu v => some (.cut none (some v)) | .nu u, .pt => some (.cut (some u) none) | .nu u, .nu v => some (.cut (some u) (some v)) | _, _ => none)
  | .run, [.wh p, .wh q, .nu l] => some (.run p q l)
  | .left, [x, y, .wh p, .wh q] => (match x, y with | .pt, .pt => some (.arc true none none p q) | .pt, .nu v => some (.arc true none (some v) p q) | .nu u, .pt => some (.arc true (some u) none p q) | .nu u, .nu v => some (.arc true (some u) (some v) p q) | _, _ => none)
  | .right, [x, y, .wh p, .wh q] => (match x, y with | .pt, .pt => some (.arc false none none p q) | .pt, .nu v => some (.arc false none (some v) p q) | .nu u, .pt => some (.arc false (some u) none p q) | .nu u, .nu v => some (.arc false (some u) (some v) p q) | _, _ => none)
  | .by_, [] => some (.mode true)
  | .from_, [] => some (.mode false)
  | .pace, [.wh g] => some (.pace g)
  | .side, [.nu u] => some (.side u)
  | .shift, [.nu a, .nu b] => some (.frame (.shift a b))
  | .turn, [.wh p, .wh q] => some (.frame (.turn p q))
  | .flip, [] => some (.frame .flip)
  | .back, [] => some .back
  | .piece, [.nm l] => some (.piece l)
  | .end_, [] => some .end_
  | .call, [.nm l, .wh n] => some (.call l n.toNat)
  | _, _ => none
end DR

/-! DWd: what the readings of the runner lean on. -/
namespace DR
open PySem PySem.Spec L2 DL DM SX
/-! ### a row's word -/
def frV : Fr → List PyData
  | .shift a b => [numD a, numD b]
  | .turn p q => [.int p, .int q]
  | .flip => []
def Rc.vs : Rc → List PyData
  | .hop x y => [coD x, coD y]
  | .cut x y => [coD x, coD y]
  | .run p q l => [.int p, .int q, numD l]
  | .arc _ x y p q => [coD x, coD y, .int p, .int q]
  | .mode _ => []
  | .pace g => [.int g]
  | .side u => [numD u]
  | .frame f => frV f
  | .back => []
  | .piece l => [.str (S l)]
  | .end_ => []
  | .call l n => [.str (S l), .int (n : Int)]
def Rc.isPiece : Rc → Bool
  | .piece _ => true
  | _ => false
/-! ### places at the end -/
/-! ### pieces -/
theorem sps_app : ∀ (rs a b : List Rc) (k : Nat), spsFrom rs (a ++ b) k = spsFrom rs a k ++ spsFrom rs b (k + a.length)
  | rs, [], b, k => rfl
  | rs, r :: a, b, k => by
    have ih := sps_app rs a b (k + 1)
    rw [show k + 1 + a.length = k + (r :: a).length by simp; omega] at ih
    cases r <;> simp only [List.cons_append, spsFrom, ih]
end DR

/-! DWe: what runs keep; runs of programs without pieces. -/
namespace DR
open PySem PySem.Spec L2 DL DM SX
/-! ### what is kept -/
theorem fs_enter (s : Rn) (b : Nat) : (enterR s b).fs = s.fs := by
  unfold Rn.fs Rn.frs enterR
  simp
theorem RnOk.enter {rs : List Rc} {s : Rn} (h : RnOk rs s) (hd : s.out.length ≤ 7) (b : Nat) : RnOk rs (enterR s b) := by
  refine ⟨h.sp, h.rc, by rw [fs_enter]; exact h.fr, by rw [fs_enter]; exact h.f8, ?_, ?_, h.mny, h.md⟩
  · show s.out.length + 1 ≤ 8
    omega
  · show s.fout.length + 1 = s.out.length + 1
    rw [h.fdep]
theorem RnOk.row {rs : List Rc} {s : Rn} (h : RnOk rs s) (k t : Nat) : RnOk rs { s with row := k, turn := t } := ⟨h.sp, h.rc, h.fr, h.f8, h.dep, h.fdep, h.mny, h.md⟩
theorem fs_pop {s : Rn} {f : List Fr} {fo : List (List Fr)} (h : s.fout = f :: fo) : s.fs = (fo.reverse ++ [f]).flatten ++ s.fl := by
  unfold Rn.fs Rn.frs
  rw [h]
  simp
theorem RnOk.pop {rs : List Rc} {s : Rn} (h : RnOk rs s) {r t k u : Nat} {o : Tr} {f : List Fr} {fo : List (List Fr)} (h1 : s.out = (r, t) :: o) (h2 : s.fout = f :: fo) : RnOk rs { s with out := o, row := k, turn := u, fout := fo, fl := f } := by
  have e := fs_pop h2
  have e2 : ({ s with out := o, row := k, turn := u, fout := fo, fl := f } : Rn).fs = (fo.reverse ++ [f]).flatten := rfl
  refine ⟨h.sp, h.rc, fun g m => h.fr g ?_, ?_, ?_, ?_, h.mny, h.md⟩
  · rw [e]
    exact List.mem_append_left _ (by rw [← e2]; exact m)
  · rw [e2]
    have := h.f8
    rw [e, List.length_append] at this
    omega
  · show o.length ≤ 8
    have := h.dep
    rw [h1, List.length_cons] at this
    omega
  · show fo.length = o.length
    have := h.fdep
    rw [h1, h2, List.length_cons, List.length_cons] at this
    omega
theorem RnOk.leave {rs : List Rc} {s : Rn} (h : RnOk rs s) {r t n b : Nat} {o : Tr} {f : List Fr} {fo : List (List Fr)} (h1 : s.out = (r, t) :: o) (h2 : s.fout = f :: fo) : RnOk rs (leaveR s r t n b o f fo) := by
  unfold leaveR
  have hd := h.dep
  rw [h1, List.length_cons] at hd
  split
  · exact RnOk.enter (s := { s with out := o, row := r, turn := t + 1, fout := fo, fl := f }) (h.pop h1 h2) (by show o.length ≤ 7; omega) b
  · exact h.pop h1 h2
theorem Stl.ok {rs : List Rc} {n : Nat} {s t : Rn} (h : Stl rs n s t) : RnOk rs s → RnOk rs t := by
  induction h with
  | fin _ => exact id
  | row _ _ _ => exact id
  | piece _ _ _ _ ih => exact fun ok => ih (ok.row _ _)
  | leave _ _ h1 h2 _ _ _ ih => exact fun ok => ih (ok.leave h1 h2)
theorem RnOk.mkr {rs : List Rc} {s : Rn} (h : RnOk rs s) (hm : s.made.length < 100) (st : Stp) : RnOk rs (mkR s st) := by
  refine ⟨h.sp, h.rc, h.fr, h.f8, h.dep, h.fdep, h.mny, ?_⟩
  show (s.made ++ [_]).length ≤ 100
  rw [List.length_append]
  show s.made.length + 1 ≤ 100
  omega
theorem fs_fl (s : Rn) (g : List Fr) : ({ s with fl := g } : Rn).fs = s.fout.reverse.flatten ++ g := by
  unfold Rn.fs Rn.frs
  simp
theorem RnOk.deed {rs : List Rc} {s t : Rn} {r : Rc} (h : RnOk rs s) (hr : RcOk r) (hm : r.isStep = true → s.made.length ≠ 100) (hl : ∀ l n, r = .call l n → lookP rs l ≠ none) (e : deedR rs s r = .ok t) : RnOk rs t ∧ t.many = s.many := by
  have hmd := h.md
  cases r with
  | hop x y => cases e; exact ⟨h.mkr (by have := hm rfl; omega) _, rfl⟩
  | cut x y =>
    unfold deedR at e
    simp only at e
    split at e
    · cases e; exact ⟨h.mkr (by have := hm rfl; omega) _, rfl⟩
    · cases e
  | run p q l => cases e; exact ⟨h.mkr (by have := hm rfl; omega) _, rfl⟩
  | arc left x y p q =>
    unfold deedR at e
    simp only at e
    split at e
    · cases e; exact ⟨h.mkr (by have := hm rfl; omega) _, rfl⟩
    · cases e
  | mode b => cases e; exact ⟨⟨h.sp, h.rc, h.fr, h.f8, h.dep, h.fdep, h.mny, h.md⟩, rfl⟩
  | pace g => cases e; exact ⟨⟨h.sp, h.rc, h.fr, h.f8, h.dep, h.fdep, h.mny, h.md⟩, rfl⟩
  | side u => cases e; exact ⟨⟨h.sp, h.rc, h.fr, h.f8, h.dep, h.fdep, h.mny, h.md⟩, rfl⟩
  | frame f =>
    unfold deedR at e
    simp only at e
    split at e
    · cases e
    · rename_i h8
      cases e
      have e0 : s.fs = s.fout.reverse.flatten ++ s.fl := fs_fl s s.fl
      have h9 := h.f8
      refine ⟨⟨h.sp, h.rc, fun g m => ?_, ?_, h.dep, h.fdep, h.mny, h.md⟩, rfl⟩
      · rw [fs_fl, ← List.append_assoc, ← e0] at m
        rcases List.mem_append.mp m with z | z
        · exact h.fr g z
        · rw [List.mem_singleton.mp z]
          exact hr
      · rw [fs_fl, ← List.append_assoc, ← e0, List.length_append]
        show s.fs.length + 1 ≤ 8
        omega
  | back =>
    unfold deedR at e
    simp only at e
    split at e
    · cases e
    · cases e
      have e0 : s.fs = s.fout.reverse.flatten ++ s.fl := fs_fl s s.fl
      refine ⟨⟨h.sp, h.rc, fun g m => h.fr g ?_, ?_, h.dep, h.fdep, h.mny, h.md⟩, rfl⟩
      · rw [fs_fl] at m
        rw [e0]
        rcases List.mem_append.mp m with z | z
        · exact List.mem_append_left _ z
        · exact List.mem_append_right _ (List.dropLast_subset _ z)
      · rw [fs_fl]
        have := h.f8
        rw [e0, List.length_append] at this
        rw [List.length_append, List.length_dropLast]
        omega
  | piece l => cases e; exact ⟨h, rfl⟩
  | end_ => cases e; exact ⟨h, rfl⟩
  | call l n =>
    unfold deedR at e
    simp only at e
    split at e
    · cases e
    · rename_i hd
      split at e
      · cases e
        exact ⟨h.enter (by omega) _, rfl⟩
      · rename_i e2
        exact absurd e2 (hl l n rfl)
theorem Dn.ok' {rs : List Rc} {s t : Rn} (h : RnOk rs s) (d : Dn rs s (.ok t)) : RnOk rs t := by
  cases d with
  | ok h1 h2 h3 h4 h5 h6 h7 h8 =>
    rename_i k t0 r
    obtain ⟨o1, o2⟩ := h.deed (h.rc _ (List.mem_of_getElem? h2)) h4 h6 h7
    refine h8.ok ?_
    have hmn := h.mny
    split
    · exact ⟨o1.sp, o1.rc, o1.fr, o1.f8, o1.dep, o1.fdep, by show t0.many + 1 ≤ 2000; omega, o1.md⟩
    · exact ⟨o1.sp, o1.rc, o1.fr, o1.f8, o1.dep, o1.fdep, by show t0.many + 1 ≤ 2000; omega, o1.md⟩
theorem Go.ok' {rs : List Rc} {n : Nat} {s : Rn} {e : Except Xr Rn} (h : Go rs n s e) : RnOk rs s → ∀ t, e = .ok t → RnOk rs t := by
  induction h with
  | fin _ => intro ok t q; cases q; exact ok
  | step _ _ _ => intro ok t q; cases q; exact ok
  | err _ _ _ _ => intro ok t q; cases q
  | on _ _ _ d _ ih => exact fun ok => ih (d.ok' ok)
/-- settled: at the end, or at a row that is done -/
def Settled (rs : List Rc) (s : Rn) : Prop := AtEnd rs s ∨ (¬ AtEnd rs s ∧ ∃ r, rs[s.row]? = some r ∧ r.plain = true)
theorem Settled.stl {rs : List Rc} {s : Rn} (h : Settled rs s) : Stl rs 0 s s := by
  rcases h with h | ⟨h1, r, h2, h3⟩
  · exact .fin h
  · exact .row h1 h2 h3
/-- a run goes on to a step, does it, and so on -/
theorem Run.parts {rs : List Rc} {n : Nat} {s : Rn} {e : Except Xr Rn} (h : Run rs n s e) : ∀ t, e = .ok t → ∃ m u, Go rs m s (.ok u) ∧ (AtEnd rs u ∧ u = t ∨ ¬ AtEnd rs u ∧ ∃ v k, Dn rs u (.ok v) ∧ Run rs k v (.ok t) ∧ k < n) := by
  induction h with
  | fin h => intro t q; cases q; exact ⟨0, _, .fin h, .inl ⟨h, rfl⟩⟩
  | err _ _ _ => intro t q; cases q
  | @on n s t r e h1 h2 h3 h4 ih =>
    intro t' q
    subst q
    by_cases hs : r.isStep = true
    · exact ⟨0, s, .step h1 h2 hs, .inr ⟨h1, t, n, h3, h4, by omega⟩⟩
    · obtain ⟨m, u, g, z⟩ := ih t' rfl
      refine ⟨m + 1, u, .on h1 h2 (by cases q : r.isStep with | true => exact absurd q hs | false => rfl) h3 g, ?_⟩
      rcases z with z | ⟨z1, v, k, z2, z3, z4⟩
      · exact .inl z
      · exact .inr ⟨z1, v, k, z2, z3, by omega⟩
/-! ### programs without pieces -/
/-- what a row that is no call does -/
structure Does (s : Rn) (r : Rc) (t : Rn) : Prop where
  np : r.plain = true
  nc : r.isCall = false
  ok : RcOk r
  fit : Fit s r
  st : r.isStep = true → s.made.length < 100
  mn : s.many < 2000
  de : ∀ rs, deedR rs s r = .ok t
inductive FlatR : List Rc → Rn → Prop
  | nil : FlatR [] rn0
  | snoc {rs : List Rc} {s t : Rn} {r : Rc} : FlatR rs s → Does s r t → FlatR (rs ++ [r]) { t with many := t.many + 1, row := t.row + 1, turn := 0 }
theorem deed_out {s t : Rn} {r : Rc} (d : Does s r t) : t.out = s.out ∧ t.row = s.row ∧ t.turn = s.turn ∧ t.many = s.many ∧ t.fout = s.fout := by
  have e := d.de []
  cases r with
  | hop x y => cases e; exact ⟨rfl, rfl, rfl, rfl, rfl⟩
  | cut x y =>
    unfold deedR at e
    simp only at e
    split at e
    · cases e; exact ⟨rfl, rfl, rfl, rfl, rfl⟩
    · cases e
  | run p q l => cases e; exact ⟨rfl, rfl, rfl, rfl, rfl⟩
  | arc left x y p q =>
    unfold deedR at e
    simp only at e
    split at e
    · cases e; exact ⟨rfl, rfl, rfl, rfl, rfl⟩
    · cases e
  | mode b => cases e; exact ⟨rfl, rfl, rfl, rfl, rfl⟩
  | pace g => cases e; exact ⟨rfl, rfl, rfl, rfl, rfl⟩
  | side u => cases e; exact ⟨rfl, rfl, rfl, rfl, rfl⟩
  | frame f =>
    unfold deedR at e
    simp only at e
    split at e
    · cases e
    · cases e; exact ⟨rfl, rfl, rfl, rfl, rfl⟩
  | back =>
    unfold deedR at e
    simp only at e
    split at e
    · cases e
    · cases e; exact ⟨rfl, rfl, rfl, rfl, rfl⟩
  | piece l => cases d.np
  | end_ => cases d.np
  | call l n => cases d.nc
structure FlatIs (rs : List Rc) (s : Rn) : Prop where
  row : s.row = rs.length
  turn : s.turn = 0
  out : s.out = []
  fout : s.fout = []
  many : s.many = rs.length
  ok : ∀ r ∈ rs, RcOk r ∧ r.plain = true ∧ r.isCall = false
theorem FlatR.is {rs : List Rc} {s : Rn} (h : FlatR rs s) : FlatIs rs s := by
  induction h with
  | nil => exact ⟨rfl, rfl, rfl, rfl, rfl, fun r m => nomatch m⟩
  | @snoc rs s t r h d ih =>
    obtain ⟨o1, o2, o3, o4, o5⟩ := deed_out d
    refine ⟨?_, rfl, o1.trans ih.out, o5.trans ih.fout, ?_, fun q m => ?_⟩
    · show t.row + 1 = (rs ++ [r]).length
      rw [o2, ih.row, List.length_append]
      rfl
    · show t.many + 1 = (rs ++ [r]).length
      rw [o4, ih.many, List.length_append]
      rfl
    · rcases List.mem_append.mp m with z | z
      · exact ih.ok q z
      · rw [List.mem_singleton.mp z]
        exact ⟨d.ok, d.np, d.nc⟩
theorem flat_settled {rs x : List Rc} {s : Rn} (h : FlatIs rs s) (hx : ∀ r ∈ x, r.plain = true) : Settled (rs ++ x) s := by
  cases x with
  | nil => exact .inl ⟨h.out, by rw [h.row, List.append_nil]⟩
  | cons r x =>
    refine .inr ⟨fun z => ?_, r, ?_, hx r (List.mem_cons_self ..)⟩
    · have := z.2
      rw [h.row, List.length_append, List.length_cons] at this
      omega
    · rw [h.row, List.getElem?_append_right (Nat.le_refl _), Nat.sub_self]
      rfl
theorem FlatR.run {rs : List Rc} {s : Rn} (h : FlatR rs s) : ∀ (x : List Rc), (∀ r ∈ x, r.plain = true) → ∀ (n : Nat) (e : Except Xr Rn), Run (rs ++ x) n s e → Run (rs ++ x) (n + rs.length) rn0 e := by
  induction h with
  | nil => exact fun x hx n e h => h
  | @snoc rs s t r h d ih =>
    intro x hx n e hr
    have hi := h.is
    have a : rs ++ [r] ++ x = rs ++ (r :: x) := by simp
    have hx' : ∀ q ∈ r :: x, q.plain = true := fun q m => by
      rcases List.mem_cons.mp m with z | z
      · rw [z]; exact d.np
      · exact hx q z
    have hset : Settled (rs ++ [r] ++ x) { t with many := t.many + 1, row := t.row + 1, turn := 0 } := flat_settled (h.snoc d).is hx
    rw [a] at hr hset ⊢
    have er : (rs ++ (r :: x))[s.row]? = some r := by
      rw [hi.row, List.getElem?_append_right (Nat.le_refl _), Nat.sub_self]
      rfl
    have ne : ¬ AtEnd (rs ++ (r :: x)) s := fun z => by
      have := z.2
      rw [hi.row, List.length_append, List.length_cons] at this
      omega
    have dn : Dn (rs ++ (r :: x)) s (.ok { t with many := t.many + 1, row := t.row + 1, turn := 0 }) := by
      refine .ok (k := 0) (t := t) (by have := d.mn; omega) er d.np (fun z => by have := d.st z; omega) d.fit (fun l n q => by have := d.nc; rw [q] at this; cases this) (d.de _) ?_
      rw [d.nc]
      exact hset.stl
    have := ih (r :: x) hx' (n + 1) e (.on ne er dn hr)
    rw [show n + (rs ++ [r]).length = n + 1 + rs.length by simp; omega]
    exact this
theorem FlatR.runs {rs : List Rc} {s : Rn} (h : FlatR rs s) : Runs rs (.ok s) := by
  have hi := h.is
  have := h.run [] (fun r m => nomatch m) 0 (.ok s) (.fin ⟨hi.out, by rw [hi.row, List.append_nil]⟩)
  rw [List.append_nil] at this
  have hs : Settled rs rn0 := by
    cases rs with
    | nil => exact .inl ⟨rfl, rfl⟩
    | cons r x => exact .inr ⟨fun z => (nomatch z.2), r, rfl, (hi.ok r (List.mem_cons_self ..)).2.1⟩
  exact ⟨0, _, rn0, hs.stl, this⟩
end DR

/-! DWf: rows of texts by their kinds; what the laws of roads share. -/
namespace DR
open PySem PySem.Spec L2 DL DM SX
/-! ### rows of texts -/
theorem num_bd {u : Rat} (h : NumOk u) : Bd 14 u := ⟨Nat.lt_of_le_of_lt h.1 (by decide), Nat.lt_of_le_of_lt h.2 (by decide)⟩
theorem okx {v : Rv} {c : Nat} (h : OkV c v) : (∀ u, v = .nu u → Bd 14 u) ∧ (∀ i, c = 112 → v = .wh i → i.natAbs < 2 ^ 7) ∧ (∀ i, c = 103 → v = .wh i → 0 ≤ i ∧ i ≤ 9) ∧ (∀ i, c = 116 → v = .wh i → 1 ≤ i ∧ i ≤ 99) := by
  cases h with
  | xp => exact ⟨nofun, nofun, nofun, nofun⟩
  | xn h => exact ⟨fun u e => (by cases e; exact num_bd h), nofun, nofun, nofun⟩
  | r h => exact ⟨fun u e => (by cases e; exact num_bd h), nofun, nofun, nofun⟩
  | l h _ => exact ⟨fun u e => (by cases e; exact num_bd h), nofun, nofun, nofun⟩
  | p h1 h2 => exact ⟨nofun, fun i _ e => (by cases e; omega), nofun, nofun⟩
  | g h1 h2 => exact ⟨nofun, nofun, fun i _ e => (by cases e; exact ⟨h1, h2⟩), nofun⟩
  | t h1 h2 => exact ⟨nofun, nofun, nofun, fun i _ e => (by cases e; exact ⟨h1, h2⟩)⟩
  | n h => exact ⟨nofun, nofun, nofun, nofun⟩
/-- a value of a row, by its place -/
theorem RwOk.v {w : Wd} {vs : List Rv} (ok : RwOk ⟨w, vs⟩) (i c : Nat) (hc : w.sh.cps[i]? = some c) {v : Rv} (hv : vs[i]? = some v) : (∀ u, v = .nu u → Bd 14 u) ∧ (∀ i, c = 112 → v = .wh i → i.natAbs < 2 ^ 7) ∧ (∀ i, c = 103 → v = .wh i → 0 ≤ i ∧ i ≤ 9) ∧ (∀ i, c = 116 → v = .wh i → 1 ≤ i ∧ i ≤ 99) := okx (ok.ok i c v hc hv)
theorem RwOk.h {w : Wd} {vs : List Rv} (ok : RwOk ⟨w, vs⟩) (k : Nat) (hk : w.at_ = some k) (c1 : w.sh.cps[k]? = some 112) (c2 : w.sh.cps[k + 1]? = some 112) {p q : Int} (hp : vs[k]? = some (.wh p)) (hq : vs[k + 1]? = some (.wh q)) : hdOk p q := by
  obtain ⟨p', q', e1, e2, n⟩ := ok.hd k hk
  have e1 : vs[k]? = some (.wh p') := e1
  have e2 : vs[k + 1]? = some (.wh q') := e2
  rw [hp] at e1
  rw [hq] at e2
  cases e1
  cases e2
  refine ⟨by omega, (ok.v k 112 c1 hp).2.1 _ rfl rfl, (ok.v (k + 1) 112 c2 hq).2.1 _ rfl rfl⟩
theorem rcOf_ok {r : Rw} {c : Rc} (h : rcOf r = some c) (ok : RwOk r) : r.d = c.d ∧ RcOk c := by
  obtain ⟨w, vs⟩ := r
  unfold rcOf at h
  simp only at h
  split at h
  · split at h <;> cases h
    · exact ⟨rfl, trivial, trivial⟩
    · exact ⟨rfl, trivial, (ok.v 1 120 (by decide +kernel) rfl).1 _ rfl⟩
    · exact ⟨rfl, (ok.v 0 120 (by decide +kernel) rfl).1 _ rfl, trivial⟩
    · exact ⟨rfl, (ok.v 0 120 (by decide +kernel) rfl).1 _ rfl, (ok.v 1 120 (by decide +kernel) rfl).1 _ rfl⟩
  · split at h <;> cases h
    · exact ⟨rfl, trivial, trivial⟩
    · exact ⟨rfl, trivial, (ok.v 1 120 (by decide +kernel) rfl).1 _ rfl⟩
    · exact ⟨rfl, (ok.v 0 120 (by decide +kernel) rfl).1 _ rfl, trivial⟩
    · exact ⟨rfl, (ok.v 0 120 (by decide +kernel) rfl).1 _ rfl, (ok.v 1 120 (by decide +kernel) rfl).1 _ rfl⟩
  · cases h
    exact ⟨rfl, ok.h 0 rfl (by decide +kernel) (by decide +kernel) rfl rfl, (ok.v 2 108 (by decide +kernel) rfl).1 _ rfl⟩
  · have hh := ok.h 2 rfl (by decide +kernel) (by decide +kernel) rfl rfl
    split at h <;> cases h
    · exact ⟨rfl, ⟨trivial, trivial⟩, hh⟩
    · exact ⟨rfl, ⟨trivial, (ok.v 1 120 (by decide +kernel) rfl).1 _ rfl⟩, hh⟩
    · exact ⟨rfl, ⟨(ok.v 0 120 (by decide +kernel) rfl).1 _ rfl, trivial⟩, hh⟩
    · exact ⟨rfl, ⟨(ok.v 0 120 (by decide +kernel) rfl).1 _ rfl, (ok.v 1 120 (by decide +kernel) rfl).1 _ rfl⟩, hh⟩
  · have hh := ok.h 2 rfl (by decide +kernel) (by decide +kernel) rfl rfl
    split at h <;> cases h
    · exact ⟨rfl, ⟨trivial, trivial⟩, hh⟩
    · exact ⟨rfl, ⟨trivial, (ok.v 1 120 (by decide +kernel) rfl).1 _ rfl⟩, hh⟩
    · exact ⟨rfl, ⟨(ok.v 0 120 (by decide +kernel) rfl).1 _ rfl, trivial⟩, hh⟩
    · exact ⟨rfl, ⟨(ok.v 0 120 (by decide +kernel) rfl).1 _ rfl, (ok.v 1 120 (by decide +kernel) rfl).1 _ rfl⟩, hh⟩
  · cases h
    exact ⟨rfl, trivial⟩
  · cases h
    exact ⟨rfl, trivial⟩
  · cases h
    exact ⟨rfl, (ok.v 0 103 (by decide +kernel) rfl).2.2.1 _ rfl rfl⟩
  · cases h
    exact ⟨rfl, (ok.v 0 114 (by decide +kernel) rfl).1 _ rfl⟩
  · cases h
    exact ⟨rfl, (ok.v 0 114 (by decide +kernel) rfl).1 _ rfl, (ok.v 1 114 (by decide +kernel) rfl).1 _ rfl⟩
  · cases h
    exact ⟨rfl, ok.h 0 rfl (by decide +kernel) (by decide +kernel) rfl rfl⟩
  · cases h
    exact ⟨rfl, trivial⟩
  · cases h
    exact ⟨rfl, trivial⟩
  · cases h
    exact ⟨rfl, trivial⟩
  · cases h
    exact ⟨rfl, trivial⟩
  · rename_i l n
    cases h
    have := (ok.v 1 116 (by decide +kernel) rfl).2.2.2 n rfl rfl
    refine ⟨?_, by omega, by omega⟩
    show PyData.tuple [.str "call", .str (S l), .int n] = .tuple [.str "call", .str (S l), .int ((n.toNat : Nat) : Int)]
    rw [Int.toNat_of_nonneg (by omega)]
  · cases h
/-! ### laws of roads -/
def LenOk (u : Rat) : Prop := 0 < u ∧ NumOk u
end DR

/-! DWg: enumerate(t) of a tuple; a list of tuples made flat. -/
namespace DZ
open PySem Sem PyProof.Rows
section
variable {prog : Program} {w : World} {A : Around} {E : Value → Shared → Prop} {s : Shared}
end
end DZ
namespace DL
open PySem PySem.Spec PyProof.Rows L2 DZ
section
variable {X : Cx} {Z : Ent} {pos : Pos}
end
end DL

/-! DWh: steps of the runner's readings. -/
namespace DR
open PySem PySem.Spec L2 DL DM SX
end DR
namespace DR
open PySem PySem.Spec L2 DL DM SX
end DR

namespace DR
open PySem PySem.Spec L2 DL DM SX
end DR
namespace DR
open PySem PySem.Spec L2 DL DM SX
end DR
namespace DR
open PySem PySem.Spec L2 DL DM SX
end DR
namespace DL
open PySem PySem.Spec L2
end DL
namespace DR
open PySem PySem.Spec L2 DL DM SX
end DR
namespace DR
open PySem PySem.Spec L2 DL DM SX
end DR
namespace DR
open PySem PySem.Spec L2 DL DM SX
theorem arcW_pm (left : Bool) (fs : List Fr) : arcW left fs = 1 ∨ arcW left fs = -1 := by
  unfold arcW
  split
  · exact .inl rfl
  · exact .inr rfl
end DR
namespace DR
open PySem PySem.Spec L2 DL DM SX
end DR
namespace DR
open PySem PySem.Spec L2 DL DM SX
end DR

/-! DWi: rows by their kinds as they are written; flat programs row by row. -/
namespace DR
open PySem PySem.Spec L2 DL DM SX
/-! ### rows written -/
def coV : Option Rat → Rv
  | none => .pt
  | some u => .nu u
def Rc.w : Rc → Rw
  | .hop x y => ⟨.hop, [coV x, coV y]⟩
  | .cut x y => ⟨.cut, [coV x, coV y]⟩
  | .run p q l => ⟨.run, [.wh p, .wh q, .nu l]⟩
  | .arc left x y p q => ⟨if left then .left else .right, [coV x, coV y, .wh p, .wh q]⟩
  | .mode b => ⟨if b then .by_ else .from_, []⟩
  | .pace g => ⟨.pace, [.wh g]⟩
  | .side u => ⟨.side, [.nu u]⟩
  | .frame (.shift a b) => ⟨.shift, [.nu a, .nu b]⟩
  | .frame (.turn p q) => ⟨.turn, [.wh p, .wh q]⟩
  | .frame .flip => ⟨.flip, []⟩
  | .back => ⟨.back, []⟩
  | .piece l => ⟨.piece, [.nm l]⟩
  | .end_ => ⟨.end_, []⟩
  | .call l n => ⟨.call, [.nm l, .wh (n : Int)]⟩
def coW : Option Rat → Prop
  | none => True
  | some u => NumOk u
def hdW (p q : Int) : Prop := (-99 ≤ p ∧ p ≤ 99) ∧ (-99 ≤ q ∧ q ≤ 99) ∧ ¬ (p = 0 ∧ q = 0)
def RcW : Rc → Prop
  | .hop x y => coW x ∧ coW y
  | .cut x y => coW x ∧ coW y
  | .run p q l => hdW p q ∧ NumOk l ∧ 0 < l
  | .arc _ x y p q => (coW x ∧ coW y) ∧ hdW p q
  | .mode _ => True
  | .pace g => 0 ≤ g ∧ g ≤ 9
  | .side u => NumOk u
  | .frame (.shift a b) => NumOk a ∧ NumOk b
  | .frame (.turn p q) => hdW p q
  | .frame .flip => True
  | .back => True
  | .piece l => NameOk l
  | .end_ => True
  | .call l n => NameOk l ∧ 1 ≤ n ∧ n ≤ 99
theorem rcOf_w (c : Rc) : rcOf c.w = some c := by
  cases c with
  | hop x y => cases x <;> cases y <;> rfl
  | cut x y => cases x <;> cases y <;> rfl
  | arc l x y p q => cases l <;> cases x <;> cases y <;> rfl
  | mode b => cases b <;> rfl
  | frame f => cases f <;> rfl
  | _ => rfl
theorem co_ok {x : Option Rat} (h : coW x) : OkV 120 (coV x) := by
  cases x with
  | none => exact .xp
  | some u => exact .xn h
theorem w_ok {c : Rc} (h : RcW c) : RwOk c.w := by
  cases c with
  | hop x y => exact rw_ok (sh := [120, 120]) (by decide +kernel) (.cons (co_ok h.1) (.cons (co_ok h.2) .nil)) (fun k e => nomatch e)
  | cut x y => exact rw_ok (sh := [120, 120]) (by decide +kernel) (.cons (co_ok h.1) (.cons (co_ok h.2) .nil)) (fun k e => nomatch e)
  | run p q l => exact rw_ok (sh := [112, 112, 108]) (by decide +kernel) (.cons (.p h.1.1.1 h.1.1.2) (.cons (.p h.1.2.1.1 h.1.2.1.2) (.cons (.l h.2.1 h.2.2) .nil))) (fun k e => by cases e; exact ⟨p, q, rfl, rfl, h.1.2.2⟩)
  | arc l x y p q =>
    cases l
    · exact rw_ok (sh := [120, 120, 112, 112]) (by decide +kernel) (.cons (co_ok h.1.1) (.cons (co_ok h.1.2) (.cons (.p h.2.1.1 h.2.1.2) (.cons (.p h.2.2.1.1 h.2.2.1.2) .nil)))) (fun k e => by cases e; exact ⟨p, q, rfl, rfl, h.2.2.2⟩)
    · exact rw_ok (sh := [120, 120, 112, 112]) (by decide +kernel) (.cons (co_ok h.1.1) (.cons (co_ok h.1.2) (.cons (.p h.2.1.1 h.2.1.2) (.cons (.p h.2.2.1.1 h.2.2.1.2) .nil)))) (fun k e => by cases e; exact ⟨p, q, rfl, rfl, h.2.2.2⟩)
  | mode b => cases b <;> exact rw_ok (sh := []) (by decide +kernel) .nil (fun k e => nomatch e)
  | pace g => exact rw_ok (sh := [103]) (by decide +kernel) (.cons (.g h.1 h.2) .nil) (fun k e => nomatch e)
  | side u => exact rw_ok (sh := [114]) (by decide +kernel) (.cons (.r h) .nil) (fun k e => nomatch e)
  | frame f =>
    cases f with
    | shift a b => exact rw_ok (sh := [114, 114]) (by decide +kernel) (.cons (.r h.1) (.cons (.r h.2) .nil)) (fun k e => nomatch e)
    | turn p q => exact rw_ok (sh := [112, 112]) (by decide +kernel) (.cons (.p h.1.1 h.1.2) (.cons (.p h.2.1.1 h.2.1.2) .nil)) (fun k e => by cases e; exact ⟨p, q, rfl, rfl, h.2.2⟩)
    | flip => exact rw_ok (sh := []) (by decide +kernel) .nil (fun k e => nomatch e)
  | back => exact rw_ok (sh := []) (by decide +kernel) .nil (fun k e => nomatch e)
  | piece l => exact pc_ok h
  | end_ => exact en_ok
  | call l n =>
    have h : NameOk l ∧ 1 ≤ n ∧ n ≤ 99 := h
    exact rw_ok (sh := [110, 116]) (by decide +kernel) (.cons (.n h.1) (.cons (.t (by omega) (by omega)) .nil)) (fun k e => nomatch e)
theorem rc_ok {c : Rc} (h : RcW c) : RcOk c := (rcOf_ok (rcOf_w c) (w_ok h)).2
theorem w_kind {c : Rc} (h1 : c.plain = true) : c.w.w ≠ .piece ∧ c.w.w ≠ .end_ := by
  cases c with
  | arc l x y p q => cases l <;> exact ⟨fun z => (nomatch z), fun z => nomatch z⟩
  | mode b => cases b <;> exact ⟨fun z => (nomatch z), fun z => nomatch z⟩
  | frame f => cases f <;> exact ⟨fun z => (nomatch z), fun z => nomatch z⟩
  | piece l => cases h1
  | end_ => cases h1
  | _ => exact ⟨fun z => (nomatch z), fun z => nomatch z⟩
theorem w_call {c : Rc} (h1 : c.isCall = false) : c.w.w ≠ .call := by
  cases c with
  | arc l x y p q => cases l <;> exact fun z => nomatch z
  | mode b => cases b <;> exact fun z => nomatch z
  | frame f => cases f <;> exact fun z => nomatch z
  | call l n => cases h1
  | _ => exact fun z => nomatch z
theorem pr_flat {rs : List Rc} (h : ∀ r ∈ rs, RcW r ∧ r.plain = true ∧ r.isCall = false) (hl : rs.length ≤ 80) : PrOk (rs.map Rc.w) := by
  have k : ∀ r ∈ rs.map Rc.w, r.w ≠ .piece ∧ r.w ≠ .end_ := fun r m => by
    obtain ⟨c, mc, rfl⟩ := List.mem_map.mp m
    exact w_kind (h c mc).2.1
  refine ⟨by rw [List.length_map]; exact hl, fun r m => ?_, ?_, fun r m e => ?_⟩
  · obtain ⟨c, mc, rfl⟩ := List.mem_map.mp m
    exact w_ok (h c mc).1
  · refine fits_of (runO_plain k) ?_
    rw [pnames_plain k]
    exact List.nodup_nil
  · obtain ⟨c, mc, rfl⟩ := List.mem_map.mp m
    exact absurd e (w_call (h c mc).2.2)
/-! ### the laws' own helpers -/
/-! ### flat programs, row by row -/
def nxR (t : Rn) : Rn := { t with many := t.many + 1, row := t.row + 1, turn := 0 }
theorem FlatR.step {rs : List Rc} {s t : Rn} {r : Rc} (h : FlatR rs s) (np : r.plain = true) (nc : r.isCall = false) (ok : RcOk r) (fit : Fit s r) (hm : r.isStep = true → s.made.length < 100) (hl : rs.length < 2000) (de : ∀ rs, deedR rs s r = .ok t) : FlatR (rs ++ [r]) (nxR t) :=
  h.snoc ⟨np, nc, ok, fit, hm, by rw [h.is.many]; exact hl, de⟩
end DR
namespace DR
open PySem PySem.Spec L2 DL DM SX
end DR

/-! DWj: flat programs step by step; the laws' own tellings of places. -/
namespace DR
open PySem PySem.Spec L2 DL DM SX
/-- rows without pieces and calls, done to a state whose place is within a size -/
structure Fl (c : Nat) (rs : List Rc) (s : Rn) : Prop where
  fl : FlatR rs s
  ok : ∀ r ∈ rs, RcW r ∧ r.plain = true ∧ r.isCall = false
  bc : Bc c s.place
theorem Fl.nil : Fl 1 [] rn0 := ⟨.nil, fun _ m => (nomatch m), ⟨0, 0, 1, by decide, rfl, rfl, by decide, by decide, by decide⟩⟩
theorem Fl.mono {c d : Nat} {rs : List Rc} {s : Rn} (h : Fl c rs s) (e : c ≤ d) : Fl d rs s := ⟨h.fl, h.ok, h.bc.mono e⟩
theorem Fl.snoc {c d : Nat} {rs : List Rc} {s t : Rn} {r : Rc} (h : Fl c rs s) (hr : RcW r) (np : r.plain = true) (nc : r.isCall = false) (fit : Fit s r) (hm : r.isStep = true → s.made.length < 100) (hl : rs.length < 2000) (de : ∀ rs, deedR rs s r = .ok t) (bc : Bc d t.place) : Fl d (rs ++ [r]) (nxR t) := by
  refine ⟨h.fl.step np nc (rc_ok hr) fit hm hl de, fun q m => ?_, bc⟩
  rcases List.mem_append.mp m with z | z
  · exact h.ok q z
  · rw [List.mem_singleton.mp z]
    exact ⟨hr, np, nc⟩
section
variable {c : Nat} {rs : List Rc} {s : Rn}
theorem Fl.mode (h : Fl c rs s) (hl : rs.length < 2000) (b : Bool) : Fl c (rs ++ [.mode b]) (nxR { s with by_ := b }) := h.snoc (r := .mode b) trivial rfl rfl trivial (fun z => nomatch z) hl (fun _ => rfl) h.bc
theorem Fl.pace (h : Fl c rs s) (hl : rs.length < 2000) {g : Int} (hg : 0 ≤ g ∧ g ≤ 9) : Fl c (rs ++ [.pace g]) (nxR { s with pace := g }) := h.snoc (r := .pace g) hg rfl rfl trivial (fun z => nomatch z) hl (fun _ => rfl) h.bc
theorem Fl.side (h : Fl c rs s) (hl : rs.length < 2000) {u : Rat} (hu : NumOk u) : Fl c (rs ++ [.side u]) (nxR { s with side := u }) := h.snoc (r := .side u) hu rfl rfl trivial (fun z => nomatch z) hl (fun _ => rfl) h.bc
theorem Fl.frame (h : Fl c rs s) (hl : rs.length < 2000) {f : Fr} (hf : RcW (.frame f)) (h8 : s.fs.length ≠ 8) : Fl c (rs ++ [.frame f]) (nxR { s with fl := s.fl ++ [f] }) := h.snoc (r := .frame f) hf rfl rfl trivial (fun z => nomatch z) hl (fun _ => if_neg h8) h.bc
theorem Fl.back (h : Fl c rs s) (hl : rs.length < 2000) (h8 : s.fl ≠ []) : Fl c (rs ++ [.back]) (nxR { s with fl := s.fl.dropLast }) := h.snoc (r := .back) trivial rfl rfl trivial (fun z => nomatch z) hl (fun _ => if_neg h8) h.bc
theorem Fl.hop {d : Nat} (h : Fl c rs s) (hl : rs.length < 2000) (hm : s.made.length < 100) {x y : Option Rat} (hx : coW x) (hy : coW y) (hc : c + 58 * s.fs.length + 30 ≤ 1800) (bc : Bc d (spotR s x y)) : Fl d (rs ++ [.hop x y]) (nxR (mkR s (.hop s.place (spotR s x y)))) :=
  h.snoc (r := .hop x y) ⟨hx, hy⟩ rfl rfl ⟨c, hc, h.bc⟩ (fun _ => hm) hl (fun _ => rfl) bc
theorem bd2_of {n m : Nat} {p : Rat × Rat} (h : Bc n p) (e : n ≤ m) : Bd2 m p := ⟨h.bd.1.mono e, h.bd.2.mono e⟩
theorem Fl.cut {d : Nat} (h : Fl c rs s) (hl : rs.length < 2000) (hm : s.made.length < 100) {x y : Option Rat} (hx : coW x) (hy : coW y) (hc : c + 58 * s.fs.length + 30 ≤ 1800) (hc2 : c ≤ 900) (bc : Bc d (spotR s x y)) (hd : d ≤ 900) (far : farP s.place (spotR s x y) = true) :
    Fl d (rs ++ [.cut x y]) (nxR (mkR s (.line s.place (spotR s x y)))) :=
  h.snoc (r := .cut x y) ⟨hx, hy⟩ rfl rfl ⟨⟨c, hc, h.bc⟩, bd2_of h.bc hc2, bd2_of bc hd⟩ (fun _ => hm) hl (fun _ => if_pos far) bc
theorem Fl.run {d : Nat} (h : Fl c rs s) (hl : rs.length < 2000) (hm : s.made.length < 100) {p q : Int} {l : Rat} (hh : hdW p q) (hu : LenOk l) (hc2 : c ≤ 1900) (bc : Bc d (runE s p q l)) : Fl d (rs ++ [.run p q l]) (nxR (mkR s (.line s.place (runE s p q l)))) :=
  h.snoc (r := .run p q l) ⟨hh, hu.2, hu.1⟩ rfl rfl (bd2_of h.bc hc2) (fun _ => hm) hl (fun _ => rfl) bc
theorem Fl.arc {d e : Nat} (h : Fl c rs s) (hl : rs.length < 2000) (hm : s.made.length < 100) {left : Bool} {x y : Option Rat} {p q : Int} (hx : coW x) (hy : coW y) (hh : hdW p q) (hc : c + 58 * s.fs.length + 30 ≤ 1800) (hc2 : c ≤ 900) (be : Bc e (spotR s x y)) (he : e ≤ 900) (far : farP (spotR s x y) s.place = true)
    (bc : Bc d (arcE s (spotR s x y) (arcW left s.fs) p q)) : Fl d (rs ++ [.arc left x y p q]) (nxR (mkR s (.arc s.place (arcE s (spotR s x y) (arcW left s.fs) p q) (spotR s x y) (arcW left s.fs)))) :=
  h.snoc (r := .arc left x y p q) ⟨⟨hx, hy⟩, hh⟩ rfl rfl ⟨⟨c, hc, h.bc⟩, h.bc.mono hc2, be.mono he⟩ (fun _ => hm) hl (fun _ => if_pos far) bc
theorem Fl.pr (h : Fl c rs s) (hl : rs.length ≤ 80) : PrOk (rs.map Rc.w) := pr_flat h.ok hl
theorem Fl.fs0 (h : Fl c rs s) (hf : s.fl = []) : s.fs = [] := by
  unfold Rn.fs Rn.frs
  rw [h.fl.is.fout, hf]
  rfl
theorem Fl.trail (h : Fl c rs s) : s.trail = [(rs.length, 0)] := by
  unfold Rn.trail
  rw [h.fl.is.out, h.fl.is.row, h.fl.is.turn]
  rfl
end
theorem hdW_ok {p q : Int} (h : hdW p q) : (p ≠ 0 ∨ q ≠ 0) ∧ p.natAbs < 2 ^ 7 ∧ q.natAbs < 2 ^ 7 := by
  obtain ⟨⟨a, b⟩, ⟨c, d⟩, e⟩ := h
  exact ⟨by omega, by omega, by omega⟩
theorem hdW_bc {p q : Int} (h : hdW p q) : Bc 15 (hdc p q, hds p q) := bc_hd (k := 7) (hdW_ok h).1 (hdW_ok h).2.1 (hdW_ok h).2.2
/-! ### places without frames -/
theorem spot0 {s : Rn} (h : s.fs = []) (x y : Option Rat) : spotR s x y = if s.by_ then (s.place.1 + x.getD 0, s.place.2 + y.getD 0) else (x.getD s.place.1, y.getD s.place.2) := by
  unfold spotR
  rw [h]
  rfl
theorem far_hd {p : Rat × Rat} {P Q : Int} {r : Rat} (h : P ≠ 0 ∨ Q ≠ 0) (hr : 0 < r) : farP p (p.1 + hdc P Q * r, p.2 + hds P Q * r) = true ∧ farP (p.1 + hdc P Q * r, p.2 + hds P Q * r) p = true := by
  have h1 := hd_one h
  have h0 : r ≠ 0 := fun z => by rw [z] at hr; exact absurd hr (by decide)
  have k : ∀ u : Rat, u = r * r → farB u = true := fun u e => by
    unfold farB
    rw [rt_of (r := r) (Rat.le_of_lt hr) e.symm]
    simp [h0]
  constructor
  · refine k _ ?_
    show (p.1 - (p.1 + hdc P Q * r)) * (p.1 - (p.1 + hdc P Q * r)) + (p.2 - (p.2 + hds P Q * r)) * (p.2 - (p.2 + hds P Q * r)) = r * r
    have : (p.1 - (p.1 + hdc P Q * r)) * (p.1 - (p.1 + hdc P Q * r)) + (p.2 - (p.2 + hds P Q * r)) * (p.2 - (p.2 + hds P Q * r)) = r * r * (hdc P Q * hdc P Q + hds P Q * hds P Q) := by grind
    rw [this, h1, Rat.mul_one]
  · refine k _ ?_
    show (p.1 + hdc P Q * r - p.1) * (p.1 + hdc P Q * r - p.1) + (p.2 + hds P Q * r - p.2) * (p.2 + hds P Q * r - p.2) = r * r
    have : (p.1 + hdc P Q * r - p.1) * (p.1 + hdc P Q * r - p.1) + (p.2 + hds P Q * r - p.2) * (p.2 + hds P Q * r - p.2) = r * r * (hdc P Q * hdc P Q + hds P Q * hds P Q) := by grind
    rw [this, h1, Rat.mul_one]
/-! ### the laws' own helpers -/
def co (j : Nat) (p : Rat × Rat) : Rat := if j = 0 then p.1 else p.2
instance (x : Option Rat) : Decidable (coW x) := by
  cases x with
  | none => exact isTrue trivial
  | some u => exact inferInstanceAs (Decidable (_ ∧ _))
end DR
noncomputable section
namespace DL
open PySem PySem.W HandSHeadRun
end DL

/-! DWk: runs of programs with pieces, step by step; places over one bottom. -/
namespace DR
open PySem PySem.Spec L2 DL DM SX
/-- behind a row's deed, not yet settled -/
def aftR (r : Rc) (t : Rn) : Rn := if r.isCall then { t with many := t.many + 1 } else nxR t
/-- from a state to one that a run comes to (neither needs to be settled) -/
inductive Rch (rs : List Rc) : Rn → Rn → Prop
  | refl (s : Rn) : Rch rs s s
  | act {s t u : Rn} {r : Rc} : ¬ AtEnd rs s → rs[s.row]? = some r → r.plain = true → s.many ≠ 2000 → (r.isStep = true → s.made.length ≠ 100) → Fit s r → (∀ l n, r = .call l n → lookP rs l ≠ none) → deedR rs s r = .ok t → Rch rs (aftR r t) u → Rch rs s u
  | skip {s u : Rn} {l : List Nat} {b e : Nat} : ¬ AtEnd rs s → rs[s.row]? = some (.piece l) → lookP rs l = some (b, e) → Rch rs { s with row := e + 1, turn := 0 } u → Rch rs s u
  | leave {s u : Rn} {l : List Nat} {r t n b e : Nat} {o : Tr} {f : List Fr} {fo : List (List Fr)} : ¬ AtEnd rs s → rs[s.row]? = some .end_ → s.out = (r, t) :: o → s.fout = f :: fo → rs[r]? = some (.call l n) → lookP rs l = some (b, e) → Rch rs (leaveR s r t n b o f fo) u → Rch rs s u
theorem Rch.trans {rs : List Rc} {s t u : Rn} (h : Rch rs s t) (k : Rch rs t u) : Rch rs s u := by
  induction h with
  | refl _ => exact k
  | act a b c d e f g h _ ih => exact .act a b c d e f g h (ih k)
  | skip a b c _ ih => exact .skip a b c (ih k)
  | leave a b c d e f _ ih => exact .leave a b c d e f (ih k)
theorem Rch.run {rs : List Rc} {s t t' : Rn} {k : Nat} (h : Rch rs s t) (hs : Stl rs k t t') (he : AtEnd rs t') : ∃ k n s0, Stl rs k s s0 ∧ Run rs n s0 (.ok t') := by
  induction h with
  | refl _ => exact ⟨k, 0, _, hs, .fin he⟩
  | act a b c d e f g h _ ih =>
    obtain ⟨k1, n1, s1, h1, h2⟩ := ih hs
    exact ⟨0, n1 + 1, _, .row a b c, .on a b (.ok d b c e f g h h1) h2⟩
  | skip a b c _ ih =>
    obtain ⟨k1, n1, s1, h1, h2⟩ := ih hs
    exact ⟨k1 + 1, n1, s1, .piece a b c h1, h2⟩
  | leave a b c d e f _ ih =>
    obtain ⟨k1, n1, s1, h1, h2⟩ := ih hs
    exact ⟨k1 + 1, n1, s1, .leave a b c d e f h1, h2⟩
theorem Rch.runA {rs : List Rc} {s t t' : Rn} {k n : Nat} {e : Except Xr Rn} (h : Rch rs s t) (hs : Stl rs k t t') (he : Run rs n t' e) : ∃ k n s0, Stl rs k s s0 ∧ Run rs n s0 e := by
  induction h with
  | refl _ => exact ⟨k, n, _, hs, he⟩
  | act a b c d e f g h _ ih =>
    obtain ⟨k1, n1, s1, h1, h2⟩ := ih hs
    exact ⟨0, n1 + 1, _, .row a b c, .on a b (.ok d b c e f g h h1) h2⟩
  | skip a b c _ ih =>
    obtain ⟨k1, n1, s1, h1, h2⟩ := ih hs
    exact ⟨k1 + 1, n1, s1, .piece a b c h1, h2⟩
  | leave a b c d e f _ ih =>
    obtain ⟨k1, n1, s1, h1, h2⟩ := ih hs
    exact ⟨k1 + 1, n1, s1, .leave a b c d e f h1, h2⟩
/-- a run that is refused at the row to which it comes -/
theorem Rch.runsX {rs : List Rc} {t : Rn} {r : Rc} {x : Xr} (h : Rch rs rn0 t) (hr : rs[t.row]? = some r) (np : r.plain = true) (d : Dn rs t (.error x)) : Runs rs (.error x) := by
  have ne : ¬ AtEnd rs t := fun z => by
    have := (List.getElem?_eq_some_iff.mp hr).1
    have := z.2
    omega
  exact h.runA (.row ne hr np) (.err ne hr d)
theorem Rch.runs {rs : List Rc} {t t' : Rn} {k : Nat} (h : Rch rs rn0 t) (hs : Stl rs k t t') (he : AtEnd rs t') : Runs rs (.ok t') := h.run hs he
theorem Rch.runsE {rs : List Rc} {t : Rn} (h : Rch rs rn0 t) (he : AtEnd rs t) : Runs rs (.ok t) := h.runs (.fin he) he
/-- one plain row -/
theorem Rch.one {rs : List Rc} {s t : Rn} {r : Rc} (h : rs[s.row]? = some r) (np : r.plain = true) (hm : s.many < 2000) (hs : r.isStep = true → s.made.length < 100) (fit : Fit s r) (hc : ∀ l n, r = .call l n → lookP rs l ≠ none) (de : deedR rs s r = .ok t) : Rch rs s (aftR r t) := by
  refine .act (fun z => ?_) h np (by omega) (fun z => by have := hs z; omega) fit hc de (.refl _)
  have := (List.getElem?_eq_some_iff.mp h).1
  have := z.2
  omega
/-! ### places over one bottom -/
def InD (D M : Nat) (p : Rat × Rat) : Prop := ∃ a b : Int, p.1 = Rat.divInt a D ∧ p.2 = Rat.divInt b D ∧ a.natAbs ≤ M ∧ b.natAbs ≤ M
theorem InD.bc {D M n : Nat} {p : Rat × Rat} (h : InD D M p) (h0 : 0 < D) (hD : D < 2 ^ n) (hM : M < 2 ^ n) : Bc n p := by
  obtain ⟨a, b, h1, h2, h3, h4⟩ := h
  exact ⟨a, b, D, by omega, h1, h2, by omega, by omega, by omega⟩
theorem InD.mono {D M M' : Nat} {p : Rat × Rat} (h : InD D M p) (e : M ≤ M') : InD D M' p := by
  obtain ⟨a, b, h1, h2, h3, h4⟩ := h
  exact ⟨a, b, h1, h2, by omega, by omega⟩
theorem InD.zero {D : Nat} : InD D 0 (0, 0) := ⟨0, 0, by rw [Rat.zero_divInt], by rw [Rat.zero_divInt], by decide, by decide⟩
theorem InD.add {D M M' : Nat} {p q : Rat × Rat} (hD : 0 < D) (h : InD D M p) (k : InD D M' q) : InD D (M + M') (p.1 + q.1, p.2 + q.2) := by
  obtain ⟨a, b, h1, h2, h3, h4⟩ := h
  obtain ⟨c, d, k1, k2, k3, k4⟩ := k
  have hd : (D : Int) ≠ 0 := by omega
  have e : ∀ x y : Int, Rat.divInt x D + Rat.divInt y D = Rat.divInt (x + y) D := fun x y => by
    rw [Rat.divInt_eq_div, Rat.divInt_eq_div, Rat.divInt_eq_div, Rat.intCast_add]
    grind
  refine ⟨a + c, b + d, ?_, ?_, by omega, by omega⟩
  · show p.1 + q.1 = _
    rw [h1, k1, e]
  · show p.2 + q.2 = _
    rw [h2, k2, e]
theorem InD.scale {D M k : Nat} {p : Rat × Rat} (h : InD D M p) (hk : 0 < k) (hD : 0 < D) : InD (D * k) (M * k) p := by
  obtain ⟨a, b, h1, h2, h3, h4⟩ := h
  have e : ∀ x : Int, Rat.divInt x D = Rat.divInt (x * k) ((D * k : Nat) : Int) := fun x => by
    rw [Int.natCast_mul, Rat.divInt_mul_right (by omega)]
  refine ⟨a * k, b * k, by rw [← e]; exact h1, by rw [← e]; exact h2, ?_, ?_⟩
  · rw [Int.natAbs_mul]; exact Nat.mul_le_mul h3 (by omega)
  · rw [Int.natAbs_mul]; exact Nat.mul_le_mul h4 (by omega)
end DR

/-! DXd: the fields of a caught exception. -/
namespace DL
open PySem PySem.Spec L2 PyProof.Rows
section
variable {X : Cx} {pos : Pos}
end
end DL

/-! DXe: an exception of one field is raised. -/
namespace DL
open PySem PySem.Spec L2 PyProof.Rows
section
variable {X : Cx} {Z : Ent} {ex : Xd → DSt → Prop} {pos : Pos} {t : DE} {e : Expr}
end
/-! ### the facts of such a class -/
end DL

/-! DXf: l.index(x) and l.count(x) of shared lists; try over a call with arguments of one's own. -/
namespace DL
open PySem PySem.Spec L2 PyProof.Rows
section
variable {X : Cx} {Z : Ent} {pos : Pos}
/-! ### methods of a shared list -/
end
/-! ### try over a call -/
end DL

/-! DWl: programs with one piece; no root of two. -/
namespace DR
open PySem PySem.Spec L2 DL DM SX
/-- the piece in a program -/
structure Pc20 (rs : List Rc) (inner : List Rc) (l : List Nat) (first : Nat) : Prop where
  at_ : ∀ i, i < inner.length → rs[first + i]? = inner[i]?
  en : rs[first + inner.length]? = some .end_
  lk : lookP rs l = some (first, first + inner.length)
/-! programs with one piece -/
def pc0 (l : List Nat) (inner : List Rc) : List Rc := .piece l :: (inner ++ [.end_])
theorem pc0_len (l : List Nat) (inner : List Rc) : (pc0 l inner).length = inner.length + 2 := by unfold pc0; simp
theorem sps_none {rs : List Rc} : ∀ {a : List Rc} (k : Nat), (∀ r ∈ a, r.isPiece = false) → spsFrom rs a k = []
  | [], _, _ => rfl
  | r :: a, k, h => by
    have h1 := h r (List.mem_cons_self ..)
    have ih := sps_none (rs := rs) (a := a) (k + 1) fun q m => h q (List.mem_cons_of_mem _ m)
    cases r <;> first | exact ih | cases h1
theorem find_end : ∀ {inner rest : List Rc}, (∀ r ∈ inner, r.isEnd = false) → (inner ++ (.end_ :: rest)).findIdx Rc.isEnd = inner.length
  | [], rest, _ => rfl
  | r :: inner, rest, h => by
    have h1 := h r (List.mem_cons_self ..)
    have ih := find_end (inner := inner) (rest := rest) fun q m => h q (List.mem_cons_of_mem _ m)
    rw [List.cons_append, List.findIdx_cons, h1, ih]
    rfl
theorem pc_gen {A B inner : List Rc} {l : List Nat} (hA : ∀ r ∈ A, r.isPiece = false) (hB : ∀ r ∈ B, r.isPiece = false) (hi : ∀ r ∈ inner, r.isPiece = false ∧ r.isEnd = false) : Pc20 (A ++ pc0 l inner ++ B) inner l (A.length + 1) := by
  have ed : (A ++ pc0 l inner ++ B).drop A.length = .piece l :: (inner ++ (.end_ :: B)) := by
    rw [List.append_assoc, List.drop_left]
    unfold pc0
    simp
  have eg : ∀ i, (A ++ pc0 l inner ++ B)[A.length + i]? = (Rc.piece l :: (inner ++ (.end_ :: B)))[i]? := fun i => by rw [← List.getElem?_drop, ed]
  have ee : endAt (A ++ pc0 l inner ++ B) A.length = A.length + 1 + inner.length := by
    unfold endAt
    rw [ed, List.findIdx_cons, find_end fun r m => (hi r m).2]
    show A.length + (inner.length + 1) = _
    omega
  refine ⟨fun i h => ?_, ?_, ?_⟩
  · rw [show A.length + 1 + i = A.length + (i + 1) by omega, eg]
    show (inner ++ (.end_ :: B))[i]? = _
    rw [List.getElem?_append_left h]
  · rw [show A.length + 1 + inner.length = A.length + (inner.length + 1) by omega, eg]
    show (inner ++ (.end_ :: B))[inner.length]? = _
    rw [List.getElem?_append_right (Nat.le_refl _), Nat.sub_self]
    rfl
  · unfold lookP sps
    rw [sps_app, sps_app, sps_none 0 hA, sps_none _ hB, List.nil_append, List.append_nil]
    have e2 : spsFrom (A ++ pc0 l inner ++ B) (pc0 l inner) (0 + A.length) = [(l, A.length + 1, A.length + 1 + inner.length)] := by
      unfold pc0
      show (l, 0 + A.length + 1, endAt _ (0 + A.length)) :: spsFrom _ (inner ++ [.end_]) _ = _
      rw [Nat.zero_add]
      have := ee
      unfold pc0 at this
      rw [this, sps_none _ fun r m => by
        rcases List.mem_append.mp m with z | z
        · exact (hi r z).1
        · rw [List.mem_singleton.mp z]; rfl]
    rw [e2]
    simp
theorem pr_gen {A B inner : List Rc} {l : List Nat} (hl : NameOk l) (hA : ∀ r ∈ A, RcW r ∧ r.plain = true) (hB : ∀ r ∈ B, RcW r ∧ r.plain = true) (hi : ∀ r ∈ inner, RcW r ∧ r.plain = true) (hc : ∀ r ∈ A ++ inner ++ B, ∀ q n, r = .call q n → q = l) (len : A.length + inner.length + B.length ≤ 78) : PrOk ((A ++ pc0 l inner ++ B).map Rc.w) := by
  have pl : ∀ {a : List Rc}, (∀ r ∈ a, RcW r ∧ r.plain = true) → ∀ r ∈ a.map Rc.w, r.w ≠ .piece ∧ r.w ≠ .end_ := fun h r m => by
    obtain ⟨c, mc, rfl⟩ := List.mem_map.mp m
    exact w_kind (h c mc).2
  have mem : ∀ r ∈ A ++ pc0 l inner ++ B, (r ∈ A ++ inner ++ B ∧ RcW r) ∨ r = .piece l ∨ r = .end_ := fun r m => by
    unfold pc0 at m
    simp only [List.mem_append, List.mem_cons, List.not_mem_nil, or_false] at m
    rcases m with (m | m | m | m) | m
    · exact .inl ⟨by simp [m], (hA r m).1⟩
    · exact .inr (.inl m)
    · exact .inl ⟨by simp [m], (hi r m).1⟩
    · exact .inr (.inr m)
    · exact .inl ⟨by simp [m], (hB r m).1⟩
  have em : (A ++ pc0 l inner ++ B).map Rc.w = A.map Rc.w ++ (pcR l :: (inner.map Rc.w ++ [enR])) ++ B.map Rc.w := by
    unfold pc0
    simp [List.map_append]
    exact ⟨rfl, rfl⟩
  refine ⟨?_, fun r m => ?_, ?_, fun r m e => ?_⟩
  · rw [List.length_map, List.length_append, List.length_append, pc0_len]
    omega
  · obtain ⟨c, mc, rfl⟩ := List.mem_map.mp m
    rcases mem c mc with ⟨_, z⟩ | rfl | rfl
    · exact w_ok z
    · exact pc_ok hl
    · exact en_ok
  · rw [em]
    have hin := pl hi
    refine fits_of ?_ ?_
    · rw [runO_app, runO_app, runO_plain (pl hA)]
      show ((runO false (pcR l :: (inner.map Rc.w ++ [enR]))).bind fun o' => runO o' (B.map Rc.w)) = some false
      have : runO false (pcR l :: (inner.map Rc.w ++ [enR])) = some false := by
        rw [runO_cons, if_pos (show (pcR l).w = Wd.piece from rfl)]
        show runO true (inner.map Rc.w ++ [enR]) = some false
        rw [runO_app, runO_plain hin]
        rfl
      rw [this]
      exact runO_plain (pl hB)
    · rw [pnames_app, pnames_app, pnames_plain (pl hA), pnames_plain (pl hB)]
      have : pnames (pcR l :: (inner.map Rc.w ++ [enR])) = [l] := by
        rw [pnames_cons, if_pos (show (pcR l).w = Wd.piece from rfl), pnames_app, pnames_plain hin]
        rfl
      rw [this]
      simp
  · obtain ⟨c, mc, rfl⟩ := List.mem_map.mp m
    refine ⟨pcR l, by rw [em]; simp, rfl, ?_⟩
    rcases mem c mc with ⟨z, _⟩ | rfl | rfl
    · cases c with
      | call q n => rw [hc _ z q n rfl]; rfl
      | arc lf x y p q => cases lf <;> cases e
      | mode b => cases b <;> cases e
      | frame f => cases f <;> cases e
      | _ => cases e
    · cases e
    · cases e
def P0 : List Nat := [112]
theorem p0_ok : NameOk P0 := ⟨fun z => (nomatch z), by decide, by decide⟩
end DR

/-! DOa: the hand layer over shared data: growth of a heap, readings by data within hand-made proofs, targets that are fields, zip of a list and a shorter one. -/
namespace DL
open PySem PySem.Spec L2 PyProof.Rows
/-- from (Hs, H) on all that was there stands as it stood -/
structure Gro (Hs H Hs' H' : Hp) : Prop where
  s : Same Hs Hs'
  h : Same H H'
  sub : Same Hs' H'
  nw : ∀ b, Hs' b ≠ none → Hs b ≠ none ∨ H b = none
section
variable {K : Fg} {Hs H Hs' H' Hs2 H2 : Hp} {σ : L2.St} {δ : DSt}
theorem Gro.refl (e : Same Hs H) : Gro Hs H Hs H := ⟨Same.refl _, Same.refl _, e, fun _ n => .inl n⟩
theorem Gro.trans (a : Gro Hs H Hs' H') (b : Gro Hs' H' Hs2 H2) : Gro Hs H Hs2 H2 := ⟨a.s.trans b.s, a.h.trans b.h, b.sub, fun c n => by
  rcases b.nw c n with z | z
  · exact a.nw c z
  · exact .inr (a.h.free z)⟩
theorem Gro.of {δ' : DSt} {σ0 : L2.St} (C : Rl K (.at H Hs [] σ0) Hs' H' σ δ') : Gro Hs H Hs' H' := ⟨C.ext, fun b o e => C.fr b o e (fun z => nomatch z), C.sub, C.new⟩
/-- a new thing that isn't shared -/
theorem Gro.put (e : Same Hs H) {p : Addr} {o : HO} (h : H p = none) : Gro Hs H Hs (upd H p o) := ⟨Same.refl _, same_new h, e.trans (same_new h), fun _ n => .inl n⟩
/-- a new thing that is shared -/
theorem Gro.shr (e : Same Hs H) {p : Addr} {o : HO} (h : H p = none) : Gro Hs H (upd Hs p o) (upd H p o) := by
  refine ⟨same_new (e.free h), same_new h, fun b x q => ?_, fun b n => ?_⟩
  · by_cases hb : b = p
    · subst hb
      rw [upd_same] at q ⊢
      exact q
    · rw [upd_ne hb] at q ⊢
      exact e b x q
  · by_cases hb : b = p
    · subst hb
      exact .inr h
    · rw [upd_ne hb] at n
      exact .inl n
/-- slots that hold shared data -/
structure ShS (K : Fg) (Hs : Hp) (σ : L2.St) (δ : DSt) : Prop where
  len : σ.length = δ.length
  at_ : ∀ (i : Nat) (s : Sl), δ[i]? = some (some s) → ∃ d v, s = .sh d ∧ σ[i]? = some (some v) ∧ Dp K Hs v d
theorem ShS.up (h : ShS K Hs σ δ) (e : Same Hs Hs') : ShS K Hs' σ δ := ⟨h.len, fun i s q => by
  obtain ⟨d, v, e1, e2, e3⟩ := h.at_ i s q
  exact ⟨d, v, e1, e2, e3.up e⟩⟩
theorem ShS.nil (n : Nat) : ShS K Hs (List.replicate n none) (List.replicate n none) := ⟨by simp, fun i s q => by
  rw [List.getElem?_replicate] at q
  split at q <;> cases q⟩
theorem ShS.set (h : ShS K Hs σ δ) {i : Nat} {v : V} {d : PyData} (p : Dp K Hs v d) : ShS K Hs (σ.set i (some v)) (δ.set i (some (.sh d))) := by
  refine ⟨by rw [List.length_set, List.length_set, h.len], fun j s q => ?_⟩
  rcases get_set q with ⟨rfl, e⟩ | ⟨ne, q⟩
  · cases e
    have hj := set_lt q
    exact ⟨d, v, rfl, by rw [List.getElem?_set_self (by rw [h.len]; exact hj)], p⟩
  · obtain ⟨d, v, e1, e2, e3⟩ := h.at_ j s q
    exact ⟨d, v, e1, by rw [List.getElem?_set_ne ne]; exact e2, e3⟩
theorem ShS.get (h : ShS K Hs σ δ) {i : Nat} {d : PyData} (e : δ[i]? = some (some (.sh d))) : ∃ v, σ[i]? = some (some v) ∧ Dp K Hs v d := by
  obtain ⟨d', v, e1, e2, e3⟩ := h.at_ i _ e
  cases e1
  exact ⟨v, e2, e3⟩
end
section
variable {X : Cx} {e : Expr} {pos : Pos}
end
end DL

/-! DOb: cuts by their headings; the tool led beside them: joints, led cuts as objects. -/
namespace DR
open PySem PySem.Spec L2 DL DM SX
theorem _root_.DL.Bd2.up {m n : Nat} {p : Rat × Rat} (h : Bd2 m p) (e : m ≤ n) : Bd2 n p := ⟨h.1.mono e, h.2.mono e⟩
/-! ### cuts by their headings -/
def Stp.isLn : Stp → Bool
  | .line _ _ => true
  | _ => false
def Stp.isHop : Stp → Bool
  | .hop _ _ => true
  | _ => false
def CutH : Stp → Rat → Rat × Rat → Rat × Rat → Prop
  | .line b f, r, u, v => v = u ∧ f = (b.1 + u.1 * r, b.2 + u.2 * r)
  | .arc b f c w, r, u, v => (w = 1 ∨ w = -1) ∧ b = (c.1 + (w : Rat) * u.2 * r, c.2 - (w : Rat) * u.1 * r) ∧ f = (c.1 + (w : Rat) * v.2 * r, c.2 - (w : Rat) * v.1 * r)
  | .hop _ _, _, _, _ => False
def Stp.bd : Stp → Prop
  | .hop b f => Bd2 400 b ∧ Bd2 400 f
  | .line b f => Bd2 400 b ∧ Bd2 400 f
  | .arc b f c _ => Bd2 400 b ∧ Bd2 400 f ∧ Bd2 400 c
/-- a cut with its length or radius and its headings at its begin and its end -/
structure CutG (st : Stp) (r : Rat) (u v : Rat × Rat) : Prop where
  r0 : 0 < r
  u1 : dt u u = 1
  v1 : dt v v = 1
  h : CutH st r u v
  bd : st.bd
  rb : Bd 40 r
  ub : Bd2 40 u
  vb : Bd2 40 v
theorem w_sq1 {w : Int} (h : w = 1 ∨ w = -1) : (w : Rat) * w = 1 := by
  rcases h with rfl | rfl
  · show (1 : Rat) * 1 = 1
    exact Rat.mul_one 1
  · show ((-1 : Int) : Rat) * ((-1 : Int) : Rat) = 1
    rw [Rat.intCast_neg]
    show (-1 : Rat) * -1 = 1
    grind
theorem CutG.ne {st : Stp} {r : Rat} {u v : Rat × Rat} (h : CutG st r u v) : r ≠ 0 := fun z => by
  have := h.r0
  rw [z] at this
  exact absurd this (by decide)
theorem CutG.dist {st : Stp} {r : Rat} {u v : Rat × Rat} (h : CutG st r u v) : match st with
    | .line b f => rt ((b.1 - f.1) * (b.1 - f.1) + (b.2 - f.2) * (b.2 - f.2)) = some r
    | .arc b f c _ => rt ((c.1 - b.1) * (c.1 - b.1) + (c.2 - b.2) * (c.2 - b.2)) = some r ∧ rt ((c.1 - f.1) * (c.1 - f.1) + (c.2 - f.2) * (c.2 - f.2)) = some r
    | .hop _ _ => False := by
  have h1 := h.h
  have u1 := h.u1
  have v1 := h.v1
  have r0 := Rat.le_of_lt h.r0
  unfold dt at u1 v1
  cases st with
  | hop b f => exact h1
  | line b f =>
    obtain ⟨rfl, rfl⟩ := h1
    refine rt_of r0 ?_
    simp only
    grind
  | arc b f c w =>
    obtain ⟨hw, rfl, rfl⟩ := h1
    have hw2 := w_sq1 hw
    generalize (w : Rat) = z at *
    constructor
    · refine rt_of r0 ?_
      simp only
      grind
    · refine rt_of r0 ?_
      simp only
      grind
/-! ### promises -/
/-! ### joints -/
/-- 0 where they meet, 1 where the tool is without, 2 where it is within -/
def jkind (u v : Rat × Rat) (s : Rat) : Int := if cr u v = 0 then (if 0 < dt u v then 0 else 1) else if 0 < cr u v * s then 2 else 1
def backR (u v : Rat × Rat) (s : Rat) : Rat := s * ((1 - dt u v) / cr u v)
theorem jkind_two {u v : Rat × Rat} {s : Rat} (h : jkind u v s = 2) : cr u v ≠ 0 := fun z => by
  unfold jkind at h
  rw [if_pos z] at h
  split at h <;> cases h
theorem jkind_cases (u v : Rat × Rat) (s : Rat) : jkind u v s = 0 ∨ jkind u v s = 1 ∨ jkind u v s = 2 := by
  unfold jkind
  split
  · split
    · exact .inl rfl
    · exact .inr (.inl rfl)
  · split
    · exact .inr (.inr rfl)
    · exact .inr (.inl rfl)
theorem backR_bd {u v : Rat × Rat} {s : Rat} (h0 : cr u v ≠ 0) (hu : Bd2 40 u) (hv : Bd2 40 v) (hs : Bd 40 s) : Bd 370 (backR u v s) := by
  unfold backR
  have d : Bd 161 (dt u v) := (hu.1.mul hv.1).add (hu.2.mul hv.2)
  have c : Bd 161 (cr u v) := (hu.1.mul hv.2).sub (hu.2.mul hv.1)
  exact (hs.mul ((bd_one.sub d).div c h0)).mono (by decide)
/-! ### led cuts as objects -/
abbrev FSL : List Str := ["cut", "pace", "side", "number", "first", "last", "begin_back", "end_back", "is_unmet", "after"]
structure LR where
  dx : Addr
  st : Stp
  pace : Int
  side : Rat
  n : Nat
  u : Rat × Rat
  v : Rat × Rat
  bb : Rat
  eb : Rat
  um : Bool
  af : Option Addr
def afD : Option Addr → PyData
  | none => .none
  | some b => adrD b
def LR.ds (l : LR) : List PyData := [l.st.d, .int l.pace, numD l.side, .int (l.n : Int), plD l.u, plD l.v, numD l.bb, numD l.eb, .bool l.um, afD l.af]
structure LdAt (K : Fg) (Hs H : Hp) (a : Addr) (l : LR) : Prop where
  ow : H l.dx = some (.own a)
  ins : ∃ vs, H a = some (.ins (He.ga K "Led") l.dx (FSL.zip vs)) ∧ DL.DpAll K Hs vs l.ds
section
variable {K : Fg} {Hs H Hs' H' : Hp} {a : Addr} {l : LR}
theorem LdAt.up (h : LdAt K Hs H a l) (e : Same Hs Hs') (k : Same H H') : LdAt K Hs' H' a l := by
  obtain ⟨vs, h1, h2⟩ := h.ins
  exact ⟨k _ _ h.ow, vs, k _ _ h1, h2.up e⟩
theorem LdAt.gro (h : LdAt K Hs H a l) (g : Gro Hs H Hs' H') : LdAt K Hs' H' a l := h.up g.s g.h
theorem LdAt.ne (h : LdAt K Hs H a l) : a ≠ l.dx := fun z => by
  obtain ⟨vs, h1, _⟩ := h.ins
  have := h.ow
  rw [← z, h1] at this
  cases this
/-- no method stands among the fields -/
theorem LdAt.no (h : LdAt K Hs H a l) {m : Str} (hm : m ∉ FSL) : ∃ fs, H a = some (.ins (He.ga K "Led") l.dx fs) ∧ fs.lookup m = none := by
  obtain ⟨vs, h1, h2⟩ := h.ins
  exact ⟨_, h1, look_none hm⟩
/-- a field is given something else -/
theorem LdAt.put (h : LdAt K Hs H a l) (ha : Hs a = none) (n : Nat) {x : Str} {d : PyData} {w : V} {l' : LR} (hx : FSL[n]? = some x) (hn : x ∉ FSL.take n) (hw : DL.Dp K Hs w d) (e1 : l'.dx = l.dx) (e2 : l'.ds = l.ds.set n d) :
    ∃ fs, H a = some (.ins (He.ga K "Led") l.dx fs) ∧ fs.length < 1000 ∧ LdAt K Hs (upd H a (.ins (He.ga K "Led") l.dx (putF x w fs))) a l' := by
  obtain ⟨vs, h1, h2⟩ := h.ins
  have hl : FSL.length = vs.length := by rw [h2.len]; rfl
  refine ⟨_, h1, ?_, ?_, vs.set n w, ?_, by rw [e2]; exact h2.set hw n⟩
  · rw [List.length_zip, ← hl]
    decide
  · rw [e1, upd_ne h.ne.symm]
    exact h.ow
  · rw [e1, upd_same, putF_set hl hx hn]
end
/-! an object with its first fields -/
structure PlAt (K : Fg) (Hs H : Hp) (a dx : Addr) (k : Nat) (ds : List PyData) : Prop where
  ow : H dx = some (.own a)
  ln : ds.length = k
  ins : ∃ vs, H a = some (.ins (He.ga K "Led") dx ((FSL.take k).zip vs)) ∧ DL.DpAll K Hs vs ds
section
variable {K : Fg} {Hs H Hs' H' : Hp} {σ : L2.St} {a dx : Addr} {k i : Nat} {ds : List PyData}
theorem PlAt.ne (h : PlAt K Hs H a dx k ds) : a ≠ dx := fun z => by
  obtain ⟨vs, h1, _⟩ := h.ins
  have := h.ow
  rw [← z, h1] at this
  cases this
theorem PlAt.up (h : PlAt K Hs H a dx k ds) (e : Same Hs Hs') (g : Same H H') : PlAt K Hs' H' a dx k ds := by
  obtain ⟨vs, h1, h2⟩ := h.ins
  exact ⟨g _ _ h.ow, h.ln, vs, g _ _ h1, h2.up e⟩
theorem PlAt.put (h : PlAt K Hs H a dx k ds) (hk : k < 10) {x : Str} {d : PyData} {w : V} (hx : FSL.take (k + 1) = FSL.take k ++ [x]) (hn : x ∉ FSL.take k) (hw : DL.Dp K Hs w d) : ∃ fs, H a = some (.ins (He.ga K "Led") dx fs) ∧ fs.length < 1000 ∧ PlAt K Hs (upd H a (.ins (He.ga K "Led") dx (putF x w fs))) a dx (k + 1) (ds ++ [d]) := by
  obtain ⟨vs, h1, h2⟩ := h.ins
  have hl : (FSL.take k).length = vs.length := by
    rw [h2.len, h.ln, List.length_take]
    show min k 10 = k
    omega
  refine ⟨_, h1, ?_, ?_, ?_, vs ++ [w], ?_, h2.app (.cons hw .nil)⟩
  · rw [List.length_zip, ← hl, List.length_take]
    show min (min k 10) (min k 10) < 1000
    omega
  · rw [upd_ne h.ne.symm]
    exact h.ow
  · rw [List.length_append, h.ln]
    rfl
  · rw [upd_same, putF_new hl hn, hx]
end
/-- an object under way, and what stands beside it -/
structure MkAt (K : Fg) (Hs0 H0 Hs H : Hp) (a dx : Addr) (k : Nat) (ds : List PyData) : Prop where
  pl : PlAt K Hs H a dx k ds
  s : Same Hs0 Hs
  sub : Same Hs H
  na : Hs a = none
  kp : ∀ c o, H0 c = some o → c ≠ a → H c = some o
  nw : ∀ c, Hs c ≠ none → Hs0 c ≠ none ∨ H0 c = none
section
variable {K : Fg} {Hs0 H0 Hs H Hs' H' : Hp} {σ : L2.St} {a dx : Addr} {k i : Nat} {ds : List PyData}
theorem MkAt.gro (h : MkAt K Hs0 H0 Hs H a dx k ds) (ha : H0 a ≠ none) (g : Gro Hs H Hs' H') : MkAt K Hs0 H0 Hs' H' a dx k ds := by
  obtain ⟨vs, w, _⟩ := h.pl.ins
  have n : H a ≠ none := by rw [w]; exact fun z => nomatch z
  refine ⟨h.pl.up g.s g.h, h.s.trans g.s, g.sub, ?_, fun c o e ne => g.h c o (h.kp c o e ne), fun c z => ?_⟩
  · cases q : Hs' a with
    | none => rfl
    | some o =>
      rcases g.nw a (by rw [q]; exact fun z => nomatch z) with z | z
      · exact absurd h.na z
      · exact absurd z n
  · rcases g.nw c z with z | z
    · exact h.nw c z
    · by_cases e : c = a
      · rw [e] at z
        exact absurd z n
      · cases q : H0 c with
        | none => exact .inr rfl
        | some o =>
          rw [h.kp c o q e] at z
          cases z
theorem MkAt.put (h : MkAt K Hs0 H0 Hs H a dx k ds) {o : HO} {k' : Nat} {es : List PyData} (p : PlAt K Hs (upd H a o) a dx k' es) : MkAt K Hs0 H0 Hs (upd H a o) a dx k' es := by
  refine ⟨p, h.s, fun b x e => ?_, h.na, fun c o' e ne => by rw [upd_ne ne]; exact h.kp c o' e ne, h.nw⟩
  rw [upd_ne (ne_of_none e h.na)]
  exact h.sub b x e
end
/-! readings of the hand layer over led cuts -/
section
variable {K : Fg} {Hs H : Hp} {σ : L2.St} {δ : DSt} {a : Addr} {l : LR} {i : Nat}
/-- another one stands where one is changed -/
theorem LdAt.other {b : Addr} {lb : LR} {o : HO} (h : LdAt K Hs H a l) (k : LdAt K Hs H b lb) (e : a ≠ b) : LdAt K Hs (upd H a o) b lb := by
  obtain ⟨vs, h1, h2⟩ := k.ins
  obtain ⟨ws, g1, _⟩ := h.ins
  have n : lb.dx ≠ a := fun z => by
    have := k.ow
    rw [z, g1] at this
    cases this
  exact ⟨by rw [upd_ne n]; exact k.ow, vs, by rw [upd_ne e.symm]; exact h1, h2⟩
theorem LdAt.hs {Hs' H' : Hp} (h : LdAt K Hs H a l) (n : Hs a = none) (G : Gro Hs H Hs' H') : Hs' a = none := by
  cases q : Hs' a with
  | none => rfl
  | some o =>
    rcases G.nw a (by rw [q]; exact fun z => nomatch z) with z | z
    · exact absurd n z
    · obtain ⟨vs, w, _⟩ := h.ins
      rw [z] at w
      cases w
theorem same_put {o : HO} (sub : Same Hs H) (n : Hs a = none) : Same Hs (upd H a o) := fun b x e => by
  rw [upd_ne (ne_of_none e n)]
  exact sub b x e
end
/-- a led cut as it is made -/
def lr0 (dx : Addr) (e : Ey) (n : Nat) (u v : Rat × Rat) : LR := ⟨dx, e.st, e.pace, e.side, n, u, v, 0, 0, false, none⟩
/-- what a joint makes of both led cuts -/
def joinA (b : Addr) (la lb : LR) : LR :=
  if jkind la.v lb.u la.side = 1 then { la with af := some b }
  else if jkind la.v lb.u la.side = 2 then (if la.st.isLn && lb.st.isLn then { la with eb := backR la.v lb.u la.side } else { la with um := true }) else la
def joinB (la lb : LR) : LR := if jkind la.v lb.u la.side = 2 ∧ (la.st.isLn && lb.st.isLn) = true then { lb with bb := backR la.v lb.u la.side } else lb
structure LrOk (l : LR) : Prop where
  u : Bd2 40 l.u
  v : Bd2 40 l.v
  s : Bd 40 l.side
  nh : l.st.isHop = false
end DR

/-! DOc: the contours of a road: led cuts by their numbers, joined; the arena in which they are made. -/
namespace DL
open PySem PySem.Spec L2 PyProof.Rows
end DL
namespace DR
open PySem PySem.Spec L2 DL DM SX
/-- an entry with its length or radius and its headings -/
structure Ec where
  e : Ey
  r : Rat
  u : Rat × Rat
  v : Rat × Rat
def Ec.ok (c : Ec) : Prop := c.e.st.bd ∧ (c.e.st.isHop = false → CutG c.e.st c.r c.u c.v ∧ Bd 40 c.e.side)
def Ec.isLed (c : Ec) : Bool := !c.e.st.isHop && !(c.e.side == 0)
/-- a led cut by its number, as it is made -/
def L0 (es : List Ec) (n : Nat) : LR := match es[n]? with
  | some c => lr0 0 c.e n c.u c.v
  | none => ⟨0, .hop (0, 0) (0, 0), 0, 0, n, (0, 0), (0, 0), 0, 0, false, none⟩
/-- the contours, the last one first, of each its numbers, the last one first -/
def addN (es : List Ec) (f : List (List Nat)) (n : Nat) : List (List Nat) := match es[n]? with
  | none => f
  | some c => if c.isLed then (match f with
      | (m :: g) :: fs => if m + 1 < n ∨ (L0 es m).side ≠ c.e.side then [n] :: f else (n :: m :: g) :: fs
      | _ => [n] :: f) else f
def contN (es : List Ec) : Nat → List (List Nat)
  | 0 => []
  | k + 1 => addN es (contN es k) k
def jnL (L : Nat → LR) (i j : Nat) : Nat → LR := fun n => if n = j then (if i = j then joinA j (L i) (L j) else joinB (L i) (L j)) else if n = i then joinA j (L i) (L j) else L n
def rowL (L : Nat → LR) : List Nat → Nat → (Nat → LR)
  | _, 0 => L
  | c, k + 1 => jnL (rowL L c k) (c.getD k 0) (c.getD (k + 1) 0)
def isShut (es : List Ec) (c : List Nat) : Bool := decide ((L0 es (c.getLastD 0)).st.fin = (L0 es (c.headD 0)).st.beg)
def allL (es : List Ec) (L : Nat → LR) (c : List Nat) : Nat → LR := if isShut es c then jnL (rowL L c (c.length - 1)) (c.getLastD 0) (c.headD 0) else rowL L c (c.length - 1)
def contC (es : List Ec) : List (List Nat) := (contN es es.length).reverse.map List.reverse
def finL (es : List Ec) (k : Nat) : Nat → LR := ((contC es).take k).foldl (allL es) (L0 es)
def af2 : Option Nat → PyData
  | none => .none
  | some _ => anyD
def LR.d1 (l : LR) (a : PyData) : PyData := insD "Led" FSL [l.st.d, .int l.pace, numD l.side, .int (l.n : Int), plD l.u, plD l.v, numD l.bb, numD l.eb, .bool l.um, a]
def LR.at (l : LR) (as dx : Nat → Addr) : LR := { l with dx := dx l.n, af := l.af.map as }
/-- a led cut by its number in the arena -/
structure OneAt (K : Fg) (H0 Hs H : Hp) (as dx : Nat → Addr) (L : Nat → LR) (n : Nat) : Prop where
  ld : LdAt K Hs H (as n) ((L n).at as dx)
  hs : Hs (as n) = none
  h0 : H0 (as n) = none
  d0 : H0 (dx n) = none
  nn : (L n).n = n
/-- f: the contours, the last one first; each by its address and its numbers, the last one first -/
structure Ar (K : Fg) (H0 Hs H : Hp) (fa : Addr) (as dx : Nat → Addr) (L : Nat → LR) (f : List (Addr × List Nat)) : Prop where
  fd : H fa = some (.lst (f.reverse.map fun c => .ref c.1))
  fs : Hs fa = none
  f0 : H0 fa = none
  nf : ∀ c ∈ f, c.1 ≠ fa
  nd : (f.map (·.1)).Nodup
  ct : ∀ c ∈ f, H c.1 = some (.lst (c.2.reverse.map fun n => .ref (as n))) ∧ Hs c.1 = none ∧ H0 c.1 = none
  on : ∀ c ∈ f, ∀ n ∈ c.2, OneAt K H0 Hs H as dx L n
  inj : ∀ c ∈ f, ∀ d ∈ f, ∀ n ∈ c.2, ∀ m ∈ d.2, as n = as m → n = m
/-! ### how the arena stands and grows -/
section
variable {K : Fg} {Hs0 H0 Hs H Hs' H' : Hp} {σ : L2.St} {fa a : Addr} {as dx : Nat → Addr} {L : Nat → LR} {f : List (Addr × List Nat)} {n : Nat}
theorem _root_.DL.Gro.hs (G : Gro Hs H Hs' H') {o : HO} (h : H a = some o) (e : Hs a = none) : Hs' a = none := by
  cases q : Hs' a with
  | none => rfl
  | some o' =>
    rcases G.nw a (by rw [q]; exact fun z => nomatch z) with z | z
    · exact absurd e z
    · rw [z] at h
      cases h
theorem _root_.DL.Gro.upd (G : Gro Hs0 H0 Hs H) {o : HO} (e : Hs a = none) (z : H0 a = none) : Gro Hs0 H0 Hs (upd H a o) := ⟨G.s, fun c x q => by
  rw [upd_ne (ne_of_none q z)]
  exact G.h c x q, same_put G.sub e, G.nw⟩
theorem OneAt.ins (h : OneAt K H0 Hs H as dx L n) : ∃ C d fs, H (as n) = some (.ins C d fs) := by
  obtain ⟨vs, w, _⟩ := h.ld.ins
  exact ⟨_, _, _, w⟩
theorem OneAt.gro (h : OneAt K H0 Hs H as dx L n) (G : Gro Hs H Hs' H') : OneAt K H0 Hs' H' as dx L n := by
  obtain ⟨C, d, fs, w⟩ := h.ins
  exact ⟨h.ld.gro G, G.hs w h.hs, h.h0, h.d0, h.nn⟩
theorem OneAt.own (h : OneAt K H0 Hs H as dx L n) : H (dx n) = some (.own (as n)) := by
  have := h.ld.ow
  rw [show ((L n).at as dx).dx = dx n by show dx (L n).n = dx n; rw [h.nn]] at this
  exact this
/-- a list beside it is changed -/
theorem OneAt.putL (h : OneAt K H0 Hs H as dx L n) {ys : List V} {o : HO} (e : H a = some (.lst ys)) : OneAt K H0 Hs (upd H a o) as dx L n := by
  obtain ⟨C, d, fs, w⟩ := h.ins
  have n1 : as n ≠ a := fun z => by rw [z, e] at w; cases w
  have n2 : ((L n).at as dx).dx ≠ a := fun z => by have := h.ld.ow; rw [z, e] at this; cases this
  obtain ⟨vs, w1, w2⟩ := h.ld.ins
  exact ⟨⟨by rw [upd_ne n2]; exact h.ld.ow, vs, by rw [upd_ne n1]; exact w1, w2⟩, h.hs, h.h0, h.d0, h.nn⟩
theorem Ar.gro (h : Ar K H0 Hs H fa as dx L f) (G : Gro Hs H Hs' H') : Ar K H0 Hs' H' fa as dx L f :=
  ⟨G.h _ _ h.fd, G.hs h.fd h.fs, h.f0, h.nf, h.nd, fun c m => ⟨G.h _ _ (h.ct c m).1, G.hs (h.ct c m).1 (h.ct c m).2.1, (h.ct c m).2.2⟩, fun c m n z => (h.on c m n z).gro G, h.inj⟩
theorem Ar.start {p : Addr} (sub : Same Hs H) (h : H p = none) : Ar K H Hs (upd H p (.lst [])) p as dx L [] := by
  exact ⟨by rw [upd_same]; rfl, sub.free h, h, fun c m => (nomatch m), .nil, fun c m => (nomatch m), fun c m => (nomatch m), fun c m => (nomatch m)⟩
/-- a new contour -/
theorem Ar.new (h : Ar K H0 Hs H fa as dx L f) (sub : Same Hs H) (k0 : Same H0 H) {p : Addr} (hp : H p = none) : Ar K H0 Hs (upd (upd H p (.lst [])) fa (.lst (f.reverse.map (fun c => .ref c.1) ++ [.ref p]))) fa as dx L ((p, []) :: f) := by
  have pf : p ≠ fa := fun z => by rw [z, h.fd] at hp; cases hp
  have np : ∀ c ∈ f, c.1 ≠ p := fun c m z => by have := (h.ct c m).1; rw [z, hp] at this; cases this
  have G : Gro Hs H Hs (upd H p (.lst [])) := Gro.put sub hp
  refine ⟨?_, h.fs, h.f0, ?_, ?_, ?_, ?_, ?_⟩
  · rw [upd_same]
    simp
  · intro c m
    rcases List.mem_cons.mp m with rfl | m
    · exact pf
    · exact h.nf c m
  · refine List.nodup_cons.mpr ⟨fun z => ?_, h.nd⟩
    obtain ⟨c, m, e⟩ := List.mem_map.mp z
    exact np c m e
  · intro c m
    rcases List.mem_cons.mp m with rfl | m
    · exact ⟨by rw [upd_ne pf, upd_same]; rfl, sub.free hp, k0.free hp⟩
    · obtain ⟨c1, c2, c3⟩ := h.ct c m
      exact ⟨by rw [upd_ne (h.nf c m), upd_ne (np c m)]; exact c1, c2, c3⟩
  · intro c m n z
    rcases List.mem_cons.mp m with rfl | m
    · cases z
    · exact ((h.on c m n z).gro G).putL (G.h _ _ h.fd)
  · intro c m d m' n z n' z'
    rcases List.mem_cons.mp m with rfl | m
    · cases z
    rcases List.mem_cons.mp m' with rfl | m'
    · cases z'
    exact h.inj c m d m' n z n' z'
/-- a new led cut in the last contour -/
theorem Ar.push {ca : Addr} {g : List Nat} {k : Nat} {as' dx' : Nat → Addr} (h : Ar K H0 Hs H fa as dx L ((ca, g) :: f)) (ha : ∀ c ∈ (ca, g) :: f, ∀ n ∈ c.2, OneAt K H0 Hs H as' dx' L n ∧ as' n = as n ∧ as n ≠ as' k) (h1 : OneAt K H0 Hs H as' dx' L k) : Ar K H0 Hs (upd H ca (.lst (g.reverse.map (fun n => .ref (as n)) ++ [.ref (as' k)]))) fa as' dx' L ((ca, k :: g) :: f) := by
  have hm : (ca, g) ∈ (ca, g) :: f := List.mem_cons_self
  obtain ⟨c1, c2, c3⟩ := h.ct _ hm
  have nd := List.nodup_cons.mp h.nd
  have cf : fa ≠ ca := fun z => h.nf _ hm z.symm
  have nc : ∀ c ∈ f, c.1 ≠ ca := fun c m z => nd.1 (List.mem_map.mpr ⟨c, m, z⟩)
  have eq : ∀ l : List Nat, (∀ n ∈ l, as' n = as n) → l.reverse.map (fun n => V.ref (as n)) = l.reverse.map (fun n => V.ref (as' n)) := fun l e => List.map_congr_left fun n m => by rw [e n (List.mem_reverse.mp m)]
  refine ⟨?_, h.fs, h.f0, ?_, ?_, ?_, ?_, ?_⟩
  · rw [upd_ne cf, h.fd]
    simp
  · intro c m
    rcases List.mem_cons.mp m with rfl | m
    · exact h.nf (ca, g) hm
    · exact h.nf c (List.mem_cons_of_mem _ m)
  · exact h.nd
  · intro c m
    rcases List.mem_cons.mp m with rfl | m
    · exact ⟨by rw [upd_same, eq g fun n z => (ha _ hm n z).2.1]; simp, c2, c3⟩
    · obtain ⟨d1, d2, d3⟩ := h.ct c (List.mem_cons_of_mem _ m)
      exact ⟨by rw [upd_ne (nc c m), d1, eq c.2 fun n z => (ha _ (List.mem_cons_of_mem _ m) n z).2.1], d2, d3⟩
  · intro c m n z
    rcases List.mem_cons.mp m with rfl | m
    · rcases List.mem_cons.mp z with rfl | z
      · exact h1.putL c1
      · exact (ha _ hm n z).1.putL c1
    · exact (ha _ (List.mem_cons_of_mem _ m) n z).1.putL c1
  · have old : ∀ c ∈ (ca, k :: g) :: f, ∀ n ∈ c.2, n = k ∨ ∃ d ∈ (ca, g) :: f, n ∈ d.2 := by
      intro c m n z
      rcases List.mem_cons.mp m with rfl | m
      · rcases List.mem_cons.mp z with rfl | z
        · exact .inl rfl
        · exact .inr ⟨_, hm, z⟩
      · exact .inr ⟨c, List.mem_cons_of_mem _ m, z⟩
    intro c m d m' n z n' z' e
    rcases old c m n z with rfl | ⟨d1, e1, e2⟩
    · rcases old d m' n' z' with rfl | ⟨d2, e3, e4⟩
      · rfl
      · obtain ⟨_, q1, q2⟩ := ha _ e3 _ e4
        rw [q1] at e
        exact absurd e.symm q2
    · obtain ⟨_, q1, q2⟩ := ha _ e1 _ e2
      rcases old d m' n' z' with rfl | ⟨d2, e3, e4⟩
      · rw [q1] at e
        exact absurd e q2
      · obtain ⟨_, q3, q4⟩ := ha _ e3 _ e4
        rw [q1, q3] at e
        exact h.inj _ e1 _ e3 _ e2 _ e4 e
/-! ### readings -/
end
/-! ### the numbers -/
theorem contN_in (es : List Ec) : ∀ k, ∀ c ∈ contN es k, c ≠ [] ∧ ∀ n ∈ c, n < k ∧ ∃ e, es[n]? = some e ∧ e.isLed = true
  | 0, c, m => nomatch m
  | k + 1, c, m => by
    have ih := contN_in es k
    have up : ∀ c ∈ contN es k, c ≠ [] ∧ ∀ n ∈ c, n < k + 1 ∧ ∃ e, es[n]? = some e ∧ e.isLed = true := fun c m => ⟨(ih c m).1, fun n z => ⟨by have := ((ih c m).2 n z).1; omega, ((ih c m).2 n z).2⟩⟩
    have m : c ∈ addN es (contN es k) k := m
    unfold addN at m
    split at m
    · exact up c m
    · rename_i e he
      split at m
      · rename_i hl
        have one : ∀ n, n = k → n < k + 1 ∧ ∃ e, es[n]? = some e ∧ e.isLed = true := fun n z => by subst z; exact ⟨by omega, e, he, hl⟩
        split at m
        · rename_i x g fs hx
          split at m
          · rcases List.mem_cons.mp m with rfl | m
            · exact ⟨fun z => (nomatch z), fun n z => one n (List.mem_singleton.mp z)⟩
            · exact up c m
          · rcases List.mem_cons.mp m with rfl | m
            · refine ⟨fun z => (nomatch z), fun n z => ?_⟩
              rcases List.mem_cons.mp z with rfl | z
              · exact one _ rfl
              · exact (up _ (by rw [hx]; exact List.mem_cons_self)).2 n z
            · exact up c (by rw [hx]; exact List.mem_cons_of_mem _ m)
        · rcases List.mem_cons.mp m with rfl | m
          · exact ⟨fun z => (nomatch z), fun n z => one n (List.mem_singleton.mp z)⟩
          · exact up c m
      · exact up c m
section
variable {K : Fg} {Hs0 H0 Hs H Hs' H' : Hp} {σ : L2.St} {fa a : Addr} {as dx : Nat → Addr} {L : Nat → LR} {f : List (Addr × List Nat)} {n : Nat}
/-! ### joining -/
structure SameL (l m : LR) : Prop where
  st : l.st = m.st
  u : l.u = m.u
  v : l.v = m.v
  side : l.side = m.side
  n : l.n = m.n
  pace : l.pace = m.pace
theorem SameL.refl (l : LR) : SameL l l := ⟨rfl, rfl, rfl, rfl, rfl, rfl⟩
theorem sameA {b : Addr} {la lb : LR} : SameL (joinA b la lb) la := by
  unfold joinA
  split
  · exact ⟨rfl, rfl, rfl, rfl, rfl, rfl⟩
  · split
    · split <;> exact ⟨rfl, rfl, rfl, rfl, rfl, rfl⟩
    · exact ⟨rfl, rfl, rfl, rfl, rfl, rfl⟩
theorem sameB {la lb : LR} : SameL (joinB la lb) lb := by
  unfold joinB
  split <;> exact ⟨rfl, rfl, rfl, rfl, rfl, rfl⟩
theorem SameL.trans {a b c : LR} (h : SameL a b) (k : SameL b c) : SameL a c := ⟨h.1.trans k.1, h.2.trans k.2, h.3.trans k.3, h.4.trans k.4, h.5.trans k.5, h.6.trans k.6⟩
theorem same_jnL {L : Nat → LR} {i j : Nat} (n : Nat) : SameL (jnL L i j n) (L n) := by
  unfold jnL
  split
  · rename_i h
    subst h
    split
    · rename_i h
      subst h
      exact sameA
    · exact sameB
  · split
    · rename_i h
      subst h
      exact sameA
    · exact .refl _
/-! ### at the end the arena is shared -/
def AfIn (f : List (Addr × List Nat)) (L : Nat → LR) : Prop := ∀ n m, (L n).af = some m → ∃ d ∈ f, m ∈ d.2
theorem af_joinA {f : List (Addr × List Nat)} {la lb : LR} {j : Nat} (h : ∀ m, la.af = some m → ∃ d ∈ f, m ∈ d.2) (hj : ∃ d ∈ f, j ∈ d.2) : ∀ m, (joinA j la lb).af = some m → ∃ d ∈ f, m ∈ d.2 := by
  intro m e
  unfold joinA at e
  split at e
  · cases e
    exact hj
  · split at e
    · split at e <;> exact h m e
    · exact h m e
theorem AfIn.jn {i j : Nat} (h : AfIn f L) (hj : ∃ d ∈ f, j ∈ d.2) : AfIn f (jnL L i j) := by
  intro n m e
  unfold jnL at e
  split at e
  · rename_i hn
    split at e
    · exact af_joinA (h i) hj m e
    · have : (joinB (L i) (L j)).af = (L j).af := by unfold joinB; split <;> rfl
      rw [this] at e
      exact h j m e
  · split at e
    · exact af_joinA (h i) hj m e
    · exact h n m e
theorem lr_ok {es : List Ec} (hok : ∀ c ∈ es, c.ok) {n : Nat} {l : LR} (h : ∃ e, es[n]? = some e ∧ e.isLed = true) (s : SameL l (L0 es n)) : LrOk l := by
  obtain ⟨c, hc, hl⟩ := h
  have hh : c.e.st.isHop = false := by
    unfold Ec.isLed at hl
    cases e : c.e.st.isHop with
    | false => rfl
    | true => rw [e] at hl; cases hl
  obtain ⟨cg, sb⟩ := (hok c (List.mem_of_getElem? hc)).2 hh
  have e : L0 es n = lr0 0 c.e n c.u c.v := by unfold L0; rw [hc]
  rw [e] at s
  exact ⟨by rw [s.u]; exact cg.ub, by rw [s.v]; exact cg.vb, by rw [s.side]; exact sb, by rw [s.st]; exact hh⟩
end
end DR

/-! DVi: insert into a list of one's own. -/
namespace DL
open PySem PySem.Spec L2
section
variable {X : Cx} {Z : Ent} {pos : Pos}
end
end DL

namespace DM
/-! units of the first quarter -/
theorem sq_le {a b : Rat} (ha : 0 ≤ a) (hb : 0 ≤ b) : a ≤ b ↔ a * a ≤ b * b := by
  constructor
  · intro h
    have := Rat.mul_nonneg (show 0 ≤ b - a by grind) (show 0 ≤ b + a by grind)
    grind
  · intro h
    apply Classical.byContradiction
    intro z
    have := Rat.mul_pos (show 0 < a - b by grind) (show 0 < a + b by grind)
    grind
theorem sq_lt {a b : Rat} (ha : 0 ≤ a) (hb : 0 ≤ b) : a < b ↔ a * a < b * b := by
  have := sq_le hb ha
  grind
theorem qd_le {a b c d : Rat} (h1 : a * a + b * b = 1) (h2 : c * c + d * d = 1) (ha : 0 ≤ a) (hb : 0 ≤ b) (hc : 0 ≤ c) (hd : 0 ≤ d) : a ≤ c ↔ d ≤ b := by
  rw [sq_le ha hc, sq_le hd hb]
  grind
theorem qd_lt {a b c d : Rat} (h1 : a * a + b * b = 1) (h2 : c * c + d * d = 1) (ha : 0 ≤ a) (hb : 0 ≤ b) (hc : 0 ≤ c) (hd : 0 ≤ d) : a < c ↔ d < b := by
  rw [sq_lt ha hc, sq_lt hd hb]
  grind
/-- p ahead of e, e no later than x -/
theorem qd_chord {a b c d x y : Rat} (hp : a * a + b * b = 1) (he : c * c + d * d = 1) (hx : x * x + y * y = 1)
    (h1 : 0 ≤ a) (h2 : 0 ≤ b) (h3 : 0 ≤ c) (h4 : 0 ≤ d) (h5 : 0 ≤ x) (h6 : 0 ≤ y) (hpe : c < a) (hex : x ≤ c) :
    0 < a * d - b * c ∧ a * x + b * y ≤ a * c + b * d := by
  have e1 : b < d := (qd_lt he hp h3 h4 h1 h2).mp hpe
  have e2 : d ≤ y := (qd_le hx he h5 h6 h3 h4).mp hex
  have k1 := Rat.mul_pos (show 0 < a by grind) (show 0 < d - b by grind)
  have k2 := Rat.mul_nonneg h2 (show 0 ≤ a - c by grind)
  have k3 : 0 < a * d - b * c := by grind
  refine ⟨k3, ?_⟩
  have k4 := Rat.mul_nonneg (show 0 ≤ a by grind) (show 0 ≤ y - d by grind)
  have k5 := Rat.mul_nonneg h2 (show 0 ≤ c - x by grind)
  have k6 : 0 ≤ a * y - b * x := by grind
  have k7 := Rat.mul_nonneg (show 0 ≤ c - x by grind) (show 0 ≤ (a * y - b * x) + (a * d - b * c) by grind)
  have k8 : 0 < y + d := by grind
  have k9 : (y + d) * (a * c + b * d - (a * x + b * y)) = (c - x) * ((a * y - b * x) + (a * d - b * c)) := by
    have : y * y - d * d = c * c - x * x := by grind
    grind
  have := (mul_le_z k8).mp (by rw [k9]; exact k7)
  grind
/-! steps of half an angle -/
theorem nn_pos {n i : Int} (hn : 0 < n) : (0 : Rat) < (n : Rat) * n + (i : Rat) * i := by
  have h0 : (0 : Rat) < (n : Rat) := by
    rw [show (0 : Rat) = ((0 : Int) : Rat) from rfl]
    exact Rat.intCast_lt_intCast.mpr hn
  have := Rat.mul_pos h0 h0
  have := rsq_nn (i : Rat)
  grind
theorem hdc_eq {n i : Int} (hn : 0 < n) : ((n : Rat) * n + (i : Rat) * i) * hdc i n = (n : Rat) * n - (i : Rat) * i := by
  have h0 := nn_pos (i := i) hn
  unfold hdc
  rw [Rat.divInt_eq_div]
  simp only [Rat.intCast_sub, Rat.intCast_mul, Rat.intCast_add]
  grind
theorem hds_eq {n i : Int} (hn : 0 < n) : ((n : Rat) * n + (i : Rat) * i) * hds i n = 2 * ((i : Rat) * n) := by
  have h0 := nn_pos (i := i) hn
  unfold hds
  rw [Rat.divInt_eq_div]
  simp only [Rat.intCast_sub, Rat.intCast_mul, Rat.intCast_add]
  rw [show (((2 : Int) : Rat)) = 2 from rfl]
  grind
theorem hx_nn {n i : Int} (hn : 0 < n) (h0 : 0 ≤ i) (h1 : i ≤ n) : 0 ≤ hdc i n ∧ 0 ≤ hds i n := by
  have p := nn_pos (i := i) hn
  have hN : (0 : Rat) ≤ (n : Rat) := by
    rw [show (0 : Rat) = ((0 : Int) : Rat) from rfl]
    exact Rat.intCast_le_intCast.mpr (by omega)
  have hI : (0 : Rat) ≤ (i : Rat) := by
    rw [show (0 : Rat) = ((0 : Int) : Rat) from rfl]
    exact Rat.intCast_le_intCast.mpr (by omega)
  have hNI : (i : Rat) ≤ (n : Rat) := Rat.intCast_le_intCast.mpr h1
  refine ⟨(mul_le_z p).mp ?_, (mul_le_z p).mp ?_⟩
  · rw [hdc_eq hn]
    have := (sq_le hI hN).mp hNI
    grind
  · rw [hds_eq hn]
    have := Rat.mul_nonneg hI hN
    grind
theorem hx_z {n : Int} (hn : 0 < n) : hdc 0 n = 1 ∧ hds 0 n = 0 := by
  have p := nn_pos (i := 0) hn
  have e1 := hdc_eq (i := 0) hn
  have e2 := hds_eq (i := 0) hn
  rw [show (((0 : Int) : Rat)) = 0 from rfl] at *
  generalize (n : Rat) = N at *
  constructor
  · have : (N * N + 0 * 0) * (hdc 0 n - 1) = 0 := by grind
    have := (mul_eq_z p).mp this
    grind
  · have : (N * N + 0 * 0) * hds 0 n = 0 := by grind
    exact (mul_eq_z p).mp this
theorem hx_n {n : Int} (hn : 0 < n) : hdc n n = 0 ∧ hds n n = 1 := by
  have p := nn_pos (i := n) hn
  have e1 := hdc_eq (i := n) hn
  have e2 := hds_eq (i := n) hn
  constructor
  · exact (mul_eq_z p).mp (by rw [e1]; grind)
  · have : ((n : Rat) * n + (n : Rat) * n) * (hds n n - 1) = 0 := by grind
    have := (mul_eq_z p).mp this
    grind
theorem hx_dec {n i : Int} (hn : 0 < n) (h0 : 0 ≤ i) (h1 : i < n) : hdc (i + 1) n < hdc i n := by
  have p := nn_pos (i := i) hn
  have q := nn_pos (i := i + 1) hn
  have e1 := hdc_eq (i := i) hn
  have e2 := hdc_eq (i := i + 1) hn
  have hN : (0 : Rat) < (n : Rat) := by
    rw [show (0 : Rat) = ((0 : Int) : Rat) from rfl]
    exact Rat.intCast_lt_intCast.mpr (by omega)
  have hI : (0 : Rat) ≤ (i : Rat) := by
    rw [show (0 : Rat) = ((0 : Int) : Rat) from rfl]
    exact Rat.intCast_le_intCast.mpr (by omega)
  have hI1 : ((i + 1 : Int) : Rat) = (i : Rat) + 1 := by
    rw [Rat.intCast_add]
    rfl
  rw [hI1] at q e2
  generalize hdc (i + 1) n = x at *
  generalize hdc i n = y at *
  generalize (n : Rat) = N at *
  generalize (i : Rat) = I at *
  have h2 := Rat.mul_pos p q
  have h3 : ((N * N + I * I) * (N * N + (I + 1) * (I + 1))) * (x - y) = - (2 * (N * N) * (2 * I + 1)) := by grind
  have h4 := Rat.mul_pos (Rat.mul_pos hN hN) (show 0 < 2 * I + 1 by grind)
  have h5 := (mul_lt_z h2).mp (show ((N * N + I * I) * (N * N + (I + 1) * (I + 1))) * (x - y) < 0 by rw [h3]; grind)
  grind
theorem hx_dot {n i : Int} (hn : 0 < n) (h0 : 0 ≤ i) : 2 * ((n : Rat) * n) ≤ (1 + (hdc i n * hdc (i + 1) n + hds i n * hds (i + 1) n)) * (1 + (n : Rat) * n) := by
  have p := nn_pos (i := i) hn
  have q := nn_pos (i := i + 1) hn
  have e1 := hdc_eq (i := i) hn
  have e2 := hdc_eq (i := i + 1) hn
  have e3 := hds_eq (i := i) hn
  have e4 := hds_eq (i := i + 1) hn
  have hN : (0 : Rat) < (n : Rat) := by
    rw [show (0 : Rat) = ((0 : Int) : Rat) from rfl]
    exact Rat.intCast_lt_intCast.mpr (by omega)
  have hI : (0 : Rat) ≤ (i : Rat) := by
    rw [show (0 : Rat) = ((0 : Int) : Rat) from rfl]
    exact Rat.intCast_le_intCast.mpr (by omega)
  have hI1 : ((i + 1 : Int) : Rat) = (i : Rat) + 1 := by
    rw [Rat.intCast_add]
    rfl
  rw [hI1] at q e2 e4
  generalize hdc (i + 1) n = cx at *
  generalize hdc i n = cy at *
  generalize hds (i + 1) n = sx at *
  generalize hds i n = sy at *
  generalize (n : Rat) = N at *
  generalize (i : Rat) = I at *
  have h2 := Rat.mul_pos p q
  obtain ⟨D, hD⟩ : ∃ D, D = N * N + I * I := ⟨_, rfl⟩
  obtain ⟨E, hE⟩ : ∃ E, E = N * N + (I + 1) * (I + 1) := ⟨_, rfl⟩
  obtain ⟨X, hX⟩ : ∃ X, X = N * N + I * (I + 1) := ⟨_, rfl⟩
  rw [← hD] at p e1 e3 h2
  rw [← hE] at q e2 e4 h2
  have k1 : D * E = X * X + N * N := by grind
  have k2 : (D * E) * (1 + (cy * cx + sy * sx)) = 2 * (X * X) := by
    have : (D * E) * (1 + (cy * cx + sy * sx)) = D * E + (D * cy) * (E * cx) + (D * sy) * (E * sx) := by grind
    rw [this, e1, e2, e3, e4, k1]
    grind
  have hII := Rat.mul_nonneg hI (show 0 ≤ I + 1 by grind)
  have hNN := Rat.mul_pos hN hN
  have k3 : (N * N) * (N * N) ≤ X * X := (sq_le (by grind) (by grind)).mp (show N * N ≤ X by grind)
  have k4 : (D * E) * ((1 + (cy * cx + sy * sx)) * (1 + N * N) - 2 * (N * N)) = ((D * E) * (1 + (cy * cx + sy * sx))) * (1 + N * N) - 2 * (N * N) * (D * E) := by grind
  have k5 := (mul_le_z h2).mp (show 0 ≤ (D * E) * ((1 + (cy * cx + sy * sx)) * (1 + N * N) - 2 * (N * N)) by
    rw [k4, k2, k1]
    grind)
  grind
/-! marks of units -/
def U (u : Rat × Rat) : Prop := u.1 * u.1 + u.2 * u.2 = 1
def mkr (u : Rat × Rat) : Rat := if 0 ≤ u.2 then 1 - u.1 else 3 + u.1
theorem U.le {u : Rat × Rat} (h : U u) : -1 ≤ u.1 ∧ u.1 ≤ 1 := by
  unfold U at h
  have := rsq_nn u.2
  generalize u.1 = a at *
  generalize u.2 = b at *
  constructor
  · apply Classical.byContradiction
    intro z
    have := (sq_lt (a := 1) (b := -a) (by grind) (by grind)).mp (by grind)
    grind
  · apply Classical.byContradiction
    intro z
    have := (sq_lt (a := 1) (b := a) (by grind) (by grind)).mp (by grind)
    grind
theorem U.one {u : Rat × Rat} (h : U u) (e : u.2 = 0) : u.1 = 1 ∨ u.1 = -1 := by
  unfold U at h
  rw [e] at h
  exact sq_one (by grind)
theorem U.two {u : Rat × Rat} (h : U u) (e : u.1 = 1 ∨ u.1 = -1) : u.2 = 0 := by
  unfold U at h
  have : u.2 * u.2 = 0 := by rcases e with e | e <;> rw [e] at h <;> grind
  rcases Rat.mul_eq_zero.mp this with h | h <;> exact h
theorem mk_lt4 {u : Rat × Rat} (h : U u) : mkr u < 4 := by
  have h1 := h.le
  have h2 := h.two
  unfold mkr
  split
  · grind
  · have : u.1 ≠ 1 := fun e => by
      have := h2 (.inl e)
      grind
    grind
theorem mk_inj {u v : Rat × Rat} (h : U u) (k : U v) (e : mkr u = mkr v) : u = v := by
  have h1 := h.le
  have h2 := h.two
  have k1 := k.le
  have k2 := k.two
  unfold U at h k
  unfold mkr at e
  obtain ⟨a, b⟩ := u
  obtain ⟨c, d⟩ := v
  simp only at *
  by_cases z1 : 0 ≤ b <;> by_cases z2 : 0 ≤ d
  · rw [if_pos z1, if_pos z2] at e
    have e1 : a = c := by grind
    have e2 := (sq_le z1 z2).mpr (by grind)
    have e3 := (sq_le z2 z1).mpr (by grind)
    rw [e1, show b = d by grind]
  · rw [if_pos z1, if_neg z2] at e
    have : c = -1 := by grind
    have := k2 (.inr this)
    grind
  · rw [if_neg z1, if_pos z2] at e
    have : a = -1 := by grind
    have := h2 (.inr this)
    grind
  · rw [if_neg z1, if_neg z2] at e
    have e1 : a = c := by grind
    have e2 := (sq_le (a := -b) (b := -d) (by grind) (by grind)).mpr (by grind)
    have e3 := (sq_le (a := -d) (b := -b) (by grind) (by grind)).mpr (by grind)
    rw [e1, show b = d by grind]
theorem mk_pos {u : Rat × Rat} (h : U u) (e : u ≠ (1, 0)) : 0 < mkr u := by
  have h1 := h.le
  have h2 := h.two
  unfold mkr
  split
  · have : u.1 ≠ 1 := fun z => e (Prod.ext z (h2 (.inl z)))
    grind
  · grind
theorem mk_one : mkr (1, 0) = 0 := by
  unfold mkr
  rw [if_pos (by simp only; grind)]
  grind
/-- both in the first half -/
theorem up_iff {x y a b : Rat} (hx : x * x + y * y = 1) (he : a * a + b * b = 1) (h1 : 0 < y ∨ (y = 0 ∧ x = 1)) (h2 : 0 < b ∨ (b = 0 ∧ a = 1)) : 0 ≤ x * b - y * a ↔ a ≤ x := by
  have lx := U.le (u := (x, y)) hx
  have le := U.le (u := (a, b)) he
  simp only at lx le
  by_cases z : 0 < y + b
  · have e1 : (y + b) * (x * b - y * a) = (1 + (x * a + y * b)) * (x - a) := by grind
    have e2 : 0 < 1 + (x * a + y * b) := by
      have k1 : 2 * (1 + (x * a + y * b)) = (x + a) * (x + a) + (y + b) * (y + b) := by grind
      have := rsq_nn (x + a)
      have := Rat.mul_pos z z
      grind
    rw [← mul_le_z z, e1, mul_le_z e2]
    grind
  · have e1 : y = 0 := by grind
    have e2 : b = 0 := by grind
    have e3 : x = 1 := by grind
    have e4 : a = 1 := by grind
    rw [e1, e2, e3, e4]
    grind
theorem soon_mk {x e : Rat × Rat} (hx : U x) (he : U e) : soon x.2 x.1 e.2 e.1 (cr x e) = decide (mkr x ≤ mkr e) := by
  have lx := hx.le
  have le := he.le
  have ox := hx.one
  have oe := he.one
  have tx := hx.two
  have te := he.two
  unfold U at hx he
  unfold cr soon
  have bm : ∀ {u : Rat × Rat}, (u.2 = 0 → u.1 = 1 ∨ u.1 = -1) → (behind u.2 u.1 = true ∧ (u.2 < 0 ∨ (u.2 = 0 ∧ u.1 = -1))) ∨ (behind u.2 u.1 = false ∧ (0 < u.2 ∨ (u.2 = 0 ∧ u.1 = 1))) := by
    intro u ou
    by_cases z : u.2 < 0 ∨ (u.2 = 0 ∧ u.1 < 0)
    · refine .inl ⟨behind_iff.mpr z, ?_⟩
      grind
    · refine .inr ⟨behind_not z, ?_⟩
      grind
  have mb : ∀ {u : Rat × Rat}, (u.2 < 0 ∨ (u.2 = 0 ∧ u.1 = -1)) → mkr u = 3 + u.1 := by
    intro u h
    unfold mkr
    split <;> grind
  have mf : ∀ {u : Rat × Rat}, (0 < u.2 ∨ (u.2 = 0 ∧ u.1 = 1)) → mkr u = 1 - u.1 := by
    intro u h
    unfold mkr
    rw [if_pos (by grind)]
  rcases bm ox with ⟨b1, h1⟩ | ⟨b1, h1⟩ <;> rcases bm oe with ⟨b2, h2⟩ | ⟨b2, h2⟩
  · rw [b1, b2, if_pos rfl, mb h1, mb h2]
    have := up_iff (x := -x.1) (y := -x.2) (a := -e.1) (b := -e.2) (by grind) (by grind) (by grind) (by grind)
    refine decide_eq_decide.mpr ?_
    rw [show x.1 * e.2 - x.2 * e.1 = -x.1 * -e.2 - -x.2 * -e.1 by grind, this]
    grind
  · rw [b1, b2, if_neg (by decide), mb h1, mf h2]
    have : e.1 ≠ -1 := fun z => by
      have := te (.inr z)
      grind
    exact (decide_eq_false (by grind)).symm
  · rw [b1, b2, if_neg (by decide), mf h1, mb h2]
    have : x.1 ≠ -1 := fun z => by
      have := tx (.inr z)
      grind
    exact (decide_eq_true (by grind)).symm
  · rw [b1, b2, if_pos rfl, mf h1, mf h2]
    have := up_iff hx he h1 h2
    refine decide_eq_decide.mpr ?_
    rw [this]
    grind
/-! quarters -/
def qr : Nat → Rat × Rat → Rat × Rat
  | 0, p => p
  | q + 1, p => (-(qr q p).2, (qr q p).1)
theorem qr_in (q : Nat) (p : Rat × Rat) : qr (q + 1) p = qr q (-p.2, p.1) := by
  induction q with
  | zero => rfl
  | succ q ih => rw [qr, ih]; rfl
theorem qr_dt (q : Nat) (u v : Rat × Rat) : dt (qr q u) (qr q v) = dt u v := by
  induction q with
  | zero => rfl
  | succ q ih => rw [← ih]; simp only [qr, dt]; grind
theorem qr_cr (q : Nat) (u v : Rat × Rat) : cr (qr q u) (qr q v) = cr u v := by
  induction q with
  | zero => rfl
  | succ q ih => rw [← ih]; simp only [qr, cr]; grind
theorem qr_U {q : Nat} {u : Rat × Rat} (h : U u) : U (qr q u) := by
  have := qr_dt q u u
  unfold dt at this
  unfold U at *
  rw [this, h]
def mq : Nat → Rat × Rat → Rat
  | 0, u => 1 - u.1
  | 1, u => 1 + u.2
  | 2, u => 3 - u.1
  | _, u => 3 + u.2
theorem mkr_up {u : Rat × Rat} (h : 0 ≤ u.2) : mkr u = 1 - u.1 := by
  unfold mkr
  rw [if_pos h]
theorem mkr_dn {u : Rat × Rat} (h : u.2 < 0) : mkr u = 3 + u.1 := by
  unfold mkr
  rw [if_neg (by grind)]
theorem mkr_qr {q : Nat} {u : Rat × Rat} (hq : q < 4) (hu : U u) (h1 : 0 < u.1) (h2 : 0 ≤ u.2) : mkr (qr q u) = mq q u := by
  have hl := hu.le
  have ho := hu.one
  match q, hq with
  | 0, _ => exact mkr_up h2
  | 1, _ =>
    show mkr (-u.2, u.1) = 1 + u.2
    rw [mkr_up (by simp only; grind)]
    grind
  | 2, _ =>
    show mkr (-u.1, -u.2) = 3 - u.1
    by_cases z : u.2 = 0
    · rw [mkr_up (by simp only; grind)]
      grind
    · rw [mkr_dn (by simp only; grind)]
      grind
  | 3, _ =>
    show mkr (- -u.2, -u.1) = 3 + u.2
    rw [mkr_dn (by simp only; grind)]
    grind
theorem mq_lt {q : Nat} {p x : Rat × Rat} (h1 : x.1 < p.1) (h2 : p.2 < x.2) : mq q p < mq q x := by
  unfold mq
  split <;> grind
theorem mq_next {q : Nat} (hq : q < 3) : mq (q + 1) (1, 0) = mq q (0, 1) := by
  match q, hq with
  | 0, _ => simp only [mq]; grind
  | 1, _ => simp only [mq]; grind
  | 2, _ => simp only [mq]; grind
/-- an end between two marks of a quarter -/
theorem last_q {q : Nat} {p x e : Rat × Rat} {M : Rat} (hq : q < 4) (hp : U p) (hx : U x) (he : U e) (p1 : 0 < p.1) (p2 : 0 ≤ p.2) (x1 : 0 ≤ x.1) (x2 : 0 ≤ x.2) (hM : M = mkr e ∨ (M = 4 ∧ e = (1, 0)))
    (m1 : mq q p < M) (m2 : M ≤ mq q x) : ∃ f : Rat × Rat, U f ∧ 0 ≤ f.1 ∧ 0 ≤ f.2 ∧ e = qr q f ∧ f.1 < p.1 ∧ x.1 ≤ f.1 := by
  have lp := hp.le
  have lx := hx.le
  have le := he.le
  have te := he.two
  have x3 : x.2 ≤ 1 := (sq_le x2 (by grind)).mpr (by have := rsq_nn x.1; unfold U at hx; grind)
  have hM' : (0 ≤ e.2 ∧ M = 1 - e.1) ∨ (e.2 < 0 ∧ M = 3 + e.1) ∨ (M = 4 ∧ e.1 = 1 ∧ e.2 = 0) := by
    rcases hM with h | ⟨h, z⟩
    · unfold mkr at h
      by_cases z : 0 ≤ e.2
      · rw [if_pos z] at h
        exact .inl ⟨z, h⟩
      · rw [if_neg z] at h
        exact .inr (.inl ⟨by grind, h⟩)
    · exact .inr (.inr ⟨h, by rw [z], by rw [z]⟩)
  clear hM
  have key : ∀ (f : Rat × Rat), U f → 0 ≤ f.1 → 0 ≤ f.2 → ((f.1 < p.1 ∧ x.1 ≤ f.1) ∨ (p.2 < f.2 ∧ f.2 ≤ x.2)) → f.1 < p.1 ∧ x.1 ≤ f.1 := by
    intro f hf f1 f2 h
    rcases h with h | ⟨a, b⟩
    · exact h
    · exact ⟨(qd_lt hf hp f1 f2 (by grind) p2).mpr a, (qd_le hx hf x1 x2 f1 f2).mpr b⟩
  unfold U at *
  match q, hq with
  | 0, _ =>
    simp only [mq] at m1 m2
    have : 0 ≤ e.2 ∧ M = 1 - e.1 := by grind
    obtain ⟨a, b⟩ := this
    exact ⟨e, he, by grind, a, rfl, by grind, by grind⟩
  | 1, _ =>
    simp only [mq] at m1 m2
    have : 0 ≤ e.2 ∧ M = 1 - e.1 := by grind
    obtain ⟨a, b⟩ := this
    have k := key (e.2, -e.1) (by simp only; grind) (by simp only; grind) (by simp only; grind) (.inr (by simp only; grind))
    exact ⟨(e.2, -e.1), by simp only; grind, by simp only; grind, by simp only; grind, by simp only [qr]; rw [Rat.neg_neg], k.1, k.2⟩
  | 2, _ =>
    simp only [mq] at m1 m2
    have : e.2 < 0 ∧ M = 3 + e.1 := by grind
    obtain ⟨a, b⟩ := this
    exact ⟨(-e.1, -e.2), by simp only; grind, by simp only; grind, by simp only; grind, by simp only [qr]; rw [Rat.neg_neg, Rat.neg_neg], by simp only; grind, by simp only; grind⟩
  | 3, _ =>
    simp only [mq] at m1 m2
    have h3 : (e.2 < 0 ∧ M = 3 + e.1) ∨ (M = 4 ∧ e.1 = 1 ∧ e.2 = 0) := by grind
    have k := key (-e.2, e.1) (by simp only; grind) (by simp only; grind) (by simp only; grind) (.inr (by simp only; grind))
    exact ⟨(-e.2, e.1), by simp only; grind, by simp only; grind, by simp only; grind, by simp only [qr]; rw [Rat.neg_neg, Rat.neg_neg], k.1, k.2⟩
/-! the units of the parts -/
def hd (n i : Nat) : Rat × Rat := (hdc i n, hds i n)
def un (n t : Nat) : Rat × Rat := qr (t / n) (hd n (t % n))
theorem hd_U {n i : Nat} (hn : 0 < n) : U (hd n i) := hd_one (p := (i : Int)) (q := (n : Int)) (.inr (by omega))
theorem hd_zero {n : Nat} (hn : 0 < n) : hd n 0 = (1, 0) := by
  have := hx_z (n := n) (by omega)
  exact Prod.ext this.1 this.2
theorem hd_full {n : Nat} (hn : 0 < n) : hd n n = (0, 1) := by
  have := hx_n (n := n) (by omega)
  exact Prod.ext this.1 this.2
theorem un_zero {n : Nat} (hn : 0 < n) : un n 0 = (1, 0) := by
  unfold un
  rw [Nat.zero_div, Nat.zero_mod, hd_zero hn]
  rfl
theorem un_U {n t : Nat} (hn : 0 < n) : U (un n t) := qr_U (hd_U hn)
theorem un_at {n t : Nat} (hn : 0 < n) (ht : t < 4 * n) : ∃ (q : Nat) (p x : Rat × Rat), q < 4 ∧ U p ∧ U x ∧ 0 < p.1 ∧ 0 ≤ p.2 ∧ 0 ≤ x.1 ∧ 0 ≤ x.2 ∧ x.1 < p.1 ∧ un n t = qr q p ∧ un n (t + 1) = qr q x ∧
    mkr (un n t) = mq q p ∧ ((t + 1 < 4 * n ∧ mkr (un n (t + 1)) = mq q x) ∨ (t + 1 = 4 * n ∧ mq q x = 4 ∧ un n (t + 1) = (1, 0))) ∧ 2 * ((n : Rat) * n) ≤ (1 + dt p x) * (1 + (n : Rat) * n) := by
  have hq : t / n < 4 := (Nat.div_lt_iff_lt_mul hn).mpr (by omega)
  have hi : t % n < n := Nat.mod_lt _ hn
  have hl := hx_nn (n := n) (i := (t % n : Nat)) (by omega) (by omega) (by omega)
  have hl2 := hx_nn (n := n) (i := (t % n : Nat) + 1) (by omega) (by omega) (by omega)
  have hd1 := hx_dec (n := n) (i := (t % n : Nat)) (by omega) (by omega) (by omega)
  have hdt := hx_dot (n := n) (i := (t % n : Nat)) (by omega) (by omega)
  have p1 : 0 < (hd n (t % n)).1 := by
    show 0 < hdc (t % n : Nat) n
    grind
  have e0 : un n (t + 1) = qr (t / n) (hd n (t % n + 1)) ∧ ((t + 1 < 4 * n ∧ mkr (un n (t + 1)) = mq (t / n) (hd n (t % n + 1))) ∨ (t + 1 = 4 * n ∧ mq (t / n) (hd n (t % n + 1)) = 4 ∧ un n (t + 1) = (1, 0))) := by
    have hm := Nat.div_add_mod t n
    by_cases z : t % n + 1 < n
    · have a1 : (t + 1) / n = t / n := by
        rw [← hm, Nat.add_assoc, Nat.mul_add_div hn, Nat.mul_add_div hn, Nat.div_eq_of_lt hi, Nat.div_eq_of_lt z]
      have a2 : (t + 1) % n = t % n + 1 := by
        conv => lhs; rw [← hm, Nat.add_assoc, Nat.mul_add_mod, Nat.mod_eq_of_lt z]
      have a3 : un n (t + 1) = qr (t / n) (hd n (t % n + 1)) := by
        unfold un
        rw [a1, a2]
      have a4 : t + 1 < 4 * n := by
        have := Nat.mul_le_mul_right n (show t / n ≤ 3 by omega)
        rw [Nat.mul_comm] at hm
        omega
      refine ⟨a3, .inl ⟨a4, ?_⟩⟩
      rw [a3]
      refine mkr_qr hq (hd_U hn) ?_ hl2.2
      show 0 < hdc ((t % n + 1 : Nat) : Int) n
      have hd3 := hx_dec (n := n) (i := (t % n : Nat) + 1) (by omega) (by omega) (by omega)
      have hl3 := hx_nn (n := n) (i := (t % n : Nat) + 1 + 1) (by omega) (by omega) (by omega)
      rw [Int.natCast_add]
      show 0 < hdc (((t % n : Nat) : Int) + 1) n
      grind
    · have z2 : t % n + 1 = n := by omega
      have hm2 : t + 1 = n * (t / n + 1) := by
        rw [Nat.mul_add]
        omega
      have a1 : (t + 1) / n = t / n + 1 := by rw [hm2, Nat.mul_div_cancel_left _ hn]
      have a2 : (t + 1) % n = 0 := by rw [hm2, Nat.mul_mod_right]
      have a3 : un n (t + 1) = qr (t / n) (hd n (t % n + 1)) := by
        unfold un
        rw [a1, a2, z2, hd_zero hn, hd_full hn, qr_in]
        simp only [Rat.neg_zero]
      refine ⟨a3, ?_⟩
      by_cases y : t / n = 3
      · refine .inr ⟨by rw [hm2, y, Nat.mul_comm], ?_, ?_⟩
        · rw [z2, hd_full hn, y]
          simp only [mq]
          grind
        · rw [a3, z2, hd_full hn, y]
          simp only [qr]
          grind
      · refine .inl ⟨?_, ?_⟩
        · have := Nat.mul_le_mul_left n (show t / n + 1 ≤ 3 by omega)
          omega
        · unfold un
          rw [a1, a2, z2, hd_zero hn, hd_full hn, mkr_qr (by omega) (by unfold U; simp only; grind) (by simp only; grind) (by simp only; grind)]
          exact mq_next (by omega)
  refine ⟨t / n, hd n (t % n), hd n (t % n + 1), hq, hd_U hn, hd_U hn, p1, hl.2, hl2.1, hl2.2, hd1, rfl, e0.1, mkr_qr hq (hd_U hn) p1 hl.2, e0.2, hdt⟩
/-- less than half round, and near enough -/
def chd (n : Nat) (p e : Rat × Rat) : Prop := 0 < cr p e ∧ 2 * ((n : Rat) * n) ≤ (1 + dt p e) * (1 + (n : Rat) * n)
theorem chd_q {n q : Nat} {p e : Rat × Rat} : chd n (qr q p) (qr q e) ↔ chd n p e := by
  unfold chd
  rw [qr_cr, qr_dt]
theorem un_step {n t : Nat} (hn : 0 < n) (ht : t < 4 * n) : chd n (un n t) (un n (t + 1)) ∧ (t + 1 < 4 * n → mkr (un n t) < mkr (un n (t + 1))) := by
  obtain ⟨q, p, x, hq, hp, hx, p1, p2, x1, x2, hxp, e1, e2, e3, e4, e5⟩ := un_at hn ht
  have hpx := (qd_lt hx hp x1 x2 (by grind) p2).mp hxp
  have hch := qd_chord hp hx hx (by grind) p2 x1 x2 x1 x2 hxp (by grind)
  refine ⟨?_, fun h => ?_⟩
  · rw [e1, e2, chd_q]
    exact ⟨hch.1, e5⟩
  · rcases e4 with ⟨_, e4⟩ | ⟨z, _⟩
    · rw [e3, e4]
      exact mq_lt hxp hpx
    · omega
/-- where the parts stop -/
structure Stop (n m : Nat) (e : Rat × Rat) : Prop where
  n0 : 0 < n
  m0 : 0 < m
  m1 : m ≤ 4 * n
  u : U e
  on : ∀ t, 0 < t → t < m → un n t ≠ e ∧ (e = (1, 0) ∨ mkr (un n t) ≤ mkr e)
  off : m = 4 * n ∨ un n m = e ∨ ¬ (e = (1, 0) ∨ mkr (un n m) ≤ mkr e)
noncomputable def mke (e : Rat × Rat) : Rat := if e = (1, 0) then 4 else mkr e
theorem Stop.last {n m : Nat} {e : Rat × Rat} (h : Stop n m e) : mkr (un n (m - 1)) < mke e ∧ chd n (un n (m - 1)) e := by
  have h1 := h.m0
  have h2 := h.m1
  have hM : mke e = mkr e ∨ (mke e = 4 ∧ e = (1, 0)) := by
    unfold mke
    by_cases z : e = (1, 0)
    · rw [if_pos z]
      exact .inr ⟨rfl, z⟩
    · rw [if_neg z]
      exact .inl rfl
  have lt : mkr (un n (m - 1)) < mke e := by
    by_cases z : e = (1, 0)
    · unfold mke
      rw [if_pos z]
      exact mk_lt4 (un_U h.n0)
    · unfold mke
      rw [if_neg z]
      by_cases y : m - 1 = 0
      · rw [y, un_zero h.n0, mk_one]
        exact mk_pos h.u z
      · obtain ⟨a, b⟩ := h.on (m - 1) (by omega) (by omega)
        have b' : mkr (un n (m - 1)) ≤ mkr e := by
          rcases b with b | b
          · exact absurd b z
          · exact b
        have c : mkr (un n (m - 1)) ≠ mkr e := fun c => a (mk_inj (un_U h.n0) h.u c)
        grind
  refine ⟨lt, ?_⟩
  obtain ⟨q, p, x, hq, hp, hx, p1, p2, x1, x2, hxp, e1, e2, e3, e4, e5⟩ := un_at (t := m - 1) h.n0 (by omega)
  rw [show m - 1 + 1 = m by omega] at e2 e4
  by_cases z : un n m = e
  · have := (un_step (t := m - 1) h.n0 (by omega)).1
    rw [show m - 1 + 1 = m by omega, z] at this
    exact this
  have le : mke e ≤ mq q x := by
    rcases e4 with ⟨a, b⟩ | ⟨a, b, c⟩
    · rcases h.off with y | y | y
      · omega
      · exact absurd y z
      · have y1 : e ≠ (1, 0) := fun y1 => y (.inl y1)
        have y2 : ¬ mkr (un n m) ≤ mkr e := fun y1 => y (.inr y1)
        unfold mke
        rw [if_neg y1, ← b]
        grind
    · rw [b]
      unfold mke
      split
      · grind
      · have := mk_lt4 h.u
        grind
  rw [e3] at lt
  obtain ⟨f, f0, f1, f2, rfl, f3, f4⟩ := last_q hq hp hx h.u p1 p2 x1 x2 hM lt le
  rw [e1, chd_q]
  have hch := qd_chord hp f0 hx (by grind) p2 f1 f2 x1 x2 f3 f4
  refine ⟨hch.1, ?_⟩
  have hN := rsq_nn (n : Rat)
  have := Rat.mul_nonneg (show 0 ≤ dt p f - dt p x by unfold dt; grind) (show 0 ≤ 1 + (n : Rat) * n by grind)
  grind
/-! spokes by units -/
def plc (a : Rat × Rat) (w : Int) (u : Rat × Rat) : Rat × Rat := (a.1 * u.1 - a.2 * (w * u.2), a.1 * (w * u.2) + a.2 * u.1)
theorem plc_dt {a : Rat × Rat} {w : Int} (hw : w = 1 ∨ w = -1) (u v : Rat × Rat) : dt (plc a w u) (plc a w v) = dt a a * dt u v := by
  have := w_sq hw
  unfold plc dt
  simp only
  generalize (w : Rat) = W at *
  grind
theorem plc_cr {a : Rat × Rat} {w : Int} (hw : w = 1 ∨ w = -1) (u v : Rat × Rat) : cr (plc a w u) (plc a w v) * w = dt a a * cr u v := by
  have := w_sq hw
  unfold plc dt cr
  simp only
  generalize (w : Rat) = W at *
  grind
theorem plc_one (a : Rat × Rat) (w : Int) : plc a w (1, 0) = a := Prod.ext (by simp only [plc]; grind) (by simp only [plc]; grind)
theorem plc_dt1 {a : Rat × Rat} {w : Int} (hw : w = 1 ∨ w = -1) (u : Rat × Rat) : dt a (plc a w u) = dt a a * u.1 := by
  have := plc_dt (a := a) hw (1, 0) u
  rw [plc_one] at this
  rw [this]
  unfold dt
  simp only
  grind
theorem plc_cr1 {a : Rat × Rat} {w : Int} (hw : w = 1 ∨ w = -1) (u : Rat × Rat) : cr a (plc a w u) * w = dt a a * u.2 := by
  have := plc_cr (a := a) hw (1, 0) u
  rw [plc_one] at this
  rw [this]
  unfold cr
  simp only
  grind
theorem plc_ex {a b : Rat × Rat} {w : Int} (hw : w = 1 ∨ w = -1) (h0 : 0 < dt a a) (h : dt b b = dt a a) : ∃ e, U e ∧ b = plc a w e := by
  have ww := w_sq hw
  refine ⟨(dt a b / dt a a, w * (cr a b / dt a a)), ?_, ?_⟩
  · unfold U dt cr at *
    simp only
    generalize (w : Rat) = W at *
    have e : (a.1 * b.1 + a.2 * b.2) * (a.1 * b.1 + a.2 * b.2) + (a.1 * b.2 - a.2 * b.1) * (a.1 * b.2 - a.2 * b.1) = (a.1 * a.1 + a.2 * a.2) * (b.1 * b.1 + b.2 * b.2) := by grind
    rw [h] at e
    generalize a.1 * b.1 + a.2 * b.2 = X at *
    generalize a.1 * b.2 - a.2 * b.1 = Y at *
    generalize a.1 * a.1 + a.2 * a.2 = R at *
    have : X / R * (X / R) + W * (Y / R) * (W * (Y / R)) = X / R * (X / R) + (Y / R) * (Y / R) := by grind
    rw [this]
    grind
  · unfold plc
    simp only
    unfold dt cr at *
    generalize (w : Rat) = W at *
    refine Prod.ext ?_ ?_
    · simp only
      have : W * (W * ((a.1 * b.2 - a.2 * b.1) / (a.1 * a.1 + a.2 * a.2))) = (a.1 * b.2 - a.2 * b.1) / (a.1 * a.1 + a.2 * a.2) := by grind
      rw [this]
      grind
    · simp only
      have : W * (W * ((a.1 * b.2 - a.2 * b.1) / (a.1 * a.1 + a.2 * a.2))) = (a.1 * b.2 - a.2 * b.1) / (a.1 * a.1 + a.2 * a.2) := by grind
      rw [this]
      grind
theorem plc_inj {a u v : Rat × Rat} {w : Int} (hw : w = 1 ∨ w = -1) (h0 : 0 < dt a a) (h : plc a w u = plc a w v) : u = v := by
  have e1 := plc_dt1 (a := a) hw u
  have e2 := plc_cr1 (a := a) hw u
  rw [h, plc_dt1 hw v] at e1
  rw [h, plc_cr1 hw v] at e2
  refine Prod.ext ?_ ?_
  · have : dt a a * (v.1 - u.1) = 0 := by grind
    have := (mul_eq_z h0).mp this
    grind
  · have : dt a a * (v.2 - u.2) = 0 := by grind
    have := (mul_eq_z h0).mp this
    grind
/-! on the arc, by marks -/
theorem sb_dt (p q : Rat × Rat) : dt (sb2 p q) (sb2 p q) = dt (sb2 q p) (sb2 q p) := by
  unfold sb2 dt
  simp only
  grind
theorem onArc_mk {B E C P x e : Rat × Rat} {w : Int} (hw : w = 1 ∨ w = -1) (h0 : 0 < dt (sb2 B C) (sb2 B C)) (hx : U x) (he : U e) (hP : sb2 P C = plc (sb2 B C) w x) (hE : sb2 E C = plc (sb2 B C) w e) :
    onArc B E C w P = (decide (e = (1, 0)) || decide (mkr x ≤ mkr e)) := by
  have hb : decide (B = E) = decide (e = (1, 0)) := by
    refine decide_eq_decide.mpr ⟨fun h => ?_, fun h => ?_⟩
    · refine plc_inj hw h0 (w := w) ?_
      rw [← hE, plc_one, h]
    · rw [h, plc_one] at hE
      unfold sb2 at hE
      have e1 := (Prod.mk.inj hE).1
      have e2 := (Prod.mk.inj hE).2
      exact Prod.ext (by grind) (by grind)
  unfold onArc
  rw [hb, sb_dt C P, sb_dt C B, hP, hE, plc_dt hw, plc_cr1 hw, plc_cr1 hw, plc_dt1 hw, plc_dt1 hw, plc_cr hw, soon_mul h0, soon_mk hx he]
  have : dt x x = 1 := hx
  rw [this, show dt (sb2 B C) (sb2 B C) * 1 = dt (sb2 B C) (sb2 B C) by grind, decide_eq_true rfl, Bool.true_and]
/-- the law's mark -/
def mkp (B C : Rat × Rat) (w : Int) (P : Rat × Rat) : Rat := if 0 ≤ cr (sb2 B C) (sb2 P C) * w then 1 - dt (sb2 B C) (sb2 P C) / dt (sb2 B C) (sb2 B C) else 3 + dt (sb2 B C) (sb2 P C) / dt (sb2 B C) (sb2 B C)
theorem mkp_mk {B C P x : Rat × Rat} {w : Int} (hw : w = 1 ∨ w = -1) (h0 : 0 < dt (sb2 B C) (sb2 B C)) (hP : sb2 P C = plc (sb2 B C) w x) : mkp B C w P = mkr x := by
  unfold mkp mkr
  rw [hP, plc_cr1 hw, plc_dt1 hw]
  have e : dt (sb2 B C) (sb2 B C) * x.1 / dt (sb2 B C) (sb2 B C) = x.1 := by
    generalize dt (sb2 B C) (sb2 B C) = R at *
    grind
  rw [e]
  by_cases z : 0 ≤ x.2
  · rw [if_pos z, if_pos ((mul_le_z h0).mpr z)]
  · rw [if_neg z, if_neg (fun y => z ((mul_le_z h0).mp y))]
/-! the list told -/
def mid2 (f s : Rat × Rat) : Rat × Rat := ((f.1 + s.1) * (1 / 2), (f.2 + s.2) * (1 / 2))
/-- fine enough -/
def Fine (r m : Rat) (n : Nat) : Prop := m < r → (1 - m / r) * (1 - m / r) * (1 + (n : Rat) * n) ≤ (n : Rat) * n
def near (r m : Rat) (f s : Rat × Rat) : Prop := r - m ≤ 0 ∨ (r - m) * (r - m) ≤ dt (mid2 f s) (mid2 f s)
theorem near_of {a u v : Rat × Rat} {w : Int} {n : Nat} {r m : Rat} (hw : w = 1 ∨ w = -1) (hu : U u) (hv : U v) (hr : 0 < r) (hR : dt a a = r * r) (hf : Fine r m n) (h : chd n u v) : near r m (plc a w u) (plc a w v) := by
  by_cases z : r - m ≤ 0
  · exact .inl z
  right
  have h1 := hf (by grind)
  have h2 := h.2
  have hN := rsq_nn (n : Rat)
  have e1 := plc_dt (a := a) hw u u
  have e2 := plc_dt (a := a) hw u v
  have e3 := plc_dt (a := a) hw v v
  have hu' : dt u u = 1 := hu
  have hv' : dt v v = 1 := hv
  rw [hu', hR] at e1
  rw [hv', hR] at e3
  rw [hR] at e2
  have e4 : 4 * dt (mid2 (plc a w u) (plc a w v)) (mid2 (plc a w u) (plc a w v)) = 2 * (r * r) * (1 + dt u v) := by
    unfold dt mid2 at *
    simp only
    grind
  obtain ⟨s, hs⟩ : ∃ s, s = 1 - m / r := ⟨_, rfl⟩
  rw [← hs] at h1
  have e5 : r - m = r * s := by
    rw [hs]
    grind
  rw [e5]
  generalize dt (mid2 (plc a w u) (plc a w v)) (mid2 (plc a w u) (plc a w v)) = D at *
  generalize dt u v = d at *
  generalize (n : Rat) * n = N at *
  have k1 := Rat.mul_nonneg (show 0 ≤ r * r by exact rsq_nn r) (show 0 ≤ (1 + d) * (1 + N) - 2 * (s * s * (1 + N)) by grind)
  have k2 : 0 < 1 + N := by grind
  have k3 : (1 + N) * (2 * (2 * D - 2 * (r * s * (r * s)))) = 2 * (r * r * ((1 + d) * (1 + N) - 2 * (s * s * (1 + N)))) := by grind
  have := (mul_le_z k2).mp (by rw [k3]; grind)
  grind
def pt (B C : Rat × Rat) (w : Int) (n t : Nat) : Rat × Rat := ad2 C (plc (sb2 B C) w (un n t))
theorem pt_sb (B C : Rat × Rat) (w : Int) (n t : Nat) : sb2 (pt B C w n t) C = plc (sb2 B C) w (un n t) := Prod.ext (by simp only [pt, sb2, ad2]; grind) (by simp only [pt, sb2, ad2]; grind)
theorem pt_zero {B C : Rat × Rat} {w : Int} {n : Nat} (hn : 0 < n) : pt B C w n 0 = B := by
  unfold pt
  rw [un_zero hn, plc_one]
  exact Prod.ext (by simp only [sb2, ad2]; grind) (by simp only [sb2, ad2]; grind)
def chL (B E C : Rat × Rat) (w : Int) (n m : Nat) : List (Rat × Rat) := (List.range m).map (pt B C w n) ++ [E]
/-- where the program stops -/
structure StopP (B E C : Rat × Rat) (w : Int) (n m : Nat) : Prop where
  n0 : 0 < n
  m0 : 0 < m
  m1 : m ≤ 4 * n
  on : ∀ t, 0 < t → t < m → pt B C w n t ≠ E ∧ onArc B E C w (pt B C w n t) = true
  off : m = 4 * n ∨ pt B C w n m = E ∨ onArc B E C w (pt B C w n m) = false
theorem StopP.stop {B E C e : Rat × Rat} {w : Int} {n m : Nat} (h : StopP B E C w n m) (hw : w = 1 ∨ w = -1) (h0 : 0 < dt (sb2 B C) (sb2 B C)) (he : U e) (hE : sb2 E C = plc (sb2 B C) w e) : Stop n m e := by
  have eqE : ∀ t, pt B C w n t = E ↔ un n t = e := by
    intro t
    constructor
    · intro z
      refine plc_inj hw h0 (w := w) ?_
      rw [← pt_sb, z, hE]
    · intro z
      have h1 := pt_sb B C w n t
      rw [z, ← hE] at h1
      unfold sb2 at h1
      have e1 := (Prod.mk.inj h1).1
      have e2 := (Prod.mk.inj h1).2
      exact Prod.ext (by grind) (by grind)
  have on : ∀ t, onArc B E C w (pt B C w n t) = (decide (e = (1, 0)) || decide (mkr (un n t) ≤ mkr e)) := fun t => onArc_mk hw h0 (un_U h.n0) he (pt_sb ..) hE
  refine ⟨h.n0, h.m0, h.m1, he, fun t t0 t1 => ?_, ?_⟩
  · obtain ⟨a, b⟩ := h.on t t0 t1
    rw [on] at b
    exact ⟨fun z => a ((eqE t).mpr z), by simpa using b⟩
  · rcases h.off with a | a | a
    · exact .inl a
    · exact .inr (.inl ((eqE m).mp a))
    · rw [on] at a
      exact .inr (.inr (by simpa using a))
def mks (B E C : Rat × Rat) (w : Int) (L : List (Rat × Rat)) : List Rat := L.dropLast.map (mkp B C w) ++ [if B = E then 4 else mkp B C w E]
structure LawCh (B E C : Rat × Rat) (w : Int) (r m : Rat) (L : List (Rat × Rat)) : Prop where
  len : 2 ≤ L.length
  fst : L[0]? = some B
  last : L[L.length - 1]? = some E
  marks : ∀ j x y, (mks B E C w L)[j]? = some x → (mks B E C w L)[j + 1]? = some y → x < y
  sq : ∀ p ∈ L, dt (sb2 p C) (sb2 p C) = r * r
  ch : ∀ j x y, L[j]? = some x → L[j + 1]? = some y → 0 < cr (sb2 x C) (sb2 y C) * w ∧ near r m (sb2 x C) (sb2 y C)
theorem StopP.law {B E C : Rat × Rat} {w : Int} {n m : Nat} {r k : Rat} (h : StopP B E C w n m) (hw : w = 1 ∨ w = -1) (hr : 0 < r) (hB : dt (sb2 B C) (sb2 B C) = r * r) (hE : dt (sb2 E C) (sb2 E C) = r * r) (hf : Fine r k n) :
    LawCh B E C w r k (chL B E C w n m) := by
  have h0 : 0 < dt (sb2 B C) (sb2 B C) := by
    rw [hB]
    exact Rat.mul_pos hr hr
  obtain ⟨e, he, hE2⟩ := plc_ex hw h0 (by rw [hE, hB])
  have st := h.stop hw h0 he hE2
  have hm := h.m0
  have l := st.last
  have step : ∀ t, t < 4 * n → _ := fun t ht => un_step h.n0 ht
  have hbe : B = E ↔ e = (1, 0) := by
    constructor
    · intro z
      refine plc_inj hw h0 (w := w) ?_
      rw [← hE2, plc_one, z]
    · intro z
      rw [z, plc_one] at hE2
      unfold sb2 at hE2
      have e1 := (Prod.mk.inj hE2).1
      have e2 := (Prod.mk.inj hE2).2
      exact Prod.ext (by grind) (by grind)
  have at1 : ∀ j, j < m → (chL B E C w n m)[j]? = some (pt B C w n j) := by
    intro j hj
    unfold chL
    rw [List.getElem?_append_left (by rw [List.length_map, List.length_range]; exact hj), List.getElem?_map, List.getElem?_range hj]
    rfl
  have at2 : (chL B E C w n m)[m]? = some E := by
    unfold chL
    rw [List.getElem?_append_right (by rw [List.length_map, List.length_range]; omega), List.length_map, List.length_range, Nat.sub_self]
    rfl
  have ln : (chL B E C w n m).length = m + 1 := by
    unfold chL
    rw [List.length_append, List.length_map, List.length_range]
    rfl
  have mk1 : mks B E C w (chL B E C w n m) = (List.range m).map (fun t => mkr (un n t)) ++ [mke e] := by
    unfold mks chL
    rw [List.dropLast_concat, List.map_map]
    congr 1
    · refine List.map_congr_left fun t _ => ?_
      exact mkp_mk hw h0 (pt_sb ..)
    · unfold mke
      by_cases z : B = E
      · rw [if_pos z, if_pos (hbe.mp z)]
      · rw [if_neg z, if_neg (fun y => z (hbe.mpr y)), mkp_mk hw h0 hE2]
  refine ⟨by omega, ?_, ?_, ?_, ?_, ?_⟩
  · rw [at1 0 hm, pt_zero h.n0]
  · rw [ln]
    exact at2
  · intro j x y hx hy
    rw [mk1] at hx hy
    have hj : j + 1 < m + 1 := by
      have := (List.getElem?_eq_some_iff.mp hy).1
      rw [List.length_append, List.length_map, List.length_range] at this
      exact this
    rw [List.getElem?_append_left (by rw [List.length_map, List.length_range]; omega), List.getElem?_map, List.getElem?_range (by omega)] at hx
    injection hx with hx
    by_cases z : j + 1 < m
    · rw [List.getElem?_append_left (by rw [List.length_map, List.length_range]; omega), List.getElem?_map, List.getElem?_range (by omega)] at hy
      injection hy with hy
      rw [← hx, ← hy]
      exact (step j (by have := h.m1; omega)).2 (by have := h.m1; omega)
    · have z2 : j + 1 = m := by omega
      rw [List.getElem?_append_right (by rw [List.length_map, List.length_range]; omega), List.length_map, List.length_range, z2, Nat.sub_self] at hy
      injection hy with hy
      rw [← hx, ← hy, show j = m - 1 by omega]
      exact l.1
  · intro p hp
    unfold chL at hp
    rcases List.mem_append.mp hp with hp | hp
    · obtain ⟨t, _, rfl⟩ := List.mem_map.mp hp
      rw [pt_sb, plc_dt hw, hB]
      have : dt (un n t) (un n t) = 1 := un_U h.n0
      rw [this]
      grind
    · rw [List.mem_singleton.mp hp]
      exact hE
  · intro j x y hx hy
    have hj : j + 1 < m + 1 := by
      have := (List.getElem?_eq_some_iff.mp hy).1
      omega
    rw [at1 j (by omega)] at hx
    injection hx with hx
    have key : ∃ v, U v ∧ sb2 y C = plc (sb2 B C) w v ∧ chd n (un n j) v := by
      by_cases z : j + 1 < m
      · rw [at1 (j + 1) z] at hy
        injection hy with hy
        refine ⟨un n (j + 1), un_U h.n0, by rw [← hy, pt_sb], (step j (by have := h.m1; omega)).1⟩
      · have z2 : j + 1 = m := by omega
        rw [z2, at2] at hy
        injection hy with hy
        refine ⟨e, he, by rw [← hy, hE2], ?_⟩
        rw [show j = m - 1 by omega]
        exact l.2
    obtain ⟨v, hv, e1, e2⟩ := key
    rw [← hx, pt_sb, e1]
    refine ⟨?_, near_of hw (un_U h.n0) hv hr hB hf e2⟩
    rw [plc_cr hw]
    exact Rat.mul_pos h0 e2.1
end DM

namespace DL
open PySem PySem.Spec L2 DM
/-! chords: sizes and promises -/
structure ArcK (B E C : Rat × Rat) (w : Int) (r : Rat) : Prop where
  b : Bd2 60 B
  e : Bd2 60 E
  c : Bd2 60 C
  w : w = 1 ∨ w = -1
  r0 : 0 < r
  rb : Bd 60 r
  rB : dt (sb2 B C) (sb2 B C) = r * r
  rE : dt (sb2 E C) (sb2 E C) = r * r
theorem ArcK.ok {B E C : Rat × Rat} {w : Int} {r : Rat} (h : ArcK B E C w r) : ArcOk B.1 B.2 E.1 E.2 C.1 C.2 w r := by
  refine ⟨⟨h.b.1.mono (by decide), h.b.2.mono (by decide), h.e.1.mono (by decide), h.e.2.mono (by decide), h.c.1.mono (by decide), h.c.2.mono (by decide)⟩, h.w, ?_, ?_⟩
  · have := h.r0
    grind
  · refine rt_of (by have := h.r0; grind) ?_
    have := h.rB
    unfold sb2 dt at this
    simp only at this
    grind
/-! the law's own -/
/-! sizes of the places told -/
theorem qr_bd {k q : Nat} {p : Rat × Rat} (h : Bd2 k p) : Bd2 k (qr q p) := by
  induction q with
  | zero => exact h
  | succ q ih => exact ⟨ih.2.neg, ih.1⟩
/-! fineness -/
/-! numbers told by signs -/
end DL

namespace DM
/-! DRc: lists of chords looked at: what the program asks is what the law asks; gone the other way; led. -/
/-! marks that are taken away from one another -/
/-! marks of places on the circle -/
section
variable {B C : Rat × Rat} {w : Int}
end
/-! lists of chords -/
def inner {α : Type} (L : List α) : List α := (L.drop 1).dropLast
section
variable {B E C : Rat × Rat} {w : Int} {r m : Rat} {L : List (Rat × Rat)}
theorem LawCh.mono {k : Rat} (h : LawCh B E C w r m L) (hm : m ≤ k) (hk : m ≤ r → 0 ≤ m) : LawCh B E C w r k L := by
  refine ⟨h.len, h.fst, h.last, h.marks, h.sq, fun j x y hx hy => ⟨(h.ch j x y hx hy).1, ?_⟩⟩
  have := (h.ch j x y hx hy).2
  unfold near at *
  by_cases z : r - k ≤ 0
  · exact .inl z
  · right
    rcases this with y1 | y1
    · grind
    · have := Rat.mul_nonneg (show 0 ≤ k - m by grind) (show 0 ≤ (r - m) + (r - k) by grind)
      grind
end
/-! gone the other way -/
/-! turned by quarters and flipped -/
def ldq (q : Nat) (f : Int) (p : Rat × Rat) : Rat × Rat := ((qr q p).1, (qr q p).2 * f)
theorem qr_sb (q : Nat) (p c : Rat × Rat) : sb2 (qr q p) (qr q c) = qr q (sb2 p c) := by
  induction q with
  | zero => rfl
  | succ q ih =>
    simp only [qr]
    rw [← ih]
    unfold sb2
    exact Prod.ext (by simp only; grind) (by simp only)
theorem ldq_dt {q : Nat} {f : Int} (hf : f = 1 ∨ f = -1) (p c x y : Rat × Rat) : dt (sb2 (ldq q f p) (ldq q f c)) (sb2 (ldq q f x) (ldq q f y)) = dt (sb2 p c) (sb2 x y) := by
  have ff := w_sq hf
  rw [← qr_dt q (sb2 p c), ← qr_sb, ← qr_sb]
  unfold ldq dt sb2
  simp only
  generalize (f : Rat) = F at *
  grind
theorem ldq_cr {q : Nat} {f : Int} (p c x y : Rat × Rat) : cr (sb2 (ldq q f p) (ldq q f c)) (sb2 (ldq q f x) (ldq q f y)) = cr (sb2 p c) (sb2 x y) * f := by
  rw [← qr_cr q (sb2 p c), ← qr_sb, ← qr_sb]
  unfold ldq cr sb2
  simp only
  generalize (f : Rat) = F at *
  grind
theorem ldq_inj {q : Nat} {f : Int} (hf : f = 1 ∨ f = -1) {p c : Rat × Rat} (h : ldq q f p = ldq q f c) : p = c := by
  have := ldq_dt (q := q) hf p c p c
  rw [h] at this
  unfold dt sb2 at this
  simp only at this
  have k1 := rsq_nn (p.1 - c.1)
  have k2 := rsq_nn (p.2 - c.2)
  have e1 : (p.1 - c.1) * (p.1 - c.1) = 0 := by grind
  have e2 : (p.2 - c.2) * (p.2 - c.2) = 0 := by grind
  refine Prod.ext ?_ ?_
  · rcases Rat.mul_eq_zero.mp e1 with h | h <;> grind
  · rcases Rat.mul_eq_zero.mp e2 with h | h <;> grind
theorem LawCh.led {B E C : Rat × Rat} {w f : Int} {q : Nat} {r m : Rat} {L : List (Rat × Rat)} (hf : f = 1 ∨ f = -1) (h : LawCh B E C w r m L) : LawCh (ldq q f B) (ldq q f E) (ldq q f C) (w * f) r m (L.map (ldq q f)) := by
  have ff := w_sq hf
  have hm : ((w * f : Int) : Rat) = (w : Rat) * f := Rat.intCast_mul w f
  have mk : ∀ P, mkp (ldq q f B) (ldq q f C) (w * f) (ldq q f P) = mkp B C w P := fun P => by
    unfold mkp
    rw [ldq_cr, ldq_dt hf, ldq_dt hf, hm, show cr (sb2 B C) (sb2 P C) * (f : Rat) * ((w : Rat) * f) = cr (sb2 B C) (sb2 P C) * w * ((f : Rat) * f) by grind, ff, show cr (sb2 B C) (sb2 P C) * (w : Rat) * 1 = cr (sb2 B C) (sb2 P C) * w by grind]
  have ms : mks (ldq q f B) (ldq q f E) (ldq q f C) (w * f) (L.map (ldq q f)) = mks B E C w L := by
    unfold mks
    rw [← List.map_dropLast, List.map_map]
    congr 1
    · exact List.map_congr_left fun p _ => mk p
    · by_cases z : B = E
      · rw [if_pos z, if_pos (by rw [z])]
      · rw [if_neg z, if_neg (fun y => z (ldq_inj hf y)), mk]
  refine ⟨by rw [List.length_map]; exact h.len, by rw [List.getElem?_map, h.fst]; rfl, by rw [List.length_map, List.getElem?_map, h.last]; rfl, by rw [ms]; exact h.marks, ?_, ?_⟩
  · intro p hp
    obtain ⟨P, hP, rfl⟩ := List.mem_map.mp hp
    rw [ldq_dt hf]
    exact h.sq P hP
  · intro j x y hx hy
    rw [List.getElem?_map] at hx hy
    obtain ⟨X, hX⟩ : ∃ X, L[j]? = some X := by
      cases e : L[j]? with
      | none =>
        rw [e] at hx
        cases hx
      | some X => exact ⟨X, rfl⟩
    obtain ⟨Y, hY⟩ : ∃ Y, L[j + 1]? = some Y := by
      cases e : L[j + 1]? with
      | none =>
        rw [e] at hy
        cases hy
      | some Y => exact ⟨Y, rfl⟩
    rw [hX] at hx
    rw [hY] at hy
    injection hx with hx
    injection hy with hy
    subst hx
    subst hy
    have := h.ch j X Y hX hY
    refine ⟨?_, ?_⟩
    · rw [ldq_cr, hm, show cr (sb2 X C) (sb2 Y C) * (f : Rat) * ((w : Rat) * f) = cr (sb2 X C) (sb2 Y C) * w * ((f : Rat) * f) by grind, ff, show cr (sb2 X C) (sb2 Y C) * (w : Rat) * 1 = cr (sb2 X C) (sb2 Y C) * w by grind]
      exact this.1
    · have h2 := this.2
      have e : dt (mid2 (sb2 (ldq q f X) (ldq q f C)) (sb2 (ldq q f Y) (ldq q f C))) (mid2 (sb2 (ldq q f X) (ldq q f C)) (sb2 (ldq q f Y) (ldq q f C))) = dt (mid2 (sb2 X C) (sb2 Y C)) (mid2 (sb2 X C) (sb2 Y C)) := by
        have a1 := ldq_dt (q := q) hf X C X C
        have a2 := ldq_dt (q := q) hf X C Y C
        have a3 := ldq_dt (q := q) hf Y C Y C
        have md : ∀ u v : Rat × Rat, 4 * dt (mid2 u v) (mid2 u v) = dt u u + 2 * dt u v + dt v v := fun u v => by
          unfold mid2 dt
          simp only
          grind
        have b1 := md (sb2 (ldq q f X) (ldq q f C)) (sb2 (ldq q f Y) (ldq q f C))
        have b2 := md (sb2 X C) (sb2 Y C)
        rw [a1, a2, a3] at b1
        grind
      unfold near at *
      rw [e]
      exact h2
/-! never -/
end DM

namespace DL
open PySem PySem.Spec L2 DM
/-! chords looked at: promises -/
theorem ldq_bd {k q : Nat} {f : Int} {p : Rat × Rat} (hf : f = 1 ∨ f = -1) (h : Bd2 k p) : Bd2 k (ldq q f p) := by
  have := qr_bd (q := q) h
  refine ⟨this.1, ?_⟩
  unfold ldq
  simp only
  rcases hf with e | e <;> subst e
  · rw [show (((1 : Int) : Rat)) = 1 from rfl, Rat.mul_one]
    exact this.2
  · rw [show (((-1 : Int) : Rat)) = -1 from rfl, show (qr q p).2 * (-1 : Rat) = -(qr q p).2 by grind]
    exact this.2.neg
theorem ArcK.other {B E C : Rat × Rat} {w : Int} {r : Rat} (h : ArcK B E C w r) : ArcK B E C (-w) r := ⟨h.b, h.e, h.c, by have := h.w; omega, h.r0, h.rb, h.rB, h.rE⟩
theorem ArcK.led {B E C : Rat × Rat} {w f : Int} {q : Nat} {r : Rat} (hf : f = 1 ∨ f = -1) (h : ArcK B E C w r) : ArcK (ldq q f B) (ldq q f E) (ldq q f C) (w * f) r :=
  ⟨ldq_bd hf h.b, ldq_bd hf h.e, ldq_bd hf h.c, by rcases h.w with e | e <;> rcases hf with k | k <;> subst e <;> subst k <;> decide, h.r0, h.rb, by rw [ldq_dt hf]; exact h.rB, by rw [ldq_dt hf]; exact h.rE⟩
end DL

/-! DOd: led cuts that are shared: what their methods tell. -/
namespace DR
open PySem PySem.Spec L2 DL DM SX
structure LdOk (l : LR) (r : Rat) : Prop where
  g : CutG l.st r l.u l.v
  s : Bd 40 l.side
  b : Bd 370 l.bb
  e : Bd 370 l.eb
theorem LdOk.nh {l : LR} {r : Rat} (h : LdOk l r) : l.st.isHop = false := by
  have := h.g.h
  cases e : l.st with
  | hop b f =>
    rw [e] at this
    exact this.elim
  | line b f => rfl
  | arc b f c w => rfl
def wayR : Stp → Rat
  | .arc _ _ _ w => (w : Rat)
  | _ => 0
/-- the radius of the led arc -/
def ledR (l : LR) (r : Rat) : Rat := r - wayR l.st * l.side
noncomputable def gougeB (l : LR) (r : Rat) : Bool := if l.st.isLn then !decide (l.bb + l.eb < r) else !decide (0 < ledR l r)
/-- where a place of a cut leads the tool -/
def ldP (l : LR) (r : Rat) (p h : Rat × Rat) (x : Rat) : Rat × Rat := match l.st with
  | .arc _ _ c _ => (c.1 + (p.1 - c.1) * (ledR l r / r), c.2 + (p.2 - c.2) * (ledR l r / r))
  | _ => (p.1 + (-h.2 * l.side + h.1 * x), p.2 + (h.1 * l.side + h.2 * x))
def lbeg (l : LR) (r : Rat) : Rat × Rat := ldP l r l.st.beg l.u l.bb
def lend (l : LR) (r : Rat) : Rat × Rat := ldP l r l.st.fin l.v (-l.eb)
def ledS (l : LR) (r : Rat) : Stp := match l.st with
  | .arc _ _ c w => .arc (lbeg l r) (lend l r) c w
  | _ => .line (lbeg l r) (lend l r)
def ledW (s : Rat) : Int := if s < 0 then 1 else -1
def ledSs (l : LR) (r : Rat) (o : Option (LR × Rat)) : List Stp := match o with
  | none => [ledS l r]
  | some (m, rm) => [ledS l r, .arc (lend l r) (lbeg m rm) l.st.fin (ledW l.side)]
/-! sizes -/
theorem beg_bd {st : Stp} (h : st.bd) : Bd2 400 st.beg ∧ Bd2 400 st.fin := by
  cases st with
  | arc b f c w => exact ⟨h.1, h.2.1⟩
  | line b f => exact h
  | hop b f => exact h
/-! promises -/
end DR

/-! DOe: sorted pairs of whole numbers. -/
namespace DL
open PySem PySem.Spec L2
section
variable {X : Cx}
end
section
variable {X : Cx} {Z : Ent}
end
end DL

/-! DOf: list(d.values()). -/
namespace DL
open PySem PySem.Spec L2
section
variable {X : Cx} {Z : Ent}
end
end DL

/-! DOg: {k: v for t0 in i0 for t1 in i1}. -/
namespace DL
open PySem PySem.Spec L2 PyProof.Rows
section
variable {prog : Program} {w : World} {A : Around} {R : Result → Shared → Prop} {s : Shared} {kx vx t0 i0 t1 i1 : Expr} {sc : Scope} {ps : Pos} {it ac : Value} {D : Addr} {en : Env}
end
section
variable {X : Cx}
end
end DL

/-! DOh: {k: v for t0 in i0 for t1 in i1}, by data. -/
namespace DL
open PySem PySem.Spec L2
section
variable {K : Fg} {Z : Ent} {Hs H : Hp} {σ : L2.St} {δ : DSt}
theorem At.dK {D : Addr} {kvs : List (Key × V)} {kds : List (Key × PyData)} (h : H D = some (.dK kvs)) (kd : KD K Hs kvs kds) : At K Hs H (.ref D) (.ob false (obD kds)) [D] := by
  have e := kd.keys
  unfold obD
  rw [← e]
  exact .dct (vs := kvs.map (·.2)) (by rw [zip_fs]; exact h) (by rw [List.length_map, List.length_map]) kd.vals
theorem FrA.dK {v : V} {kds : List (Key × PyData)} {A : List Addr} (h : FrA K Z Hs H σ δ v (.ob false (obD kds)) A) : ∃ D kvs, v = .ref D ∧ A = [D] ∧ H D = some (.dK kvs) ∧ KD K Hs kvs kds := by
  have ha := h.at_
  unfold obD at ha
  cases ha with
  | dct h1 h2 h3 => exact ⟨_, _, rfl, rfl, h1, KD.of rfl h2 h3⟩
end
section
variable {X : Cx} {Z : Ent} {pos : Pos} {tg tg1 : Expr}
end
end DL

/-! DOi: what is refused, goals of hops, the way. -/
namespace DR
open PySem PySem.Spec L2 DL DM SX
def Ec.hop (c : Ec) : Bool := c.e.st.isHop
/-! ### which numbers are led -/
def ledB (es : List Ec) (n : Nat) : Bool := match es[n]? with
  | some c => c.isLed
  | none => false
def ledN (es : List Ec) : List Nat := (List.range es.length).filter (ledB es)
/-! ### led cuts as they are in the end -/
def endL (es : List Ec) : Nat → LR := finL es (contC es).length
def rOf (es : List Ec) (n : Nat) : Rat := match es[n]? with
  | some c => c.r
  | none => 0
/-- sizes of what is cut back -/
def BkOk (l : LR) : Prop := Bd 370 l.bb ∧ Bd 370 l.eb
theorem bk_joinA {b : Addr} {la lb : LR} (h : BkOk la) (ha : LrOk la) (hb : LrOk lb) : BkOk (joinA b la lb) := by
  unfold joinA
  split
  · exact h
  · split
    · rename_i h2
      split
      · exact ⟨h.1, backR_bd (jkind_two h2) ha.v hb.u ha.s⟩
      · exact h
    · exact h
theorem bk_joinB {la lb : LR} (h : BkOk lb) (ha : LrOk la) (hb : LrOk lb) : BkOk (joinB la lb) := by
  unfold joinB
  split
  · rename_i h2
    exact ⟨backR_bd (jkind_two h2.1) ha.v hb.u ha.s, h.2⟩
  · exact h
def GoodL (es : List Ec) (L : Nat → LR) : Prop := ∀ n, ledB es n = true → SameL (L n) (L0 es n) ∧ BkOk (L n)
theorem good_jn {es : List Ec} (hok : ∀ c ∈ es, c.ok) {L : Nat → LR} {i j : Nat} (h : GoodL es L) (hi : ledB es i = true) (hj : ledB es j = true) : GoodL es (jnL L i j) := by
  have lo : ∀ n, ledB es n = true → LrOk (L n) := fun n hn => by
    refine lr_ok hok ?_ (h n hn).1
    unfold ledB at hn
    cases e : es[n]? with
    | none => rw [e] at hn; cases hn
    | some c => rw [e] at hn; exact ⟨c, rfl, hn⟩
  intro n hn
  refine ⟨(same_jnL n).trans (h n hn).1, ?_⟩
  unfold jnL
  split
  · rename_i e
    subst e
    split
    · rename_i e
      subst e
      exact bk_joinA (h _ hi).2 (lo _ hi) (lo _ hi)
    · exact bk_joinB (h _ hn).2 (lo _ hi) (lo _ hn)
  · split
    · rename_i e
      subst e
      exact bk_joinA (h _ hn).2 (lo _ hn) (lo _ hj)
    · exact (h n hn).2
theorem good_row {es : List Ec} (hok : ∀ c ∈ es, c.ok) {L : Nat → LR} {c : List Nat} (hc : ∀ n ∈ c, ledB es n = true) (h : GoodL es L) : ∀ k, k < c.length → GoodL es (rowL L c k)
  | 0, _ => h
  | k + 1, hk => by
    have at_ : ∀ j, j < c.length → ledB es (c.getD j 0) = true := fun j hj => by
      refine hc _ ?_
      rw [List.getD_eq_getElem?_getD, List.getElem?_eq_getElem hj]
      exact List.getElem_mem hj
    exact good_jn hok (good_row hok hc h k (by omega)) (at_ k (by omega)) (at_ (k + 1) hk)
theorem good_all {es : List Ec} (hok : ∀ c ∈ es, c.ok) {L : Nat → LR} {c : List Nat} (hne : c ≠ []) (hc : ∀ n ∈ c, ledB es n = true) (h : GoodL es L) : GoodL es (allL es L c) := by
  have hl : 0 < c.length := List.length_pos_iff.mpr hne
  have hr := good_row hok hc h (c.length - 1) (by omega)
  unfold allL
  split
  · refine good_jn hok hr (hc _ ?_) (hc _ ?_)
    · rw [List.getLastD_eq_getLast?, List.getLast?_eq_some_getLast hne]
      exact List.getLast_mem hne
    · cases c with
      | nil => exact absurd rfl hne
      | cons x r => exact List.mem_cons_self
  · exact hr
theorem good_L0 (es : List Ec) : GoodL es (L0 es) := fun n hn => by
  refine ⟨.refl _, ?_⟩
  have z : Bd 370 (0 : Rat) := bd_zero.mono (by decide)
  unfold L0
  split
  · exact ⟨z, z⟩
  · exact ⟨z, z⟩
theorem led_of {es : List Ec} {c : List Nat} (h : c ∈ contC es) : c ≠ [] ∧ ∀ n ∈ c, ledB es n = true := by
  unfold contC at h
  obtain ⟨d, hd, rfl⟩ := List.mem_map.mp h
  have hd := List.mem_reverse.mp hd
  have hin := contN_in es es.length d hd
  refine ⟨fun e => hin.1 (List.reverse_eq_nil_iff.mp e), fun n hn => ?_⟩
  obtain ⟨_, c, hc, hl⟩ := hin.2 n (List.mem_reverse.mp hn)
  unfold ledB
  rw [hc]
  exact hl
theorem good_end {es : List Ec} (hok : ∀ c ∈ es, c.ok) : GoodL es (endL es) := by
  unfold endL finL
  rw [List.take_length]
  have : ∀ (cs : List (List Nat)) (L : Nat → LR), (∀ c ∈ cs, c ∈ contC es) → GoodL es L → GoodL es (cs.foldl (allL es) L) := by
    intro cs
    induction cs with
    | nil => exact fun L _ h => h
    | cons c cs ih =>
      intro L hc h
      have h1 := led_of (hc c List.mem_cons_self)
      exact ih _ (fun d m => hc d (List.mem_cons_of_mem _ m)) (good_all hok h1.1 h1.2 h)
  exact this _ _ (fun c m => m) (good_L0 es)
theorem led_some {es : List Ec} {n : Nat} (h : ledB es n = true) : ∃ c, es[n]? = some c ∧ c.isLed = true ∧ c.e.st.isHop = false := by
  unfold ledB at h
  cases e : es[n]? with
  | none => rw [e] at h; cases h
  | some c =>
    rw [e] at h
    have h : c.isLed = true := h
    refine ⟨c, rfl, h, ?_⟩
    unfold Ec.isLed at h
    cases z : c.e.st.isHop with
    | false => rfl
    | true => rw [z] at h; cases h
/-! ### what is refused -/
def unB (es : List Ec) (n : Nat) : Bool := match es[n]? with
  | some c => !c.e.st.isHop && (if n = 0 then !decide (c.e.side = 0) else (match es[n - 1]? with
      | some p => !p.e.st.isHop && !decide (p.e.side = c.e.side)
      | none => false))
  | none => false
def unN (es : List Ec) : List Nat := (List.range es.length).filter (unB es)
noncomputable def wrongZ (es : List Ec) (ls : List (LR × Rat × PyData)) : List (Int × Int) := (unN es).map (fun n : Nat => ((n : Int), (0 : Int))) ++ (ls.filter fun p => gougeB p.1 p.2.1).map (fun p => ((p.1.n : Int), 1)) ++ (ls.filter fun p => p.1.um).map fun p => ((p.1.n : Int), 2)
/-! ### goals -/
def stAt (es : List Ec) (n : Nat) : Stp := match es[n]? with
  | some c => c.e.st
  | none => .hop (0, 0) (0, 0)
def goalR (es : List Ec) (n : Nat) : Rat × Rat := match es[n + 1]? with
  | none => (stAt es n).fin
  | some c => if c.e.st.isHop then (stAt es n).fin else if c.isLed then lbeg (endL es (n + 1)) (rOf es (n + 1)) else c.e.st.beg
/-! ### the way -/
def afR (es : List Ec) (n : Nat) : Option (LR × Rat) := (endL es n).af.map fun m => (endL es m, rOf es m)
def stepsR (es : List Ec) (here : Rat × Rat) (n : Nat) : List Stp := if (stAt es n).isHop then [.hop here (goalR es n)] else if ledB es n then ledSs (endL es n) (rOf es n) (afR es n) else [stAt es n]
structure Wy where
  st : Stp
  pace : Int
  n : Nat
def Wy.d (w : Wy) : PyData := .tuple [w.st.d, .int w.pace, .int (w.n : Int)]
def paceR (es : List Ec) (n : Nat) : Int := match es[n]? with
  | some c => c.e.pace
  | none => 0
def lastF (p : Rat × Rat) (l : List Stp) : Rat × Rat := match l.getLast? with
  | some s => s.fin
  | none => p
/-- the way as far as an entry, and where it ends -/
def wayL (es : List Ec) : Nat → List Wy × (Rat × Rat)
  | 0 => ([], (stAt es 0).beg)
  | k + 1 => ((wayL es k).1 ++ (stepsR es (wayL es k).2 k).map (fun s => ⟨s, paceR es k, k⟩), lastF (wayL es k).2 (stepsR es (wayL es k).2 k))
def ledLs (es : List Ec) : List (LR × Rat × PyData) := (ledN es).map fun n => (endL es n, rOf es n, match (endL es n).af with
  | none => .none
  | some m => (endL es m).d1 (af2 (endL es m).af))
end DR

/-! DOj: plain steps of unled, refuse, goal_of, way_of. -/
namespace DR
open PySem PySem.Spec L2 DL DM SX
theorem unB_at {es : List Ec} {j : Nat} {c : Ec} (hc : es[j]? = some c) : unB es j = (!c.e.st.isHop && (if j = 0 then !decide (c.e.side = 0) else (match es[j - 1]? with
      | some p => !p.e.st.isHop && !decide (p.e.side = c.e.side)
      | none => false))) := by
  unfold unB
  rw [hc]
  try rfl
/-! ### led cuts by number -/
/-! ### a dict of led cuts, made -/
theorem led_isB {es : List Ec} {d : Ec} {n : Nat} (hd : es[n]? = some d) : ledB es n = d.isLed := by
  unfold ledB
  rw [hd]
theorem stAt_at {es : List Ec} {n : Nat} {c : Ec} (h : es[n]? = some c) : stAt es n = c.e.st := by
  unfold stAt
  rw [h]
theorem goalR_end {es : List Ec} {n : Nat} (h : es[n + 1]? = none) : goalR es n = (stAt es n).fin := by
  unfold goalR
  rw [h]
theorem goalR_at {es : List Ec} {n : Nat} {c : Ec} (h : es[n + 1]? = some c) : goalR es n = if c.e.st.isHop then (stAt es n).fin else if ledB es (n + 1) then lbeg (endL es (n + 1)) (rOf es (n + 1)) else c.e.st.beg := by
  rw [led_isB h]
  unfold goalR
  rw [h]
end DR

/-! DOk: promises of the law's own led cuts. -/
namespace DR
open PySem PySem.Spec L2 DL DM SX
theorem scaled_len {h : Rat × Rat} {r : Rat} (h1 : dt h h = 1) (r0 : 0 < r) : rt (dt (h.1 * r, h.2 * r) (h.1 * r, h.2 * r)) = some r := by
  unfold dt at *
  refine rt_of (Rat.le_of_lt r0) ?_
  have e : h.1 * r * (h.1 * r) + h.2 * r * (h.2 * r) = r * r * (h.1 * h.1 + h.2 * h.2) := by grind
  show r * r = h.1 * r * (h.1 * r) + h.2 * r * (h.2 * r)
  rw [e, h1, Rat.mul_one]
end DR

/-! DOl: lists of one's own lists made by a comprehension, read, changed; dicts of one's own in assignments. -/
namespace DL
open PySem PySem.Spec L2 PyProof.Rows
section
variable {K : Fg} {Z : Ent} {Hs H Hs' H' : Hp} {σ σ' : L2.St} {δ δ' : DSt}
end
end DL
namespace DL
open PySem PySem.Spec L2 PyProof.Rows
/-! ### [[a, b] for x in xs] -/
section
variable {X : Cx} {Z : Ent} {pos : Pos} {tg : Expr}
end
end DL
namespace DL
open PySem PySem.Spec L2 PyProof.Rows
section
variable {X : Cx} {Z : Ent} {pos : Pos}
/-! ### dicts of one's own -/
end
end DL

/-! DOm: min of a list of pairs of whole numbers; a name that is given what a call tells, whatever it is. -/
namespace DL
open PySem PySem.Spec L2
section
variable {X : Cx}
end
section
variable {X : Cx} {Z : Ent} {pos : Pos}
/-! ### a name is given what a call tells -/
end
end DL

/-! DOn: a contour as the law leads it: joint by joint the same as the program's. -/
namespace DR
open PySem PySem.Spec L2 DL DM SX
/-! ### joints by their kinds -/
/-! ### where two led lines meet -/
theorem meet_two {x u v : Rat × Rat} {s : Rat} (hu : dt u u = 1) (hv : dt v v = 1) (hc : cr u v ≠ 0) :
    ((x.1 + (-u.2 * s + u.1 * -backR u v s), x.2 + (u.1 * s + u.2 * -backR u v s)) : Rat × Rat) = (x.1 + (-v.2 * s + v.1 * backR u v s), x.2 + (v.1 * s + v.2 * backR u v s)) := by
  have hb : backR u v s * cr u v = s * (1 - dt u v) := by
    unfold backR
    generalize cr u v = c at *
    generalize 1 - dt u v = d at *
    grind
  have cancel : ∀ a b : Rat, (a - b) * cr u v = 0 → a = b := fun a b h => by
    rcases Rat.mul_eq_zero.mp h with z | z
    · grind
    · exact absurd z hc
  generalize backR u v s = t at *
  refine Prod.ext (cancel _ _ ?_) (cancel _ _ ?_)
  · show (x.1 + (-u.2 * s + u.1 * -t) - (x.1 + (-v.2 * s + v.1 * t))) * cr u v = 0
    have e : (x.1 + (-u.2 * s + u.1 * -t) - (x.1 + (-v.2 * s + v.1 * t))) * cr u v = (v.2 - u.2) * s * cr u v - (u.1 + v.1) * (t * cr u v) := by grind
    rw [e, hb]
    unfold cr dt at *
    grind
  · show (x.2 + (u.1 * s + u.2 * -t) - (x.2 + (v.1 * s + v.2 * t))) * cr u v = 0
    have e : (x.2 + (u.1 * s + u.2 * -t) - (x.2 + (v.1 * s + v.2 * t))) * cr u v = (u.1 - v.1) * s * cr u v - (u.2 + v.2) * (t * cr u v) := by grind
    rw [e, hb]
    unfold cr dt at *
    grind
/-! ### a contour joint by joint -/
def nxt (n t : Nat) : Nat := if t + 1 < n then t + 1 else 0
def LJ (es : List Ec) (a n : Nat) : Nat → (Nat → LR)
  | 0 => L0 es
  | t + 1 => jnL (LJ es a n t) (a + t) (a + nxt n t)
theorem rng_getD {a n k : Nat} (h : k < n) : (List.range' a n).getD k 0 = a + k := by
  rw [List.getD_eq_getElem?_getD, List.getElem?_range' h]
  simp
theorem rowL_LJ {es : List Ec} {a n : Nat} : ∀ t, t + 1 ≤ n → rowL (L0 es) (List.range' a n) t = LJ es a n t
  | 0, _ => rfl
  | t + 1, h => by
    show jnL (rowL (L0 es) (List.range' a n) t) ((List.range' a n).getD t 0) ((List.range' a n).getD (t + 1) 0) = jnL (LJ es a n t) (a + t) (a + nxt n t)
    rw [rowL_LJ t (by omega), rng_getD (by omega), rng_getD (by omega)]
    unfold nxt
    rw [if_pos (by omega)]
def jl (es : List Ec) (a n : Nat) : Nat := if isShut es (List.range' a n) then n else n - 1
theorem rng_last {a n : Nat} (h : 0 < n) : (List.range' a n).getLastD 0 = a + (n - 1) := by
  rw [List.getLastD_eq_getLast?, List.getLast?_eq_getElem?, List.length_range', List.getElem?_range' (by omega)]
  simp
theorem rng_head {a n : Nat} (h : 0 < n) : (List.range' a n).headD 0 = a := by
  cases n with
  | zero => omega
  | succ n => rfl
theorem allL_LJ {es : List Ec} {a n : Nat} (h : 0 < n) : allL es (L0 es) (List.range' a n) = LJ es a n (jl es a n) := by
  unfold allL jl
  rw [List.length_range', rowL_LJ (n - 1) (by omega)]
  cases isShut es (List.range' a n) with
  | false => rfl
  | true =>
    rw [if_pos rfl, if_pos rfl, rng_last h, rng_head h]
    obtain ⟨m, rfl⟩ : ∃ m, n = m + 1 := ⟨n - 1, by omega⟩
    show jnL (LJ es a (m + 1) m) (a + m) a = jnL (LJ es a (m + 1) m) (a + m) (a + nxt (m + 1) m)
    unfold nxt
    rw [if_neg (by omega)]
    rfl
theorem LJ_same {es : List Ec} {a n : Nat} (m : Nat) : ∀ t, SameL (LJ es a n t m) (L0 es m)
  | 0 => .refl _
  | t + 1 => (same_jnL m).trans (LJ_same m t)
theorem joinA_bb {b : Nat} {la lb : LR} : (joinA b la lb).bb = la.bb := by
  unfold joinA
  split
  · rfl
  · split
    · split <;> rfl
    · rfl
theorem joinB_eb {la lb : LR} : (joinB la lb).eb = lb.eb := by
  unfold joinB
  split <;> rfl
theorem LJ_eb0 {es : List Ec} {a n : Nat} : ∀ t k, t ≤ k → (LJ es a n t (a + k)).eb = 0
  | 0, k, _ => by
    show (L0 es (a + k)).eb = 0
    unfold L0
    split <;> rfl
  | t + 1, k, h => by
    show (jnL (LJ es a n t) (a + t) (a + nxt n t) (a + k)).eb = 0
    unfold jnL
    split
    · rename_i e
      rw [if_neg (by omega), joinB_eb]
      have := LJ_eb0 (es := es) (a := a) (n := n) t k (by omega)
      rw [e] at this
      exact this
    · rw [if_neg (by omega)]
      exact LJ_eb0 t k (by omega)
theorem LJ_bb0 {es : List Ec} {a n : Nat} : ∀ t k, (t < k ∨ k = 0) → t < n → (LJ es a n t (a + k)).bb = 0
  | 0, k, _, _ => by
    show (L0 es (a + k)).bb = 0
    unfold L0
    split <;> rfl
  | t + 1, k, h, hn => by
    have ih := LJ_bb0 (es := es) (a := a) (n := n) t k (by omega) (by omega)
    have en : nxt n t = t + 1 := by unfold nxt; rw [if_pos hn]
    show (jnL (LJ es a n t) (a + t) (a + nxt n t) (a + k)).bb = 0
    rw [en]
    unfold jnL
    rw [if_neg (by omega)]
    split
    · rename_i e
      rw [joinA_bb, ← e]
      exact ih
    · exact ih
/-- a contour beside which the tool is led -/
structure Cont (es : List Ec) (a n : Nat) (s : Rat) : Prop where
  n0 : 0 < n
  le : a + n ≤ es.length
  ok : ∀ c ∈ es, c.ok
  nh : ∀ k c, k < n → es[a + k]? = some c → c.e.st.isHop = false ∧ c.e.side = s
  ln : ∀ k c d, k + 1 < n → es[a + k]? = some c → es[a + (k + 1)]? = some d → c.e.st.fin = d.e.st.beg
  s0 : s ≠ 0
/-- one of its cuts, at any time -/
structure CutK (es : List Ec) (a n : Nat) (s : Rat) (k : Nat) (c : Ec) : Prop where
  at_ : es[a + k]? = some c
  g : CutG c.e.st c.r c.u c.v
  nh : c.e.st.isHop = false
  sd : c.e.side = s
  sb : Bd 40 s
  r : rOf es (a + k) = c.r
  st : ∀ t, (LJ es a n t (a + k)).st = c.e.st
  u : ∀ t, (LJ es a n t (a + k)).u = c.u
  v : ∀ t, (LJ es a n t (a + k)).v = c.v
  side : ∀ t, (LJ es a n t (a + k)).side = s
  num : ∀ t, (LJ es a n t (a + k)).n = a + k
theorem Cont.cut {es : List Ec} {a n k : Nat} {s : Rat} (h : Cont es a n s) (hk : k < n) : ∃ c, CutK es a n s k c := by
  have hl := h.le
  have e : es[a + k]? = some es[a + k] := List.getElem?_eq_getElem (by omega)
  generalize es[a + k] = c at e
  obtain ⟨n1, n2⟩ := h.nh k c hk e
  obtain ⟨g, b⟩ := (h.ok c (List.mem_of_getElem? e)).2 n1
  rw [n2] at b
  have e0 : L0 es (a + k) = lr0 0 c.e (a + k) c.u c.v := by unfold L0; rw [e]
  have sm := fun t => LJ_same (es := es) (a := a) (n := n) (a + k) t
  refine ⟨c, e, g, n1, n2, b, by unfold rOf; rw [e], fun t => ?_, fun t => ?_, fun t => ?_, fun t => ?_, fun t => ?_⟩
  · rw [(sm t).st, e0]; rfl
  · rw [(sm t).u, e0]; rfl
  · rw [(sm t).v, e0]; rfl
  · rw [(sm t).side, e0]; exact n2
  · rw [(sm t).n, e0]; rfl
theorem nxt_lt {n t : Nat} (h : 0 < n) : nxt n t < n := by
  unfold nxt
  split <;> omega
theorem Cont.link {es : List Ec} {a n t : Nat} {s : Rat} (h : Cont es a n s) (ht : t < jl es a n) {c d : Ec} (hc : es[a + t]? = some c) (hd : es[a + nxt n t]? = some d) : c.e.st.fin = d.e.st.beg := by
  have n0 := h.n0
  unfold nxt at hd
  split at hd
  · rename_i e
    exact h.ln t c d e hc hd
  · rename_i e
    unfold jl at ht
    cases q : isShut es (List.range' a n) with
    | false => rw [q, if_neg (by decide)] at ht; omega
    | true =>
      rw [q, if_pos rfl] at ht
      have et : t = n - 1 := by omega
      unfold isShut at q
      rw [rng_last n0, rng_head n0, ← et] at q
      have q := of_decide_eq_true q
      have e1 : L0 es (a + t) = lr0 0 c.e (a + t) c.u c.v := by unfold L0; rw [hc]
      have e2 : L0 es a = lr0 0 d.e a d.u d.v := by unfold L0; rw [show es[a]? = some d from hd]
      rw [e1, e2] at q
      exact q
theorem jl_le {es : List Ec} {a n : Nat} : jl es a n ≤ n := by
  unfold jl
  split <;> omega
section
variable {es : List Ec} {a n t : Nat} {s : Rat} {c d : Ec}
/-! what is remembered joint by joint -/
end
/-! ### a contour in the end -/
def LC (es : List Ec) (a n : Nat) : Nat → LR := LJ es a n (jl es a n)
def stepC (es : List Ec) (L : Nat → LR) (i : Nat) : List Stp := ledSs (L i) (rOf es i) ((L i).af.map fun m => (L m, rOf es m))
/-! the list of cuts that the law looks at -/
def stW (st : Stp) : String := match st with
  | .hop _ _ => "hop"
  | .line _ _ => "line"
  | .arc _ _ _ _ => "arc"
theorem CutK.uniq {es : List Ec} {a n k : Nat} {s : Rat} {c d : Ec} (h : CutK es a n s k c) (e : es[a + k]? = some d) : c = d := by
  have := h.at_
  rw [e] at this
  exact (Option.some.inj this).symm
end DR

/-! DOo: what is due, as the law tells it. -/
namespace DR
open PySem PySem.Spec L2 DL DM SX
def sideAt (es : List Ec) (n : Nat) : Rat := match es[n]? with
  | some c => c.e.side
  | none => 0
def hopAt (es : List Ec) (n : Nat) : Bool := match es[n]? with
  | some c => c.e.st.isHop
  | none => true
/-- cuts of one side one behind another: how many -/
def segN (es : List Ec) (a : Nat) : Nat := ((es.drop (a + 1)).takeWhile fun c => !c.e.st.isHop && decide (c.e.side = sideAt es a)).length + 1
/-- where such cuts begin -/
def isSt (es : List Ec) (a : Nat) : Bool := !hopAt es a && (decide (a = 0) || hopAt es (a - 1) || !decide (sideAt es (a - 1) = sideAt es a))
/-- the steps of a cut, led or not -/
def stepN (es : List Ec) (i : Nat) : List Stp := if ledB es i then stepC es (endL es) i else [stAt es i]
/-- each step begins where the one ahead ends -/
def LnkE (es : List Ec) : Prop := ∀ (k : Nat) (c d : Ec), es[k]? = some c → es[k + 1]? = some d → c.e.st.fin = d.e.st.beg
end DR

/-! DOp: runs of cuts of one side; the way by such runs. -/
namespace DR
open PySem PySem.Spec L2 DL DM SX
theorem hop_lt {es : List Ec} {a : Nat} (h : hopAt es a = false) : a < es.length := by
  unfold hopAt at h
  refine Nat.lt_of_not_le fun z => ?_
  rw [List.getElem?_eq_none z] at h
  cases h
theorem st_hop {es : List Ec} {a : Nat} (h : isSt es a = true) : hopAt es a = false := by
  unfold isSt at h
  cases e : hopAt es a with
  | false => rfl
  | true => rw [e] at h; cases h
theorem takeW {α : Type} (p : α → Bool) : ∀ l : List α, (∀ i x, i < (l.takeWhile p).length → l[i]? = some x → p x = true) ∧ (∀ x, l[(l.takeWhile p).length]? = some x → p x = false) ∧ (l.takeWhile p).length ≤ l.length
  | [] => ⟨fun i x h e => (by cases e), fun x e => (by cases e), Nat.le_refl _⟩
  | y :: l => by
    obtain ⟨h1, h2, h3⟩ := takeW p l
    by_cases hy : p y = true
    · rw [List.takeWhile_cons_of_pos hy]
      refine ⟨fun i x hi e => ?_, fun x e => h2 x e, Nat.succ_le_succ h3⟩
      cases i with
      | zero => cases e; exact hy
      | succ i => exact h1 i x (Nat.lt_of_succ_lt_succ hi) e
    · rw [List.takeWhile_cons_of_neg hy]
      refine ⟨fun i x hi e => absurd hi (Nat.not_lt_zero _), fun x e => ?_, Nat.zero_le _⟩
      cases e
      simpa using hy
def sameS (es : List Ec) (a : Nat) (c : Ec) : Bool := !c.e.st.isHop && decide (c.e.side = sideAt es a)
theorem segN_eq (es : List Ec) (a : Nat) : segN es a = ((es.drop (a + 1)).takeWhile (sameS es a)).length + 1 := rfl
theorem seg_in {es : List Ec} {a j : Nat} {c : Ec} (h1 : a < j) (h2 : j < a + segN es a) (e : es[j]? = some c) : c.e.st.isHop = false ∧ c.e.side = sideAt es a := by
  obtain ⟨k, rfl⟩ : ∃ k, j = a + 1 + k := ⟨j - (a + 1), by omega⟩
  rw [segN_eq] at h2
  have := (takeW (sameS es a) (es.drop (a + 1))).1 k c (by omega) (by rw [List.getElem?_drop]; exact e)
  unfold sameS at this
  simpa using this
theorem seg_end {es : List Ec} {a : Nat} {c : Ec} (e : es[a + segN es a]? = some c) : c.e.st.isHop = true ∨ c.e.side ≠ sideAt es a := by
  rw [segN_eq] at e
  have := (takeW (sameS es a) (es.drop (a + 1))).2.1 c (by rw [List.getElem?_drop, show a + 1 + ((es.drop (a + 1)).takeWhile (sameS es a)).length = a + (((es.drop (a + 1)).takeWhile (sameS es a)).length + 1) by omega]; exact e)
  unfold sameS at this
  rcases hq : c.e.st.isHop with _ | _
  · rw [hq] at this
    exact .inr (by simpa using this)
  · exact .inl rfl
theorem seg_le {es : List Ec} {a : Nat} (h : a < es.length) : a + segN es a ≤ es.length := by
  rw [segN_eq]
  have := (takeW (sameS es a) (es.drop (a + 1))).2.2
  rw [List.length_drop] at this
  omega
theorem seg_pos {es : List Ec} {a : Nat} : 0 < segN es a := by rw [segN_eq]; omega
theorem sideAt_of {es : List Ec} {a : Nat} {c : Ec} (e : es[a]? = some c) : sideAt es a = c.e.side := by unfold sideAt; rw [e]
theorem hopAt_of {es : List Ec} {a : Nat} {c : Ec} (e : es[a]? = some c) : hopAt es a = c.e.st.isHop := by unfold hopAt; rw [e]
/-- within a run: no hop, the side of its begin -/
theorem seg_all {es : List Ec} {a j : Nat} (h : isSt es a = true) (h1 : a ≤ j) (h2 : j < a + segN es a) : ∃ c, es[j]? = some c ∧ c.e.st.isHop = false ∧ c.e.side = sideAt es a := by
  have ha := hop_lt (st_hop h)
  have hl := seg_le ha
  have e : es[j]? = some es[j] := List.getElem?_eq_getElem (by omega)
  generalize es[j] = c at e
  by_cases q : a = j
  · subst q
    exact ⟨c, e, by rw [← hopAt_of e]; exact st_hop h, (sideAt_of e).symm⟩
  · exact ⟨c, e, seg_in (by omega) h2 e⟩
theorem seg_nost {es : List Ec} {a j : Nat} (h : isSt es a = true) (h1 : a < j) (h2 : j < a + segN es a) : hopAt es j = false ∧ isSt es j = false := by
  obtain ⟨c, e1, e2, e3⟩ := seg_all h (by omega) h2
  obtain ⟨d, f1, f2, f3⟩ := seg_all h (show a ≤ j - 1 by omega) (by omega)
  refine ⟨by rw [hopAt_of e1]; exact e2, ?_⟩
  unfold isSt
  rw [hopAt_of f1, f2, sideAt_of f1, sideAt_of e1, f3, e3, decide_eq_true rfl, decide_eq_false (by omega)]
  simp
def Brd (es : List Ec) (m : Nat) : Prop := es.length ≤ m ∨ hopAt es m = true ∨ isSt es m = true
theorem brd_seg {es : List Ec} {a : Nat} (h : isSt es a = true) : Brd es (a + segN es a) := by
  have ha := hop_lt (st_hop h)
  have sp := seg_pos (es := es) (a := a)
  cases e : hopAt es (a + segN es a) with
  | true => exact .inr (.inl e)
  | false =>
    have hl := hop_lt e
    have e1 : es[a + segN es a]? = some es[a + segN es a] := List.getElem?_eq_getElem hl
    generalize es[a + segN es a] = c at e1
    obtain ⟨d, f1, f2, f3⟩ := seg_all h (show a ≤ a + segN es a - 1 by omega) (by omega)
    refine .inr (.inr ?_)
    rcases seg_end e1 with q | q
    · rw [hopAt_of e1, q] at e
      cases e
    · unfold isSt
      rw [e, sideAt_of f1, sideAt_of e1, f3, decide_eq_false (fun z : sideAt es a = c.e.side => q z.symm)]
      simp
/-- as far as the way is told when the law stands at an entry -/
def nb (es : List Ec) : Nat → Nat
  | 0 => 0
  | k + 1 => if hopAt es k then k + 1 else if isSt es k then k + segN es k else nb es k
/-! ### the way by runs -/
theorem lastF_app (p : Rat × Rat) (l m : List Stp) : lastF (lastF p l) m = lastF p (l ++ m) := by
  unfold lastF
  cases m with
  | nil => rw [List.append_nil]; rfl
  | cons x m =>
    rw [List.getLast?_append]
    cases e : (x :: m).getLast? with
    | none => rw [List.getLast?_eq_none_iff] at e; cases e
    | some s => rfl
theorem stepsN {es : List Ec} {i : Nat} {here : Rat × Rat} (h : hopAt es i = false) : stepsR es here i = stepN es i := by
  have hl := hop_lt h
  have e : es[i]? = some es[i] := List.getElem?_eq_getElem hl
  generalize es[i] = c at e
  rw [hopAt_of e] at h
  have es' : stAt es i = c.e.st := by unfold stAt; rw [e]
  unfold stepsR stepN
  rw [es', h, if_neg (by decide)]
  rfl
theorem ledS_beg (l : LR) (r : Rat) : (ledS l r).beg = lbeg l r := by
  unfold ledS
  cases l.st <;> rfl
end DR

/-! DOq: the program's contours are the led runs; what is wrong, run by run. -/
namespace DR
open PySem PySem.Spec L2 DL DM SX
theorem in_seg {es : List Ec} : ∀ k, hopAt es k = false → ∃ a, a ≤ k ∧ isSt es a = true ∧ k < a + segN es a
  | 0, h => ⟨0, Nat.le_refl _, by unfold isSt; rw [h]; rfl, by have := seg_pos (es := es) (a := 0); omega⟩
  | k + 1, h => by
    cases hs : isSt es (k + 1) with
    | true => exact ⟨k + 1, Nat.le_refl _, hs, by have := seg_pos (es := es) (a := k + 1); omega⟩
    | false =>
      have hk : hopAt es k = false := by
        unfold isSt at hs
        rw [h, show k + 1 - 1 = k by omega] at hs
        cases e : hopAt es k with
        | false => rfl
        | true => rw [e] at hs; simp at hs
      obtain ⟨a, a1, a2, a3⟩ := in_seg k hk
      by_cases q : k + 1 < a + segN es a
      · exact ⟨a, by omega, a2, q⟩
      · have e : a + segN es a = k + 1 := by omega
        have b := brd_seg a2
        rw [e] at b
        have hl := hop_lt h
        rcases b with b | b | b
        · omega
        · rw [h] at b; cases b
        · rw [hs] at b; cases b
/-- led runs -/
def stL (es : List Ec) (a : Nat) : Bool := isSt es a && ledB es a
theorem ledB_side {es : List Ec} {k : Nat} {c : Ec} (e : es[k]? = some c) : ledB es k = (!c.e.st.isHop && !(c.e.side == 0)) := by
  unfold ledB
  rw [e]
  rfl
theorem stL_in {es : List Ec} {a j : Nat} (h : stL es a = true) (h1 : a ≤ j) (h2 : j < a + segN es a) : ledB es j = true := by
  unfold stL at h
  obtain ⟨s1, s2⟩ := Bool.and_eq_true_iff.mp h
  obtain ⟨c, c1, c2, c3⟩ := seg_all s1 h1 h2
  obtain ⟨d, d1, d2, d3⟩ := seg_all s1 (Nat.le_refl a) (by have := seg_pos (es := es) (a := a); omega)
  rw [ledB_side d1] at s2
  rw [ledB_side c1, c2, c3, ← d3, ← d2]
  exact s2
theorem led_seg {es : List Ec} {k : Nat} (h : ledB es k = true) : ∃ a, a ≤ k ∧ stL es a = true ∧ k < a + segN es a := by
  obtain ⟨c, c1, c2, c3⟩ := led_some h
  obtain ⟨a, a1, a2, a3⟩ := in_seg k (by rw [hopAt_of c1]; exact c3)
  refine ⟨a, a1, ?_, a3⟩
  obtain ⟨d, d1, d2, d3⟩ := seg_all a2 (Nat.le_refl a) (by have := seg_pos (es := es) (a := a); omega)
  obtain ⟨c', e1, e2, e3⟩ := seg_all a2 a1 a3
  rw [c1] at e1
  cases e1
  unfold stL
  rw [a2, ledB_side d1, d2, d3, ← e3]
  rw [ledB_side c1, c3] at h
  simpa using h
theorem st_apart {es : List Ec} {a b : Nat} (h : isSt es a = true) (hb : isSt es b = true) (ab : a < b) : a + segN es a ≤ b := by
  refine Nat.le_of_not_lt fun z => ?_
  have := (seg_nost h ab z).2
  rw [hb] at this
  cases this
def FC (es : List Ec) (k : Nat) : List (List Nat) := ((List.range k).filter (stL es)).reverse.map fun a => (List.range' a (min (segN es a) (k - a))).reverse
theorem filt_last {p : Nat → Bool} {a : Nat} (hp : p a = true) : ∀ k, a < k → (∀ j, a < j → j < k → p j = false) → (List.range k).filter p = (List.range a).filter p ++ [a]
  | 0, h, _ => absurd h (Nat.not_lt_zero _)
  | k + 1, h, hn => by
    rw [List.range_succ, List.filter_append]
    by_cases e : a = k
    · subst e
      rw [List.filter_cons_of_pos hp]
      rfl
    · rw [filt_last hp k (by omega) fun j h1 h2 => hn j h1 (by omega), List.filter_cons_of_neg (by rw [hn k (by omega) (by omega)]; decide)]
      simp
theorem FC_same {es : List Ec} {k : Nat} (h : ∀ a, a < k → stL es a = true → a + segN es a ≤ k) : (((List.range k).filter (stL es)).reverse.map fun a => (List.range' a (min (segN es a) (k + 1 - a))).reverse) = FC es k := by
  unfold FC
  refine List.map_congr_left fun a m => ?_
  have m := List.mem_filter.mp (List.mem_reverse.mp m)
  have := h a (List.mem_range.mp m.1) m.2
  rw [show min (segN es a) (k + 1 - a) = min (segN es a) (k - a) by omega]
theorem contN_F (es : List Ec) : ∀ k, contN es k = FC es k
  | 0 => rfl
  | k + 1 => by
    show addN es (contN es k) k = FC es (k + 1)
    have ih := contN_F es k
    have hin := contN_in es k
    have eF : FC es (k + 1) = (((List.range k).filter (stL es) ++ if stL es k then [k] else []).reverse.map fun a => (List.range' a (min (segN es a) (k + 1 - a))).reverse) := by
      unfold FC
      rw [List.range_succ, List.filter_append]
      cases h : stL es k with
      | true => rw [List.filter_cons_of_pos h]; rfl
      | false => rw [List.filter_cons_of_neg (by rw [h]; decide)]; rfl
    rw [eF]
    cases hst : stL es k with
    | true =>
      rw [if_pos rfl, List.reverse_append, List.reverse_cons, List.reverse_nil, List.nil_append, List.cons_append, List.nil_append, List.map_cons]
      obtain ⟨s1, s2⟩ := Bool.and_eq_true_iff.mp hst
      rw [FC_same fun a ha hs => st_apart (Bool.and_eq_true_iff.mp hs).1 s1 ha]
      have sp := seg_pos (es := es) (a := k)
      rw [show min (segN es k) (k + 1 - k) = 1 by omega, ← ih]
      show addN es (contN es k) k = [k] :: contN es k
      obtain ⟨c, c1, c2, c3⟩ := led_some s2
      unfold addN
      rw [c1]
      dsimp only
      rw [if_pos c2]
      split
      · rename_i m g fs hx
        have hm := (hin (m :: g) (by rw [hx]; exact List.mem_cons_self)).2 m List.mem_cons_self
        obtain ⟨hm1, d, d1, d2⟩ := hm
        rw [if_pos]
        refine Classical.byContradiction fun z => ?_
        rw [not_or] at z
        have em : m + 1 = k := by omega
        have z2 : (L0 es m).side = c.e.side := Classical.byContradiction z.2
        have e0 : (L0 es m).side = d.e.side := by unfold L0; rw [d1]; rfl
        have dh : d.e.st.isHop = false := by
          unfold Ec.isLed at d2
          cases e : d.e.st.isHop with
          | false => rfl
          | true => rw [e] at d2; cases d2
        unfold isSt at s1
        rw [← em, show m + 1 - 1 = m by omega, hopAt_of d1, dh, sideAt_of d1, ← e0, z2, em, sideAt_of c1, hopAt_of c1, c3] at s1
        simp at s1
        omega
      · rfl
    | false =>
      rw [if_neg (by decide), List.append_nil]
      by_cases hex : ∃ a, a < k ∧ stL es a = true ∧ k < a + segN es a
      · obtain ⟨a, ak, sa, ka⟩ := hex
        obtain ⟨s1, s2⟩ := Bool.and_eq_true_iff.mp sa
        have hl : (List.range k).filter (stL es) = (List.range a).filter (stL es) ++ [a] := filt_last sa k ak fun j h1 h2 => by
          unfold stL
          rw [(seg_nost s1 h1 (by omega)).2]
          rfl
        have pre : ∀ k', a ≤ k' → (((List.range a).filter (stL es)).reverse.map fun b => (List.range' b (min (segN es b) (k' - b))).reverse) = ((List.range a).filter (stL es)).reverse.map fun b => (List.range' b (segN es b)).reverse := fun k' hk' => by
          refine List.map_congr_left fun b m => ?_
          have m := List.mem_filter.mp (List.mem_reverse.mp m)
          have := st_apart (Bool.and_eq_true_iff.mp m.2).1 s1 (List.mem_range.mp m.1)
          rw [show min (segN es b) (k' - b) = segN es b by omega]
        have f1 : FC es k = (List.range' a (k - a)).reverse :: ((List.range a).filter (stL es)).reverse.map fun b => (List.range' b (segN es b)).reverse := by
          unfold FC
          rw [hl, List.reverse_append, List.reverse_cons, List.reverse_nil, List.nil_append, List.cons_append, List.nil_append, List.map_cons, pre k (by omega), show min (segN es a) (k - a) = k - a by omega]
        rw [hl, List.reverse_append, List.reverse_cons, List.reverse_nil, List.nil_append, List.cons_append, List.nil_append, List.map_cons, pre (k + 1) (by omega), show min (segN es a) (k + 1 - a) = k - a + 1 by omega]
        rw [ih, f1]
        obtain ⟨m, em⟩ : ∃ m, k - a = m + 1 := ⟨k - a - 1, by omega⟩
        have r1 : (List.range' a (k - a + 1)).reverse = k :: (List.range' a (k - a)).reverse := by
          rw [List.range'_concat, List.reverse_append]
          rw [show a + 1 * (k - a) = k by omega]
          rfl
        have r2 : (List.range' a (k - a)).reverse = (k - 1) :: (List.range' a m).reverse := by
          rw [em, List.range'_concat, List.reverse_append]
          rw [show a + 1 * m = k - 1 by omega]
          rfl
        rw [r1, r2]
        obtain ⟨c, c1, c2, c3⟩ := seg_all s1 (show a ≤ k by omega) ka
        obtain ⟨d, d1, d2, d3⟩ := seg_all s1 (show a ≤ k - 1 by omega) (by omega)
        have lk := stL_in sa (show a ≤ k by omega) ka
        rw [ledB_side c1] at lk
        unfold addN
        rw [c1]
        dsimp only
        rw [if_pos (show c.isLed = true from lk), if_neg]
        rintro (z | z)
        · omega
        · have e0 : (L0 es (k - 1)).side = d.e.side := by unfold L0; rw [d1]; rfl
          rw [e0, d3, c3] at z
          exact z rfl
      · have no : ∀ a, a < k → stL es a = true → a + segN es a ≤ k := fun a h1 h2 => Nat.le_of_not_lt fun z => hex ⟨a, h1, h2, z⟩
        rw [FC_same no, ← ih]
        have nl : ledB es k = false := by
          cases e : ledB es k with
          | false => rfl
          | true =>
            obtain ⟨a, a1, a2, a3⟩ := led_seg e
            by_cases q : a = k
            · subst q; rw [hst] at a2; cases a2
            · have := no a (by omega) a2
              omega
        unfold ledB at nl
        unfold addN
        split
        · rfl
        · rename_i c hc
          rw [hc] at nl
          rw [if_neg (by rw [show c.isLed = false from nl]; decide)]
theorem contC_F (es : List Ec) : contC es = ((List.range es.length).filter (stL es)).map fun a => List.range' a (segN es a) := by
  unfold contC
  rw [contN_F]
  unfold FC
  rw [← List.map_reverse, List.reverse_reverse, List.map_map]
  refine List.map_congr_left fun a m => ?_
  have m := List.mem_filter.mp m
  have hl := seg_le (List.mem_range.mp m.1)
  show (List.range' a (min (segN es a) (es.length - a))).reverse.reverse = _
  rw [List.reverse_reverse, show min (segN es a) (es.length - a) = segN es a by omega]
/-! ### each contour by itself -/
def OnC (c : List Nat) (L L' : Nat → LR) : Prop := ∀ n ∈ c, L n = L' n
theorem jn_out {L : Nat → LR} {i j n : Nat} (h1 : n ≠ i) (h2 : n ≠ j) : jnL L i j n = L n := by
  unfold jnL
  rw [if_neg h2, if_neg h1]
theorem jn_on {c : List Nat} {L L' : Nat → LR} {i j : Nat} (h : OnC c L L') (hi : i ∈ c) (hj : j ∈ c) : OnC c (jnL L i j) (jnL L' i j) := fun n hn => by
  unfold jnL
  rw [h i hi, h j hj, h n hn]
theorem getD_mem {c : List Nat} {k : Nat} (h : k < c.length) : c.getD k 0 ∈ c := by
  rw [List.getD_eq_getElem?_getD, List.getElem?_eq_getElem h]
  exact List.getElem_mem h
theorem row_on {c : List Nat} {L L' : Nat → LR} (h : OnC c L L') : ∀ k, k < c.length → OnC c (rowL L c k) (rowL L' c k)
  | 0, _ => h
  | k + 1, hk => jn_on (row_on h k (by omega)) (getD_mem (by omega)) (getD_mem hk)
theorem row_out {c : List Nat} {L : Nat → LR} {n : Nat} (hn : n ∉ c) : ∀ k, k < c.length → rowL L c k n = L n
  | 0, _ => rfl
  | k + 1, hk => by
    show jnL (rowL L c k) (c.getD k 0) (c.getD (k + 1) 0) n = L n
    rw [jn_out (fun z => hn (by rw [z]; exact getD_mem (by omega))) (fun z => hn (by rw [z]; exact getD_mem hk)), row_out hn k (by omega)]
theorem last_mem {c : List Nat} (h : c ≠ []) : c.getLastD 0 ∈ c ∧ c.headD 0 ∈ c := by
  constructor
  · rw [List.getLastD_eq_getLast?, List.getLast?_eq_some_getLast h]
    exact List.getLast_mem h
  · cases c with
    | nil => exact absurd rfl h
    | cons x r => exact List.mem_cons_self
theorem all_on {es : List Ec} {c : List Nat} {L L' : Nat → LR} (hne : c ≠ []) (h : OnC c L L') : OnC c (allL es L c) (allL es L' c) := by
  have hl : 0 < c.length := List.length_pos_iff.mpr hne
  have hr := row_on h (c.length - 1) (by omega)
  unfold allL
  split
  · exact jn_on hr (last_mem hne).1 (last_mem hne).2
  · exact hr
theorem all_out {es : List Ec} {c : List Nat} {L : Nat → LR} {n : Nat} (hne : c ≠ []) (hn : n ∉ c) : allL es L c n = L n := by
  have hl : 0 < c.length := List.length_pos_iff.mpr hne
  unfold allL
  split
  · rw [jn_out (fun z => hn (by rw [z]; exact (last_mem hne).1)) (fun z => hn (by rw [z]; exact (last_mem hne).2)), row_out hn _ (by omega)]
  · exact row_out hn _ (by omega)
theorem fold_out {es : List Ec} {n : Nat} : ∀ (cs : List (List Nat)) (L : Nat → LR), (∀ c ∈ cs, c ≠ [] ∧ n ∉ c) → cs.foldl (allL es) L n = L n
  | [], L, _ => rfl
  | c :: cs, L, h => by
    obtain ⟨h1, h2⟩ := h c List.mem_cons_self
    rw [List.foldl_cons, fold_out cs _ fun d m => h d (List.mem_cons_of_mem _ m), all_out h1 h2]
theorem end_LC {es : List Ec} {a i : Nat} (h : stL es a = true) (h1 : a ≤ i) (h2 : i < a + segN es a) : endL es i = LC es a (segN es a) i := by
  have sp := seg_pos (es := es) (a := a)
  have s1 := (Bool.and_eq_true_iff.mp h).1
  have ha := hop_lt (st_hop s1)
  unfold endL finL LC
  rw [List.take_length, ← allL_LJ sp, contC_F]
  obtain ⟨pre, post, e⟩ : ∃ pre post, (List.range es.length).filter (stL es) = pre ++ a :: post := List.append_of_mem (List.mem_filter.mpr ⟨List.mem_range.mpr ha, h⟩)
  have nd : ((List.range es.length).filter (stL es)).Nodup := List.Nodup.sublist List.filter_sublist List.nodup_range
  have mem : ∀ b, b ∈ pre ∨ b ∈ post → stL es b = true ∧ b ≠ a := fun b m => by
    have mb : b ∈ (List.range es.length).filter (stL es) := by
      rw [e]
      rcases m with m | m
      · exact List.mem_append_left _ m
      · exact List.mem_append_right _ (List.mem_cons_of_mem _ m)
    refine ⟨(List.mem_filter.mp mb).2, fun z => ?_⟩
    subst z
    rw [e] at nd
    have nd := List.nodup_append.mp nd
    rcases m with m | m
    · exact nd.2.2 b m b List.mem_cons_self rfl
    · exact (List.nodup_cons.mp nd.2.1).1 m
  have out : ∀ b, b ∈ pre ∨ b ∈ post → ∀ j, a ≤ j → j < a + segN es a → List.range' b (segN es b) ≠ [] ∧ j ∉ List.range' b (segN es b) := fun b m j j1 j2 => by
    obtain ⟨sb, nb⟩ := mem b m
    have sb := (Bool.and_eq_true_iff.mp sb).1
    have spb := seg_pos (es := es) (a := b)
    refine ⟨fun z => ?_, fun z => ?_⟩
    · have := congrArg List.length z
      rw [List.length_range'] at this
      simp at this
      omega
    · rw [List.mem_range'_1] at z
      rcases Nat.lt_or_gt_of_ne nb with q | q
      · have := st_apart sb s1 q
        omega
      · have := st_apart s1 sb q
        omega
  have cne : List.range' a (segN es a) ≠ [] := fun z => by
    have := congrArg List.length z
    rw [List.length_range'] at this
    simp at this
    omega
  rw [e, List.map_append, List.map_cons, List.foldl_append, List.foldl_cons]
  rw [fold_out _ _ fun c m => by
    obtain ⟨b, mb, rfl⟩ := List.mem_map.mp m
    exact out b (.inr mb) i h1 h2]
  refine all_on cne (fun j mj => ?_) i (by rw [List.mem_range'_1]; exact ⟨h1, h2⟩)
  rw [List.mem_range'_1] at mj
  exact fold_out _ _ fun c m => by
    obtain ⟨b, mb, rfl⟩ := List.mem_map.mp m
    exact out b (.inl mb) j mj.1 mj.2
/-- a led run is a contour -/
theorem run_cont {es : List Ec} (hok : ∀ c ∈ es, c.ok) (hl : LnkE es) {a : Nat} (h : stL es a = true) : Cont es a (segN es a) (sideAt es a) := by
  obtain ⟨s1, s2⟩ := Bool.and_eq_true_iff.mp h
  refine ⟨seg_pos, seg_le (hop_lt (st_hop s1)), hok, fun k c hk e => ?_, fun k c d hk e1 e2 => hl (a + k) c d e1 e2, ?_⟩
  · obtain ⟨d, d1, d2, d3⟩ := seg_all s1 (Nat.le_add_right a k) (by omega)
    rw [e] at d1
    cases d1
    exact ⟨d2, d3⟩
  · obtain ⟨d, d1, d2, d3⟩ := seg_all s1 (Nat.le_refl a) (by have := seg_pos (es := es) (a := a); omega)
    rw [ledB_side d1, d2] at s2
    rw [← d3]
    simpa using s2
end DR

/-! DOr: roads of flat programs by steps from where the tool is: cuts by their headings. -/
namespace DR
open PySem PySem.Spec L2 DL DM SX
/-! ### small headings and lengths -/
/-- a length of whole numbers: at most m by at most 4 -/
def FarOk (m : Int) (l : Rat) : Prop := ∃ i j : Int, (1 ≤ i ∧ i ≤ m) ∧ (1 ≤ j ∧ j ≤ 4) ∧ l = Rat.divInt i j
theorem FarOk.pos {m : Int} {l : Rat} (h : FarOk m l) : 0 < l := by
  obtain ⟨i, j, ⟨i1, _⟩, ⟨j1, _⟩, rfl⟩ := h
  exact divInt_pos (by omega) (by omega)
theorem FarOk.bd {l : Rat} {m : Int} (h : FarOk m l) (hm : m ≤ 1000) : Bd 10 l := by
  obtain ⟨i, j, ⟨i1, i2⟩, ⟨j1, j2⟩, rfl⟩ := h
  exact bd_divInt (by omega) (by omega) (by omega)
theorem FarOk.num {l : Rat} {m : Int} (h : FarOk m l) (hm : m ≤ 1000) : NumOk l := by
  obtain ⟨i, j, ⟨i1, i2⟩, ⟨j1, j2⟩, rfl⟩ := h
  exact numok_div (by omega) (by omega) (by omega)
theorem FarOk.len {l : Rat} {m : Int} (h : FarOk m l) (hm : m ≤ 1000) : LenOk l := ⟨h.pos, h.num hm⟩
theorem sq_bd {a m : Int} (h : -m ≤ a ∧ a ≤ m) : 0 ≤ a * a ∧ a * a ≤ m * m := by
  have h0 : a * a = (a.natAbs : Int) * (a.natAbs : Int) := by rw [← Int.natAbs_mul_self]; simp
  have hm : (a.natAbs : Int) ≤ m := by omega
  have h1 : (0 : Int) ≤ (a.natAbs : Int) := by omega
  refine ⟨by rw [h0]; exact Int.mul_nonneg h1 h1, ?_⟩
  rw [h0]
  exact Int.mul_le_mul hm hm h1 (by omega)
theorem mul_bd {a b m : Int} (ha : -m ≤ a ∧ a ≤ m) (hb : -m ≤ b ∧ b ≤ m) : -(m * m) ≤ a * b ∧ a * b ≤ m * m := by
  have h1 := (sq_bd (a := a + b) (m := 2 * m) (by omega)).1
  have h2 := (sq_bd (a := a - b) (m := 2 * m) (by omega)).1
  have e1 : (a + b) * (a + b) = a * a + b * b + 2 * (a * b) := by grind
  have e2 : (a - b) * (a - b) = a * a + b * b - 2 * (a * b) := by grind
  have e3 : 2 * m * (2 * m) = 4 * (m * m) := by grind
  have h3 := sq_bd ha
  have h4 := sq_bd hb
  omega
/-- a heading of small numbers, so far -/
theorem bc_far {p q m k : Int} {n : Nat} {l : Rat} (h0 : p ≠ 0 ∨ q ≠ 0) (hp : -m ≤ p ∧ p ≤ m) (hq : -m ≤ q ∧ q ≤ m) (hl : FarOk k l) (hk : 4 ≤ k) (hn : (2 * (m * m) * k).natAbs < 2 ^ n) : Bc n (hdc p q * l, hds p q * l) := by
  obtain ⟨i, j, ⟨i1, i2⟩, ⟨j1, j2⟩, rfl⟩ := hl
  have hP := sq_bd hp
  have hQ := sq_bd hq
  have hR := mul_bd hp hq
  have hpos := two_pos h0
  have bnd : ∀ x y : Int, -(2 * (m * m)) ≤ x → x ≤ 2 * (m * m) → 0 ≤ y → y ≤ k → (x * y).natAbs < 2 ^ n := fun x y a b c d => by
    refine Nat.lt_of_le_of_lt ?_ hn
    rw [Int.natAbs_mul, Int.natAbs_mul]
    exact Nat.mul_le_mul (by omega) (by omega)
  have jb : ((p * p + q * q) * j).natAbs < 2 ^ n := bnd _ _ (by omega) (by omega) (by omega) (by omega)
  refine ⟨(q * q - p * p) * i, 2 * p * q * i, (p * p + q * q) * j, Int.mul_pos hpos (by omega), ?_, ?_, bnd _ _ (by omega) (by omega) (by omega) (by omega), ?_, jb⟩
  · show hdc p q * Rat.divInt i j = _
    unfold hdc
    rw [Rat.divInt_mul_divInt]
  · show hds p q * Rat.divInt i j = _
    unfold hds
    rw [Rat.divInt_mul_divInt]
  · have e : 2 * p * q = 2 * (p * q) := Int.mul_assoc ..
    rw [e]
    exact bnd _ _ (by omega) (by omega) (by omega) (by omega)
/-- how far a spoke turns -/
theorem bc_turn {p q : Int} (h0 : p ≠ 0 ∨ q ≠ 0) (hp : -4 ≤ p ∧ p ≤ 4) (hq : -4 ≤ q ∧ q ≤ 4) : Bc 6 (1 - hdc p q, -hds p q) := by
  have hP := sq_bd hp
  have hQ := sq_bd hq
  have hR := mul_bd hp hq
  have hpos := two_pos h0
  have e : 2 * p * q = 2 * (p * q) := Int.mul_assoc ..
  refine ⟨2 * (p * p), -(2 * p * q), p * p + q * q, hpos, ?_, ?_, by omega, by omega, by omega⟩
  · show 1 - hdc p q = _
    unfold hdc
    have h1 : (1 : Rat) = Rat.divInt (p * p + q * q) (p * p + q * q) := (Rat.divInt_self' (by omega)).symm
    rw [h1, Rat.divInt_sub_divInt _ _ (by omega) (by omega)]
    have h2 : (p * p + q * q) * (p * p + q * q) - (q * q - p * p) * (p * p + q * q) = 2 * (p * p) * (p * p + q * q) := by grind
    rw [h2, Rat.divInt_mul_right (by omega)]
  · show -hds p q = _
    unfold hds
    rw [Rat.neg_divInt]
/-! ### rows that are cuts -/
/-- a run or an arc of small numbers -/
inductive GCut : Rc → Prop
  | run {p q : Int} {l : Rat} : hdW p q → FarOk 100 l → GCut (.run p q l)
  | arc {left : Bool} {a b p q : Int} {l : Rat} : (a ≠ 0 ∨ b ≠ 0) → (-10 ≤ a ∧ a ≤ 10) → (-10 ≤ b ∧ b ≤ 10) → FarOk 20 l → (p ≠ 0 ∨ q ≠ 0) → (-4 ≤ p ∧ p ≤ 4) → (-4 ≤ q ∧ q ≤ 4) → GCut (.arc left (some (hdc a b * l)) (some (hds a b * l)) p q)
/-- hops by small numbers -/
def GHop (c : Rc) : Prop := ∃ i j k m : Int, (-40 ≤ i ∧ i ≤ 40) ∧ (-40 ≤ k ∧ k ≤ 40) ∧ (1 ≤ j ∧ j ≤ 3) ∧ (1 ≤ m ∧ m ≤ 3) ∧ c = .hop (some (Rat.divInt i j)) (some (Rat.divInt k m))
/-- the road so far of rows by, paces, sides, hops, cuts -/
structure Lr (c : Nat) (rs : List Rc) (s : Rn) (es : List Ec) : Prop where
  fl : Fl c rs s
  fr : s.fl = []
  md : s.made = es.map (·.e)
  ok : ∀ x ∈ es, x.ok
  lk : LnkE es
  en : ∀ x, es.getLast? = some x → x.e.st.fin = s.place
  by_ : s.by_ = true
  sd : Bd 40 s.side
theorem Lr.fs {c : Nat} {rs : List Rc} {s : Rn} {es : List Ec} (h : Lr c rs s es) : s.fs = [] := h.fl.fs0 h.fr
theorem Lr.start : Lr 1 [.mode true] (nxR { rn0 with by_ := true }) [] :=
  ⟨Fl.nil.mode (by decide) true, rfl, rfl, fun x m => (nomatch m), fun k c d e => (by cases e), fun x e => (by cases e), rfl, bd_zero.mono (by decide)⟩
section
variable {c : Nat} {rs : List Rc} {s : Rn} {es : List Ec}
theorem Lr.mono {d : Nat} (h : Lr c rs s es) (e : c ≤ d) : Lr d rs s es := ⟨h.fl.mono e, h.fr, h.md, h.ok, h.lk, h.en, h.by_, h.sd⟩
theorem Lr.pace (h : Lr c rs s es) (hl : rs.length < 80) {g : Int} (hg : 0 ≤ g ∧ g ≤ 9) : Lr c (rs ++ [.pace g]) (nxR { s with pace := g }) es :=
  ⟨h.fl.pace (by omega) hg, h.fr, h.md, h.ok, h.lk, h.en, h.by_, h.sd⟩
theorem numok_bd {u : Rat} (h : NumOk u) : Bd 14 u := ⟨by have := h.1; omega, by have := h.2; omega⟩
theorem Lr.side (h : Lr c rs s es) (hl : rs.length < 80) {u : Rat} (hu : NumOk u) : Lr c (rs ++ [.side u]) (nxR { s with side := u }) es :=
  ⟨h.fl.side (by omega) hu, h.fr, h.md, h.ok, h.lk, h.en, h.by_, (numok_bd hu).mono (by decide)⟩
theorem lnk_snoc (h : LnkE es) (en : ∀ x, es.getLast? = some x → x.e.st.fin = s.place) {y : Ec} (hy : y.e.st.beg = s.place) : LnkE (es ++ [y]) := fun k c d e1 e2 => by
  have hk := (List.getElem?_eq_some_iff.mp e2).1
  rw [List.length_append] at hk
  have hk : k + 1 < es.length + 1 := hk
  rw [List.getElem?_append_left (by omega)] at e1
  by_cases q : k + 1 < es.length
  · rw [List.getElem?_append_left q] at e2
    exact h k c d e1 e2
  · have ek : k + 1 = es.length := by omega
    rw [List.getElem?_append_right (by omega), ek, Nat.sub_self] at e2
    cases e2
    rw [hy]
    refine en c ?_
    rw [List.getLast?_eq_getElem?, show es.length - 1 = k by omega]
    exact e1
/-- a step more -/
theorem Lr.step {d : Nat} (h : Lr c rs s es) {r : Rc} {y : Ec} {st : Stp} (fl : Fl d (rs ++ [r]) (nxR (mkR s st))) (hy : y.e = ⟨st, s.pace, s.side, s.trail⟩) (hb : st.beg = s.place) (ok : y.ok) : Lr d (rs ++ [r]) (nxR (mkR s st)) (es ++ [y]) := by
  refine ⟨fl, h.fr, ?_, fun x m => ?_, lnk_snoc h.lk h.en (by rw [hy]; exact hb), fun x e => ?_, h.by_, h.sd⟩
  · show s.made ++ [⟨st, s.pace, if abB s.fs then -s.side else s.side, s.trail⟩] = (es ++ [y]).map (·.e)
    rw [List.map_append, h.md, List.map_cons, List.map_nil, hy, h.fs]
    rfl
  · rcases List.mem_append.mp m with z | z
    · exact h.ok x z
    · rw [List.mem_singleton.mp z]
      exact ok
  · rw [List.getLast?_concat] at e
    cases e
    rw [hy]
    rfl
theorem Lr.hop (h : Lr c rs s es) (hl : rs.length < 80) (hm : es.length < 100) (hc : c + 8 ≤ 400) {r : Rc} (hr : GHop r) : ∃ t y, Lr (c + 8) (rs ++ [r]) t (es ++ [y]) := by
  obtain ⟨i, j, k, m, hi, hk, hj, hm', rfl⟩ := hr
  have n1 : NumOk (Rat.divInt i j) := numok_div (by omega) (by omega) (by omega)
  have n2 : NumOk (Rat.divInt k m) := numok_div (by omega) (by omega) (by omega)
  have b0 : Bc 7 (Rat.divInt i j, Rat.divInt k m) := by
    have im : -120 ≤ i * m ∧ i * m ≤ 120 := by
      rcases (show m = 1 ∨ m = 2 ∨ m = 3 by omega) with e | e | e <;> subst e <;> omega
    have kj : -120 ≤ k * j ∧ k * j ≤ 120 := by
      rcases (show j = 1 ∨ j = 2 ∨ j = 3 by omega) with e | e | e <;> subst e <;> omega
    have jm : 1 ≤ j * m ∧ j * m ≤ 9 := by
      rcases (show m = 1 ∨ m = 2 ∨ m = 3 by omega) with e | e | e <;> subst e <;> omega
    refine ⟨i * m, k * j, j * m, by omega, ?_, ?_, by omega, by omega, by omega⟩
    · show Rat.divInt i j = _
      rw [Rat.divInt_mul_right (by omega)]
    · show Rat.divInt k m = _
      rw [Int.mul_comm j m, Rat.divInt_mul_right (by omega)]
  have e : spotR s (some (Rat.divInt i j)) (some (Rat.divInt k m)) = (s.place.1 + Rat.divInt i j, s.place.2 + Rat.divInt k m) := by
    rw [spot0 h.fs, h.by_]
    rfl
  have b1 : Bc (c + 8) (spotR s (some (Rat.divInt i j)) (some (Rat.divInt k m))) := by
    rw [e]
    exact (h.fl.bc.add b0).mono (by omega)
  have mdl : s.made.length < 100 := by rw [h.md, List.length_map]; exact hm
  refine ⟨_, ⟨⟨.hop s.place (spotR s (some (Rat.divInt i j)) (some (Rat.divInt k m))), s.pace, s.side, s.trail⟩, 0, (0, 0), (0, 0)⟩, h.step (h.fl.hop (by omega) mdl n1 n2 (by rw [h.fs]; show c + 58 * 0 + 30 ≤ 1800; omega) b1) rfl rfl ⟨⟨bd2_of h.fl.bc (by omega), bd2_of b1 (by omega)⟩, fun z => (by cases z)⟩⟩
theorem Lr.cut (h : Lr c rs s es) (hl : rs.length < 80) (hm : es.length < 100) (hc : c + 22 ≤ 400) {r : Rc} (hr : GCut r) : ∃ t y, Lr (c + 22) (rs ++ [r]) t (es ++ [y]) := by
  have mdl : s.made.length < 100 := by rw [h.md, List.length_map]; exact hm
  have z58 : c + 58 * s.fs.length + 30 ≤ 1800 := by rw [h.fs]; show c + 58 * 0 + 30 ≤ 1800; omega
  cases hr with
  | @run p q l hh hf =>
    obtain ⟨h0, _, _⟩ := hdW_ok hh
    have b0 : Bc 21 (hdc p q * l, hds p q * l) := bc_far (m := 99) (k := 100) h0 (by have := hh.1; omega) (by have := hh.2.1; omega) hf (by omega) (by decide)
    have e : runE s p q l = (s.place.1 + hdc p q * l, s.place.2 + hds p q * l) := by
      unfold runE
      rw [h.fs]
      rfl
    have b1 : Bc (c + 22) (runE s p q l) := by
      rw [e]
      exact (h.fl.bc.add b0).mono (by omega)
    have bh := hdW_bc hh
    refine ⟨_, ⟨⟨.line s.place (runE s p q l), s.pace, s.side, s.trail⟩, l, (hdc p q, hds p q), (hdc p q, hds p q)⟩, h.step (h.fl.run (by omega) mdl hh (hf.len (by omega)) (by omega) b1) rfl rfl ⟨⟨bd2_of h.fl.bc (by omega), bd2_of b1 (by omega)⟩, fun _ => ⟨⟨hf.pos, hd_one h0, hd_one h0, ⟨rfl, e⟩, ⟨bd2_of h.fl.bc (by omega), bd2_of b1 (by omega)⟩, (hf.bd (by omega)).mono (by decide), bd2_of bh (by decide), bd2_of bh (by decide)⟩, h.sd⟩⟩⟩
  | @arc left a b p q l h0 ha hb hf g0 hp hq =>
    have w : arcW left s.fs = 1 ∨ arcW left s.fs = -1 := by
      unfold arcW
      split
      · exact .inl rfl
      · exact .inr rfl
    generalize hW : arcW left s.fs = W at w
    have hu := hd_one h0
    have gw : W * p ≠ 0 ∨ q ≠ 0 := by rcases w with e | e <;> subst e <;> omega
    have gp : -4 ≤ W * p ∧ W * p ≤ 4 := by rcases w with e | e <;> subst e <;> omega
    have hv := hd_one gw
    have b0 : Bc 12 (hdc a b * l, hds a b * l) := bc_far (m := 10) (k := 20) h0 ha hb hf (by omega) (by decide)
    have b2 := b0.turn (bc_turn gw gp hq)
    have e : spotR s (some (hdc a b * l)) (some (hds a b * l)) = (s.place.1 + hdc a b * l, s.place.2 + hds a b * l) := by
      rw [spot0 h.fs, h.by_]
      rfl
    have eE : arcE s (spotR s (some (hdc a b * l)) (some (hds a b * l))) W p q = (s.place.1 + (hdc a b * l * (1 - hdc (W * p) q) - hds a b * l * -hds (W * p) q), s.place.2 + (hdc a b * l * -hds (W * p) q + hds a b * l * (1 - hdc (W * p) q))) := by
      rw [e]
      unfold arcE
      refine Prod.ext ?_ ?_
      · simp only
        grind
      · simp only
        grind
    have be : Bc (c + 13) (spotR s (some (hdc a b * l)) (some (hds a b * l))) := by
      rw [e]
      exact (h.fl.bc.add b0).mono (by omega)
    have bE : Bc (c + 22) (arcE s (spotR s (some (hdc a b * l)) (some (hds a b * l))) W p q) := by
      rw [eE]
      exact (h.fl.bc.add b2).mono (by omega)
    have far : farP (spotR s (some (hdc a b * l)) (some (hds a b * l))) s.place = true := by
      rw [e]
      exact (far_hd h0 hf.pos).2
    have bs := bc_far (m := 10) (k := 20) (n := 12) h0 ha hb ⟨20, 1, ⟨by decide, by decide⟩, ⟨by decide, by decide⟩, rfl⟩ (by omega) (by decide)
    have n1 : NumOk (hdc a b * l) ∧ NumOk (hds a b * l) := by
      obtain ⟨i, j, ⟨i1, i2⟩, ⟨j1, j2⟩, rfl⟩ := hf
      have hA := sq_bd ha
      have hB := sq_bd hb
      have hR := mul_bd ha hb
      have hpos := two_pos h0
      have bx : ∀ x y : Int, -200 ≤ x → x ≤ 200 → 1 ≤ y → y ≤ 20 → (x * y).natAbs ≤ 9999 := fun x y a1 a2 a3 a4 => by
        rw [Int.natAbs_mul]
        have := Nat.mul_le_mul (show x.natAbs ≤ 200 by omega) (show y.natAbs ≤ 20 by omega)
        omega
      have dj : 0 < (a * a + b * b) * j ∧ (a * a + b * b) * j ≤ 999 := by
        rcases (show j = 1 ∨ j = 2 ∨ j = 3 ∨ j = 4 by omega) with e | e | e | e <;> subst e <;> omega
      have e2 : 2 * a * b = 2 * (a * b) := Int.mul_assoc ..
      constructor
      · unfold hdc
        rw [Rat.divInt_mul_divInt]
        exact numok_div dj.1 (bx _ _ (by omega) (by omega) i1 i2) dj.2
      · unfold hds
        rw [Rat.divInt_mul_divInt]
        exact numok_div dj.1 (bx _ _ (by omega) (by omega) i1 i2) dj.2
    have hh : hdW p q := ⟨by omega, by omega, by omega⟩
    have ww := w_sq1 w
    have bsp : Bc 9 (hdc a b, hds a b) := bc_hd (k := 4) h0 (by omega) (by omega)
    have bhv : Bc 7 (hdc (W * p) q, hds (W * p) q) := bc_hd (k := 3) gw (by omega) (by omega)
    have bv := bsp.turn bhv
    have bw : Bd 2 (W : Rat) := w_bd w
    have bu2 := bd2_of bsp (Nat.le_refl 9)
    have bv2 := bd2_of bv (Nat.le_refl (9 + 7 + 1))
    have fl := h.fl.arc (left := left) (x := some (hdc a b * l)) (y := some (hds a b * l)) (p := p) (q := q) (d := c + 22) (e := c + 13) (by omega) mdl n1.1 n1.2 hh z58 (by omega) be (by omega) far (by rw [hW]; exact bE)
    rw [hW] at fl
    refine ⟨_, ⟨⟨.arc s.place (arcE s (spotR s (some (hdc a b * l)) (some (hds a b * l))) W p q) (spotR s (some (hdc a b * l)) (some (hds a b * l))) W, s.pace, s.side, s.trail⟩, l, ((W : Rat) * hds a b, -((W : Rat) * hdc a b)), ((W : Rat) * (hdc a b * hds (W * p) q + hds a b * hdc (W * p) q), -((W : Rat) * (hdc a b * hdc (W * p) q - hds a b * hds (W * p) q)))⟩, h.step fl rfl rfl ⟨⟨bd2_of h.fl.bc (by omega), bd2_of bE (by omega), bd2_of be (by omega)⟩, fun _ => ⟨⟨hf.pos, ?_, ?_, ⟨w, ?_, ?_⟩, ⟨bd2_of h.fl.bc (by omega), bd2_of bE (by omega), bd2_of be (by omega)⟩, (hf.bd (by omega)).mono (by decide), ⟨(bw.mul bu2.2).mono (by decide), (bw.mul bu2.1).neg.mono (by decide)⟩, ⟨(bw.mul bv2.2).mono (by decide), (bw.mul bv2.1).neg.mono (by decide)⟩⟩, h.sd⟩⟩⟩
    · show (W : Rat) * hds a b * ((W : Rat) * hds a b) + -((W : Rat) * hdc a b) * -((W : Rat) * hdc a b) = 1
      have : (W : Rat) * hds a b * ((W : Rat) * hds a b) + -((W : Rat) * hdc a b) * -((W : Rat) * hdc a b) = (W : Rat) * (W : Rat) * (hdc a b * hdc a b + hds a b * hds a b) := by
        generalize (W : Rat) = x
        grind
      rw [this, ww, hu, Rat.mul_one]
    · show (W : Rat) * (hdc a b * hds (W * p) q + hds a b * hdc (W * p) q) * ((W : Rat) * (hdc a b * hds (W * p) q + hds a b * hdc (W * p) q)) + -((W : Rat) * (hdc a b * hdc (W * p) q - hds a b * hds (W * p) q)) * -((W : Rat) * (hdc a b * hdc (W * p) q - hds a b * hds (W * p) q)) = 1
      generalize hdc (W * p) q = x at *
      generalize hds (W * p) q = y at *
      have : (W : Rat) * (hdc a b * y + hds a b * x) * ((W : Rat) * (hdc a b * y + hds a b * x)) + -((W : Rat) * (hdc a b * x - hds a b * y)) * -((W : Rat) * (hdc a b * x - hds a b * y)) = (W : Rat) * (W : Rat) * ((hdc a b * hdc a b + hds a b * hds a b) * (x * x + y * y)) := by
        generalize (W : Rat) = z
        grind
      rw [this, ww, hu, hv, Rat.mul_one, Rat.mul_one]
    · rw [e]
      refine Prod.ext ?_ ?_
      · show s.place.1 = s.place.1 + hdc a b * l + (W : Rat) * -((W : Rat) * hdc a b) * l
        have : (W : Rat) * -((W : Rat) * hdc a b) * l = -((W : Rat) * (W : Rat) * (hdc a b * l)) := by
          generalize (W : Rat) = z
          grind
        rw [this, ww]
        grind
      · show s.place.2 = s.place.2 + hds a b * l - (W : Rat) * ((W : Rat) * hds a b) * l
        have : (W : Rat) * ((W : Rat) * hds a b) * l = (W : Rat) * (W : Rat) * (hds a b * l) := by
          generalize (W : Rat) = z
          grind
        rw [this, ww]
        grind
    · rw [eE, e]
      refine Prod.ext ?_ ?_
      · show s.place.1 + (hdc a b * l * (1 - hdc (W * p) q) - hds a b * l * -hds (W * p) q) = s.place.1 + hdc a b * l + (W : Rat) * -((W : Rat) * (hdc a b * hdc (W * p) q - hds a b * hds (W * p) q)) * l
        generalize hdc (W * p) q = x at *
        generalize hds (W * p) q = y at *
        have : (W : Rat) * -((W : Rat) * (hdc a b * x - hds a b * y)) * l = -((W : Rat) * (W : Rat) * ((hdc a b * x - hds a b * y) * l)) := by
          generalize (W : Rat) = z
          grind
        rw [this, ww]
        grind
      · show s.place.2 + (hdc a b * l * -hds (W * p) q + hds a b * l * (1 - hdc (W * p) q)) = s.place.2 + hds a b * l - (W : Rat) * ((W : Rat) * (hdc a b * hds (W * p) q + hds a b * hdc (W * p) q)) * l
        generalize hdc (W * p) q = x at *
        generalize hds (W * p) q = y at *
        have : (W : Rat) * ((W : Rat) * (hdc a b * y + hds a b * x)) * l = (W : Rat) * (W : Rat) * ((hdc a b * y + hds a b * x) * l) := by
          generalize (W : Rat) = z
          grind
        rw [this, ww]
        grind
end
end DR

/-! DOs: promises of the laws' own drawing of led programs. -/
namespace DL
open PySem PySem.Spec L2 PyProof.Rows
section
variable {X : Cx} {Z : Ent} {pos : Pos}
end
end DL
namespace DR
open PySem PySem.Spec L2 DL DM SX
/-- a row as a text -/
def rowD (c : Rc) : PyData := .str (S c.w.t)
def SideOk (m : Int) (s : Rat) : Prop := ∃ i j : Int, (i ≠ 0 ∧ -m ≤ i ∧ i ≤ m) ∧ (1 ≤ j ∧ j ≤ 6) ∧ s = Rat.divInt i j
theorem SideOk.num {m : Int} {s : Rat} (h : SideOk m s) (hm : m ≤ 1000) : NumOk s := by
  obtain ⟨i, j, ⟨i0, i1, i2⟩, ⟨j1, j2⟩, rfl⟩ := h
  exact numok_div (by omega) (by omega) (by omega)
/-! what is told of a road -/
def f_wright : FP := fun ds Q => ∃ (rs : List Rc) (t : Rn) (es : List Ec), ds = [.list (rs.map rowD)] ∧ (PrOk (rs.map Rc.w) ∧ Runs rs (.ok t) ∧ t.made = es.map (·.e) ∧ (∀ c ∈ es, c.ok) ∧ LnkE es ∧ es.length < 1000 ∧ rs.length ≤ 80 ∧ ∀ r ∈ rs, RcW r) ∧ Q (.d (.bool true))
theorem fm_wright : FMono f_wright := ⟨fun ds Q Q' hq ⟨rs, t, es, h1, h2, h⟩ => ⟨rs, t, es, h1, h2, hq _ h⟩⟩
instance : FMono f_wright := fm_wright
end DR

/-! DOt: what the walks of the law's led roads lean on. -/
namespace DR
open PySem PySem.Spec L2 DL DM SX
theorem lastF_snoc {p : Rat × Rat} {l : List Stp} {s : Stp} : DR.lastF p (l ++ [s]) = s.fin := by
  unfold DR.lastF
  rw [List.getLast?_concat]
theorem led_at {es : List Ec} {k : Nat} {c : Ec} (e : es[k]? = some c) (h : c.e.st.isHop = false) : ledB es k = !decide (c.e.side = 0) := by
  rw [ledB_side e, h]
  by_cases q : c.e.side = 0
  · rw [q]; rfl
  · rw [decide_eq_false q]
    have : (c.e.side == 0) = false := by simpa using q
    rw [this]
    rfl
end DR

/-! DOu: rows written by hand are the rows' texts. -/
namespace DR
open PySem PySem.Spec L2 DL DM SX
theorem FarOk.mono {m k : Int} {l : Rat} (h : FarOk m l) (e : m ≤ k) : FarOk k l := by
  obtain ⟨i, j, ⟨i1, i2⟩, hj, rfl⟩ := h
  exact ⟨i, j, ⟨i1, by omega⟩, hj, rfl⟩
end DR

/-! DOv: many hops, many cuts. -/
namespace DR
open PySem PySem.Spec L2 DL DM SX
section
variable {c : Nat} {rs : List Rc} {s : Rn} {es : List Ec}
theorem Lr.hops (h : Lr c rs s es) : ∀ {cs : List Rc}, (∀ r ∈ cs, GHop r) → rs.length + cs.length ≤ 80 → es.length + cs.length ≤ 100 → c + 8 * cs.length ≤ 400 → ∃ t ys, Lr (c + 8 * cs.length) (rs ++ cs) t ys ∧ ys.length = es.length + cs.length := by
  intro cs
  induction cs generalizing c rs s es with
  | nil => intro _ _ _ _; exact ⟨s, es, by rw [List.append_nil]; exact h, rfl⟩
  | cons r cs ih =>
    intro hr hl hm hc
    rw [List.length_cons] at hl hm hc
    obtain ⟨t, y, h2⟩ := h.hop (by omega) (by omega) (by omega) (hr r (List.mem_cons_self ..))
    obtain ⟨u, ys, h3, h4⟩ := ih h2 (fun q m => hr q (List.mem_cons_of_mem _ m)) (by rw [List.length_append]; show rs.length + 1 + _ ≤ _; omega) (by rw [List.length_append]; show es.length + 1 + _ ≤ _; omega) (by omega)
    refine ⟨u, ys, ?_, by rw [h4, List.length_append]; show es.length + 1 + cs.length = es.length + (cs.length + 1); omega⟩
    rw [List.append_assoc] at h3
    exact h3.mono (by rw [List.length_cons]; omega)
theorem Lr.cuts (h : Lr c rs s es) : ∀ {cs : List Rc}, (∀ r ∈ cs, GCut r) → rs.length + cs.length ≤ 80 → es.length + cs.length ≤ 100 → c + 22 * cs.length ≤ 400 → ∃ t ys, Lr (c + 22 * cs.length) (rs ++ cs) t ys ∧ ys.length = es.length + cs.length := by
  intro cs
  induction cs generalizing c rs s es with
  | nil => intro _ _ _ _; exact ⟨s, es, by rw [List.append_nil]; exact h, rfl⟩
  | cons r cs ih =>
    intro hr hl hm hc
    rw [List.length_cons] at hl hm hc
    obtain ⟨t, y, h2⟩ := h.cut (by omega) (by omega) (by omega) (hr r (List.mem_cons_self ..))
    obtain ⟨u, ys, h3, h4⟩ := ih h2 (fun q m => hr q (List.mem_cons_of_mem _ m)) (by rw [List.length_append]; show rs.length + 1 + _ ≤ _; omega) (by rw [List.length_append]; show es.length + 1 + _ ≤ _; omega) (by omega)
    refine ⟨u, ys, ?_, by rw [h4, List.length_append]; show es.length + 1 + cs.length = es.length + (cs.length + 1); omega⟩
    rw [List.append_assoc] at h3
    exact h3.mono (by rw [List.length_cons]; omega)
/-- what the law asks of its rows -/
theorem Lr.right (h : Lr c rs s es) (hl : rs.length ≤ 80) (he : es.length < 1000) {Q : Res → Prop} (q : Q (.d (.bool true))) : f_wright [.list (rs.map rowD)] Q :=
  ⟨rs, s, es, rfl, ⟨h.fl.pr hl, h.fl.fl.runs, h.md, h.ok, h.lk, he, hl, fun r m => (h.fl.ok r m).1⟩, q⟩
end
end DR

/-! DOw: rows of cuts and paces; promises of further drawing of led programs. -/
namespace DR
open PySem PySem.Spec L2 DL DM SX
section
variable {c : Nat} {rs : List Rc} {s : Rn} {es : List Ec}
end
end DR

/-! DOx: closed contours: longer lengths, promises. -/
namespace DR
open PySem PySem.Spec L2 DL DM SX
/-- a length of whole numbers: at most 160 by at most 16 -/
def Far2 (l : Rat) : Prop := ∃ i j : Int, (1 ≤ i ∧ i ≤ 160) ∧ (1 ≤ j ∧ j ≤ 16) ∧ l = Rat.divInt i j
theorem Far2.pos {l : Rat} (h : Far2 l) : 0 < l := by
  obtain ⟨i, j, ⟨i1, _⟩, ⟨j1, _⟩, rfl⟩ := h
  exact divInt_pos (by omega) (by omega)
theorem Far2.bd {l : Rat} (h : Far2 l) : Bd 10 l := by
  obtain ⟨i, j, ⟨i1, i2⟩, ⟨j1, j2⟩, rfl⟩ := h
  exact bd_divInt (by omega) (by omega) (by omega)
theorem Far2.num {l : Rat} (h : Far2 l) : NumOk l := by
  obtain ⟨i, j, ⟨i1, i2⟩, ⟨j1, j2⟩, rfl⟩ := h
  exact numok_div (by omega) (by omega) (by omega)
section
variable {c : Nat} {rs : List Rc} {s : Rn} {es : List Ec}
end
/-! promises -/
end DR

/-! DOy: a law's head over a few objects that are named by their addresses. -/
noncomputable section
namespace DL
open PySem PySem.W HandSHeadRun
end DL

/-! DOz: joints as they are in the end; the way goes on without a gap; its steps are steps. -/
namespace DR
open PySem PySem.Spec L2 DL DM SX
section
variable {es : List Ec} {a n t : Nat} {s : Rat} {c d : Ec}
theorem jnL_one {L : Nat → LR} {i j : Nat} : jnL L i j i = joinA j (L i) (L j) := by
  unfold jnL
  by_cases h : i = j
  · rw [if_pos h, if_pos h]
  · rw [if_neg h, if_pos rfl]
theorem jnL_bbB {L : Nat → LR} {i j : Nat} : (jnL L i j j).bb = if i = j then (L j).bb else (joinB (L i) (L j)).bb := by
  unfold jnL
  rw [if_pos rfl]
  by_cases h : i = j
  · rw [if_pos h, if_pos h, joinA_bb, h]
  · rw [if_neg h, if_neg h]
theorem jnL_otherA {L : Nat → LR} {i j m : Nat} (h : m ≠ i) : (jnL L i j m).af = (L m).af ∧ (jnL L i j m).eb = (L m).eb ∧ (jnL L i j m).um = (L m).um := by
  unfold jnL
  split
  · rename_i e
    subst e
    rw [if_neg (fun z => h z.symm)]
    unfold joinB
    split <;> exact ⟨rfl, rfl, rfl⟩
  · try rw [if_neg h]
    exact ⟨rfl, rfl, rfl⟩
theorem jnL_otherB {L : Nat → LR} {i j m : Nat} (h : m ≠ j) : (jnL L i j m).bb = (L m).bb := by
  unfold jnL
  rw [if_neg h]
  split
  · rename_i e
    rw [joinA_bb, e]
  · rfl
theorem LJ_keepA : ∀ k, t + 1 ≤ k → (LJ es a n k (a + t)).af = (LJ es a n (t + 1) (a + t)).af ∧ (LJ es a n k (a + t)).eb = (LJ es a n (t + 1) (a + t)).eb ∧ (LJ es a n k (a + t)).um = (LJ es a n (t + 1) (a + t)).um
  | 0, h => absurd h (Nat.not_succ_le_zero _)
  | k + 1, h => by
    rcases Nat.lt_or_ge t k with q | q
    · obtain ⟨i1, i2, i3⟩ := LJ_keepA k q
      obtain ⟨j1, j2, j3⟩ := jnL_otherA (L := LJ es a n k) (i := a + k) (j := a + nxt n k) (m := a + t) (by omega)
      exact ⟨j1.trans i1, j2.trans i2, j3.trans i3⟩
    · rw [show k = t by omega]
      exact ⟨rfl, rfl, rfl⟩
theorem LJ_keepB : ∀ k, t + 1 ≤ k → k ≤ n → (LJ es a n k (a + nxt n t)).bb = (LJ es a n (t + 1) (a + nxt n t)).bb
  | 0, h, _ => absurd h (Nat.not_succ_le_zero _)
  | k + 1, h, hn => by
    rcases Nat.lt_or_ge t k with q | q
    · have ih := LJ_keepB k q (by omega)
      have ne : a + nxt n t ≠ a + nxt n k := by
        unfold nxt
        split <;> split <;> omega
      exact (jnL_otherB ne).trans ih
    · rw [show k = t by omega]
theorem LJ_free : ∀ t k, t ≤ k → (LJ es a n t (a + k)).af = none ∧ (LJ es a n t (a + k)).um = false
  | 0, k, _ => by
    show (L0 es (a + k)).af = none ∧ (L0 es (a + k)).um = false
    unfold L0
    split <;> exact ⟨rfl, rfl⟩
  | t + 1, k, h => by
    obtain ⟨i1, i2⟩ := LJ_free t k (by omega)
    obtain ⟨j1, j2, j3⟩ := jnL_otherA (L := LJ es a n t) (i := a + t) (j := a + nxt n t) (m := a + k) (by omega)
    exact ⟨j1.trans i1, j3.trans i2⟩
/-- a joint in the end: met, gone round, cut back, or unmet -/
structure JMeet (es : List Ec) (a n t : Nat) : Prop where
  af : (LC es a n (a + t)).af = none
  eb : (LC es a n (a + t)).eb = 0
  bb : (LC es a n (a + nxt n t)).bb = 0
structure JRound (es : List Ec) (a n t : Nat) : Prop where
  af : (LC es a n (a + t)).af = some (a + nxt n t)
  eb : (LC es a n (a + t)).eb = 0
  bb : (LC es a n (a + nxt n t)).bb = 0
structure JBack (es : List Ec) (a n t : Nat) (x : Rat) : Prop where
  af : (LC es a n (a + t)).af = none
  eb : (LC es a n (a + t)).eb = x
  bb : (LC es a n (a + nxt n t)).bb = x
theorem joint_end (hn : t < n) (ht : t < jl es a n) (hc : CutK es a n s t c) (hd : CutK es a n s (nxt n t) d) :
    (jkind c.v d.u s = 0 ∧ JMeet es a n t) ∨ (jkind c.v d.u s = 1 ∧ JRound es a n t) ∨ (jkind c.v d.u s = 2 ∧ (c.e.st.isLn = true ∧ d.e.st.isLn = true) ∧ JBack es a n t (backR c.v d.u s)) ∨ (LC es a n (a + t)).um = true := by
  obtain ⟨kA1, kA2, kA3⟩ := LJ_keepA (es := es) (a := a) (n := n) (t := t) (jl es a n) ht
  have kB := LJ_keepB (es := es) (a := a) (n := n) (t := t) (jl es a n) ht jl_le
  obtain ⟨f1, f2⟩ := LJ_free (es := es) (a := a) (n := n) t t (Nat.le_refl _)
  have f3 := LJ_eb0 (es := es) (a := a) (n := n) t t (Nat.le_refl _)
  have f4 := LJ_bb0 (es := es) (a := a) (n := n) t (nxt n t) (by unfold nxt; split <;> omega) hn
  have e1 : LJ es a n (t + 1) (a + t) = joinA (a + nxt n t) (LJ es a n t (a + t)) (LJ es a n t (a + nxt n t)) := jnL_one
  have e2 : (LJ es a n (t + 1) (a + nxt n t)).bb = if a + t = a + nxt n t then (LJ es a n t (a + nxt n t)).bb else (joinB (LJ es a n t (a + t)) (LJ es a n t (a + nxt n t))).bb := jnL_bbB
  have hk : jkind (LJ es a n t (a + t)).v (LJ es a n t (a + nxt n t)).u (LJ es a n t (a + t)).side = jkind c.v d.u s := by rw [hc.v, hd.u, hc.side]
  have hl : ((LJ es a n t (a + t)).st.isLn && (LJ es a n t (a + nxt n t)).st.isLn) = (c.e.st.isLn && d.e.st.isLn) := by rw [hc.st, hd.st]
  have hb : backR (LJ es a n t (a + t)).v (LJ es a n t (a + nxt n t)).u (LJ es a n t (a + t)).side = backR c.v d.u s := by rw [hc.v, hd.u, hc.side]
  rw [← show LC es a n = LJ es a n (jl es a n) from rfl] at kA1 kA2 kA3 kB
  unfold joinA at e1
  unfold joinB at e2
  rw [hk, hl, hb] at e1 e2
  have e3 : jkind c.v d.u s ≠ 2 → (LJ es a n (t + 1) (a + nxt n t)).bb = 0 := fun ne => by
    rw [e2]
    split
    · exact f4
    · rw [if_neg fun z => ne z.1]
      exact f4
  rcases jkind_cases c.v d.u s with k | k | k
  · rw [k, if_neg (by decide), if_neg (by decide)] at e1
    exact .inl ⟨k, by rw [kA1, e1, f1], by rw [kA2, e1, f3], by rw [kB, e3 (by rw [k]; decide)]⟩
  · rw [k, if_pos rfl] at e1
    refine .inr (.inl ⟨k, ?_, ?_, by rw [kB, e3 (by rw [k]; decide)]⟩)
    · rw [kA1, e1]
    · rw [kA2, e1]
      exact f3
  · rw [k, if_neg (by decide), if_pos rfl] at e1
    cases l : c.e.st.isLn && d.e.st.isLn with
    | false =>
      rw [l, if_neg (by decide)] at e1
      refine .inr (.inr (.inr ?_))
      rw [kA3, e1]
    | true =>
      obtain ⟨l1, l2⟩ := Bool.and_eq_true_iff.mp l
      rw [l, if_pos rfl] at e1
      have ne : t ≠ nxt n t := fun z => by
        rw [← z] at hd
        have := hc.uniq hd.at_
        subst this
        have hh := hc.g.h
        cases e : c.e.st with
        | hop b f => rw [e] at l1; cases l1
        | arc b f q w => rw [e] at l1; cases l1
        | line b f =>
          rw [e] at hh
          have hh : c.v = c.u := hh.1
          rw [hh] at k
          have := jkind_two k
          unfold cr at this
          grind
      rw [if_neg (by omega), k, l, if_pos ⟨rfl, rfl⟩] at e2
      refine .inr (.inr (.inl ⟨k, ⟨l1, l2⟩, ?_, ?_, by rw [kB, e2]⟩))
      · rw [kA1, e1]
        exact f1
      · rw [kA2, e1]
/-- the last one of a contour that is not shut -/
theorem open_end (h : Cont es a n s) (hs : ¬ jl es a n = n) : (LC es a n (a + (n - 1))).af = none ∧ (LC es a n (a + (n - 1))).eb = 0 ∧ (LC es a n (a + 0)).bb = 0 := by
  have n0 := h.n0
  have e : jl es a n = n - 1 := by
    unfold jl at hs ⊢
    split
    · rename_i z
      rw [if_pos z] at hs
      exact absurd rfl hs
    · rfl
  unfold LC
  rw [e]
  exact ⟨(LJ_free (n - 1) (n - 1) (Nat.le_refl _)).1, LJ_eb0 _ _ (Nat.le_refl _), LJ_bb0 _ _ (.inr rfl) (by omega)⟩
/-! ### where led cuts begin and end -/
def offP (p h : Rat × Rat) (s x : Rat) : Rat × Rat := (p.1 + (-h.2 * s + h.1 * x), p.2 + (h.1 * s + h.2 * x))
theorem wsq {w : Int} (h : w = 1 ∨ w = -1) : (w : Rat) * w = 1 := w_sq1 h
theorem ldP_off {l : LR} {r : Rat} {p h : Rat × Rat} {x : Rat} (g : CutG l.st r l.u l.v) (hp : ∀ b f q w, l.st = .arc b f q w → p = (q.1 + (w : Rat) * h.2 * r, q.2 - (w : Rat) * h.1 * r) ∧ x = 0) : ldP l r p h x = offP p h l.side x := by
  have r0 := g.ne
  unfold ldP offP
  cases e : l.st with
  | hop b f => rfl
  | line b f => rfl
  | arc b f q w =>
    obtain ⟨hp, hx⟩ := hp b f q w e
    have hw : w = 1 ∨ w = -1 := by
      have := g.h
      rw [e] at this
      exact this.1
    have w2 := wsq hw
    have e1 : ledR l r = r - (w : Rat) * l.side := by
      unfold ledR
      rw [e]
      rfl
    rw [hx, e1, hp]
    have key : ∀ z : Rat, (w : Rat) * z * r * ((r - (w : Rat) * l.side) / r) = (w : Rat) * z * r - z * l.side := fun z => by
      rw [Rat.div_def]
      have h1 : (w : Rat) * z * r * ((r - (w : Rat) * l.side) * r⁻¹) = ((w : Rat) * z * (r - (w : Rat) * l.side)) * (r * r⁻¹) := by grind
      rw [h1, Rat.mul_inv_cancel _ r0]
      grind
    refine Prod.ext ?_ ?_
    · show q.1 + (q.1 + (w : Rat) * h.2 * r - q.1) * ((r - (w : Rat) * l.side) / r) = q.1 + (w : Rat) * h.2 * r + (-h.2 * l.side + h.1 * 0)
      rw [show q.1 + (w : Rat) * h.2 * r - q.1 = (w : Rat) * h.2 * r by grind, key]
      grind
    · show q.2 + (q.2 - (w : Rat) * h.1 * r - q.2) * ((r - (w : Rat) * l.side) / r) = q.2 - (w : Rat) * h.1 * r + (h.1 * l.side + h.2 * 0)
      rw [show q.2 - (w : Rat) * h.1 * r - q.2 = (w : Rat) * (-h.1) * r by grind, key]
      grind
theorem one_way {u v : Rat × Rat} {s : Rat} (hu : dt u u = 1) (hv : dt v v = 1) (h : jkind u v s = 0) : u = v := by
  unfold jkind at h
  split at h
  · rename_i c0
    split at h
    · rename_i d0
      unfold dt at hu hv d0
      unfold cr at c0
      obtain ⟨a, b⟩ := u
      obtain ⟨c, d⟩ := v
      simp only at hu hv d0 c0
      have h1 : (a * c + b * d) * (a * c + b * d) = 1 := by grind
      have h2 : (a * c + b * d - 1) * (a * c + b * d + 1) = 0 := by grind
      have h3 : a * c + b * d = 1 := by
        rcases Rat.mul_eq_zero.mp h2 with z | z
        · grind
        · exfalso
          grind
      refine Prod.ext ?_ ?_
      · show a = c
        have : a = a * (a * c + b * d) + b * (a * d - b * c) - (b * (a * d - b * c)) := by grind
        grind
      · show b = d
        grind
    · cases h
  · split at h <;> cases h
/-! ### led cuts of a road in the end -/
theorem LJ_arc {m : Nat} (h : (L0 es m).st.isLn = false) : ∀ k, (LJ es a n k m).eb = 0 ∧ (LJ es a n k m).bb = 0
  | 0 => by
    show (L0 es m).eb = 0 ∧ (L0 es m).bb = 0
    unfold L0
    split <;> exact ⟨rfl, rfl⟩
  | k + 1 => by
    have ih := LJ_arc h k
    have hs : (LJ es a n k m).st.isLn = false := by rw [(LJ_same m k).st]; exact h
    have hA : ∀ (i j : Nat), m = i → (joinA j (LJ es a n k i) (LJ es a n k j)).eb = 0 ∧ (joinA j (LJ es a n k i) (LJ es a n k j)).bb = 0 := fun i j e => by
      subst e
      refine ⟨?_, by rw [joinA_bb]; exact ih.2⟩
      unfold joinA
      rw [hs]
      split
      · exact ih.1
      · split
        · exact ih.1
        · exact ih.1
    have hB : ∀ (i : Nat), (joinB (LJ es a n k i) (LJ es a n k m)).eb = 0 ∧ (joinB (LJ es a n k i) (LJ es a n k m)).bb = 0 := fun i => by
      refine ⟨by rw [joinB_eb]; exact ih.1, ?_⟩
      unfold joinB
      rw [hs, if_neg (fun z => by have := z.2; rw [Bool.and_false] at this; cases this)]
      exact ih.2
    show (jnL (LJ es a n k) (a + k) (a + nxt n k) m).eb = 0 ∧ (jnL (LJ es a n k) (a + k) (a + nxt n k) m).bb = 0
    unfold jnL
    split
    · rename_i e
      split
      · rename_i e2
        exact hA _ _ (e.trans e2.symm)
      · rw [← e]
        exact hB _
    · split
      · rename_i e
        exact hA _ _ e
      · exact ih
/-- a led cut in the end, with where it stands in its run -/
structure LedE (es : List Ec) (i a t : Nat) (s : Rat) (c : Ec) : Prop where
  ie : i = a + t
  tl : t < segN es a
  st : stL es a = true
  ct : Cont es a (segN es a) s
  k : CutK es a (segN es a) s t c
  le : endL es i = LC es a (segN es a) i
  bk : BkOk (endL es i)
  nu : (endL es i).um = false
  ng : gougeB (endL es i) c.r = false
/-- nothing is wrong -/
structure Right (es : List Ec) : Prop where
  ok : ∀ c ∈ es, c.ok
  lk : LnkE es
  un : ∀ n, unB es n = false
  ng : ∀ n, ledB es n = true → gougeB (endL es n) (rOf es n) = false
  nu : ∀ n, ledB es n = true → (endL es n).um = false
theorem Right.led (R : Right es) {i : Nat} (h : ledB es i = true) : ∃ a t s c, LedE es i a t s c := by
  obtain ⟨a, h1, h2, h3⟩ := led_seg h
  have ct := run_cont R.ok R.lk h2
  obtain ⟨c, k⟩ := ct.cut (k := i - a) (by omega)
  have e : i = a + (i - a) := by omega
  refine ⟨a, i - a, sideAt es a, c, e, by omega, h2, ct, k, end_LC h2 h1 h3, (good_end R.ok i h).2, R.nu i h, ?_⟩
  have := R.ng i h
  rw [show rOf es i = c.r by have := k.r; rw [← e] at this; exact this] at this
  exact this
section
variable {i : Nat}
theorem LedE.same (E : LedE es i a t s c) : (endL es i).st = c.e.st ∧ (endL es i).u = c.u ∧ (endL es i).v = c.v ∧ (endL es i).side = s ∧ rOf es i = c.r := by
  have h1 := E.k.st (jl es a (segN es a))
  have h2 := E.k.u (jl es a (segN es a))
  have h3 := E.k.v (jl es a (segN es a))
  have h4 := E.k.side (jl es a (segN es a))
  have h5 := E.k.r
  rw [E.le, E.ie]
  exact ⟨h1, h2, h3, h4, h5⟩
theorem LedE.arc0 (E : LedE es i a t s c) (h : c.e.st.isLn = false) : (endL es i).eb = 0 ∧ (endL es i).bb = 0 := by
  rw [E.le]
  refine LJ_arc ?_ _
  have := E.k.st 0
  rw [E.ie]
  show (LJ es a (segN es a) 0 (a + t)).st.isLn = false
  rw [this]
  exact h
theorem LedE.beg (E : LedE es i a t s c) : lbeg (endL es i) (rOf es i) = offP c.e.st.beg c.u s (endL es i).bb := by
  obtain ⟨h1, h2, h3, h4, h5⟩ := E.same
  have g := E.k.g
  unfold lbeg
  rw [ldP_off (by rw [h1, h2, h3, h5]; exact g) (fun b f q w e => ?_), h1, h2, h4]
  rw [h1] at e
  have hh := g.h
  have z := E.arc0 (by rw [e]; rfl)
  rw [e] at hh
  refine ⟨?_, z.2⟩
  rw [h1, h2, h5, e]
  exact hh.2.1
theorem LedE.fin (E : LedE es i a t s c) : lend (endL es i) (rOf es i) = offP c.e.st.fin c.v s (-(endL es i).eb) := by
  obtain ⟨h1, h2, h3, h4, h5⟩ := E.same
  have g := E.k.g
  unfold lend
  rw [ldP_off (by rw [h1, h2, h3, h5]; exact g) (fun b f q w e => ?_), h1, h3, h4]
  rw [h1] at e
  have hh := g.h
  have z := E.arc0 (by rw [e]; rfl)
  rw [e] at hh
  refine ⟨?_, by rw [z.1]; exact Rat.neg_zero⟩
  rw [h1, h3, h5, e]
  exact hh.2.2
theorem off_bd {p h : Rat × Rat} {s x : Rat} (hp : Bd2 400 p) (hh : Bd2 40 h) (hs : Bd 40 s) (hx : Bd 370 x) : Bd2 900 (offP p h s x) :=
  ⟨(hp.1.add ((hh.2.neg.mul hs).add (hh.1.mul hx))).mono (by decide), (hp.2.add ((hh.1.mul hs).add (hh.2.mul hx))).mono (by decide)⟩
theorem LedE.beg_bd (E : LedE es i a t s c) : Bd2 900 (lbeg (endL es i) (rOf es i)) := by
  rw [E.beg]
  exact off_bd (DR.beg_bd E.k.g.bd).1 E.k.g.ub E.k.sb E.bk.1
theorem LedE.fin_bd (E : LedE es i a t s c) : Bd2 900 (lend (endL es i) (rOf es i)) := by
  rw [E.fin]
  exact off_bd (DR.beg_bd E.k.g.bd).2 E.k.g.vb E.k.sb E.bk.2.neg
/-- the joint behind a led cut -/
inductive AfterE (es : List Ec) (i a t : Nat) (s : Rat) (c : Ec) : Prop
  | stop (h : (endL es i).af = none) (e : (endL es i).eb = 0) (l : ¬ t + 1 < segN es a)
  | meet {d : Ec} (D : LedE es (a + nxt (segN es a) t) a (nxt (segN es a) t) s d) (lk : c.e.st.fin = d.e.st.beg) (h : (endL es i).af = none) (j : c.v = d.u) (e : (endL es i).eb = 0) (b : (endL es (a + nxt (segN es a) t)).bb = 0)
  | round {d : Ec} (D : LedE es (a + nxt (segN es a) t) a (nxt (segN es a) t) s d) (lk : c.e.st.fin = d.e.st.beg) (j : jkind c.v d.u s = 1) (h : (endL es i).af = some (a + nxt (segN es a) t)) (e : (endL es i).eb = 0) (b : (endL es (a + nxt (segN es a) t)).bb = 0)
  | back {d : Ec} (D : LedE es (a + nxt (segN es a) t) a (nxt (segN es a) t) s d) (lk : c.e.st.fin = d.e.st.beg) (j : jkind c.v d.u s = 2) (l : c.e.st.isLn = true ∧ d.e.st.isLn = true) (h : (endL es i).af = none) (e : (endL es i).eb = backR c.v d.u s) (b : (endL es (a + nxt (segN es a) t)).bb = backR c.v d.u s)
theorem LedE.next (R : Right es) (E : LedE es i a t s c) (ht : t < jl es a (segN es a)) : ∃ d, LedE es (a + nxt (segN es a) t) a (nxt (segN es a) t) s d ∧ c.e.st.fin = d.e.st.beg := by
  have hx := nxt_lt (n := segN es a) (t := t) E.ct.n0
  obtain ⟨d, k⟩ := E.ct.cut hx
  have hb := stL_in E.st (Nat.le_add_right a (nxt (segN es a) t)) (show a + nxt (segN es a) t < a + segN es a by omega)
  refine ⟨d, ⟨rfl, hx, E.st, E.ct, k, end_LC E.st (Nat.le_add_right _ _) (by omega), (good_end R.ok _ hb).2, R.nu _ hb, ?_⟩, E.ct.link ht E.k.at_ k.at_⟩
  have := R.ng _ hb
  rw [k.r] at this
  exact this
theorem LedE.after (R : Right es) (E : LedE es i a t s c) : AfterE es i a t s c := by
  by_cases ht : t < jl es a (segN es a)
  · obtain ⟨d, D, lk⟩ := E.next R ht
    have ei : endL es i = LC es a (segN es a) (a + t) := by rw [E.le, E.ie]
    rcases joint_end E.tl ht E.k D.k with ⟨k, J⟩ | ⟨k, J⟩ | ⟨k, l, J⟩ | J
    · exact .meet D lk (by rw [ei]; exact J.af) (one_way E.k.g.v1 D.k.g.u1 k) (by rw [ei]; exact J.eb) (by rw [D.le]; exact J.bb)
    · exact .round D lk k (by rw [ei]; exact J.af) (by rw [ei]; exact J.eb) (by rw [D.le]; exact J.bb)
    · exact .back D lk k l (by rw [ei]; exact J.af) (by rw [ei]; exact J.eb) (by rw [D.le]; exact J.bb)
    · rw [← ei, E.nu] at J
      cases J
  · have n0 := E.ct.n0
    have ne : ¬ jl es a (segN es a) = segN es a := by have := E.tl; omega
    have et : t = segN es a - 1 := by
      have := E.tl
      unfold jl at ht
      split at ht <;> omega
    obtain ⟨o1, o2, o3⟩ := open_end E.ct ne
    rw [← et, ← E.ie, ← E.le] at o1 o2
    exact .stop o1 o2 (by omega)
end
end
end DR

/-! DObz: the way goes on without a gap; its steps are steps; its numbers. -/
namespace DR
open PySem PySem.Spec L2 DL DM SX
section
variable {es : List Ec} {a t i : Nat} {s : Rat} {c d : Ec}
theorem es_some (h : hopAt es i = false) : ∃ c, es[i]? = some c ∧ c.e.st.isHop = false := by
  have hl := hop_lt h
  have e : es[i]? = some es[i] := List.getElem?_eq_getElem hl
  rw [hopAt_of e] at h
  exact ⟨_, e, h⟩
/-- a cut behind a cut is of its side -/
theorem Right.same (R : Right es) (h0 : hopAt es i = false) (h1 : hopAt es (i + 1) = false) : sideAt es i = sideAt es (i + 1) := by
  obtain ⟨c, hc, hh⟩ := es_some h0
  obtain ⟨d, hd, hg⟩ := es_some h1
  have u := R.un (i + 1)
  rw [unB_at hd, hg, Nat.add_sub_cancel, hc] at u
  simp only [Nat.succ_ne_zero, if_false, hh, Bool.not_false, Bool.true_and, Bool.not_eq_false', decide_eq_true_eq, Nat.add_eq_zero_iff, and_false] at u
  rw [sideAt_of hc, sideAt_of hd]
  exact u
theorem Right.nost (R : Right es) (h0 : hopAt es i = false) (h1 : hopAt es (i + 1) = false) : isSt es (i + 1) = false := by
  unfold isSt
  rw [Nat.add_sub_cancel, R.same h0 h1, h0, decide_eq_true rfl]
  simp
theorem Right.ledS (R : Right es) (h0 : hopAt es i = false) (h1 : hopAt es (i + 1) = false) : ledB es (i + 1) = ledB es i := by
  obtain ⟨c, hc, hh⟩ := es_some h0
  obtain ⟨d, hd, hg⟩ := es_some h1
  have := R.same h0 h1
  rw [sideAt_of hc, sideAt_of hd] at this
  rw [led_at hc hh, led_at hd hg, this]
theorem LedE.on (R : Right es) (E : LedE es i a t s c) (h1 : hopAt es (i + 1) = false) : t + 1 < segN es a := by
  have tl := E.tl
  refine Decidable.byContradiction fun z => ?_
  have e : a + segN es a = i + 1 := by rw [E.ie]; omega
  have h0 : hopAt es i = false := by
    rw [E.ie, hopAt_of E.k.at_]
    exact E.k.nh
  have b := brd_seg (Bool.and_eq_true_iff.mp E.st).1
  rw [e] at b
  rcases b with b | b | b
  · have := hop_lt h1
    omega
  · rw [h1] at b
    cases b
  · rw [R.nost h0 h1] at b
    cases b
def begN (es : List Ec) (i : Nat) : Rat × Rat := if ledB es i then lbeg (endL es i) (rOf es i) else (stAt es i).beg
theorem ledS_fin (l : LR) (r : Rat) : (DR.ledS l r).fin = lend l r := by
  unfold DR.ledS
  cases l.st <;> rfl
theorem lastF_one {p : Rat × Rat} {x : Stp} : lastF p [x] = x.fin := rfl
theorem led_steps (h : ledB es i = true) : stepN es i = match (endL es i).af with
    | none => [DR.ledS (endL es i) (rOf es i)]
    | some m => [DR.ledS (endL es i) (rOf es i), .arc (lend (endL es i) (rOf es i)) (lbeg (endL es m) (rOf es m)) (endL es i).st.fin (ledW (endL es i).side)] := by
  unfold stepN stepC
  rw [if_pos h]
  cases (endL es i).af <;> rfl
theorem un_steps (h : ledB es i = false) : stepN es i = [stAt es i] := by
  unfold stepN
  rw [h, if_neg (by decide)]
theorem LedE.isled (E : LedE es i a t s c) : ledB es i = true := by
  have := E.tl
  rw [E.ie]
  exact stL_in E.st (Nat.le_add_right _ _) (by omega)
/-- a cut leads the tool to where the next one takes it -/
theorem Right.go (R : Right es) (h0 : hopAt es i = false) (h1 : hopAt es (i + 1) = false) (p : Rat × Rat) : lastF p (stepN es i) = begN es (i + 1) := by
  have hl := R.ledS h0 h1
  cases z : ledB es i with
  | false =>
    obtain ⟨c, hc, hh⟩ := es_some h0
    obtain ⟨d, hd, hg⟩ := es_some h1
    rw [un_steps z, lastF_one]
    unfold begN
    rw [hl, z, if_neg (by decide), stAt_at hc, stAt_at hd]
    exact R.lk i c d hc hd
  | true =>
    obtain ⟨a, t, s, c, E⟩ := R.led z
    have on := E.on R h1
    have en : a + nxt (segN es a) t = i + 1 := by
      unfold nxt
      rw [if_pos on, E.ie]
      omega
    rw [led_steps z]
    unfold begN
    rw [hl, z, if_pos rfl]
    cases E.after R with
    | stop _ _ l => exact absurd on l
    | meet D lk h j e b =>
      rw [en] at D b
      rw [h]
      show (DR.ledS _ _).fin = _
      rw [ledS_fin, E.fin, D.beg, e, b, j, lk, Rat.neg_zero]
    | round D lk j h e b =>
      rw [h, en]
      rfl
    | back D lk j l h e b =>
      rw [en] at D b
      rw [h]
      show (DR.ledS _ _).fin = _
      rw [ledS_fin, E.fin, D.beg, e, b, lk]
      exact meet_two E.k.g.v1 D.k.g.u1 (jkind_two j)
theorem stepN_beg (h0 : hopAt es i = false) : ∃ x r, stepN es i = x :: r ∧ x.beg = begN es i := by
  unfold begN
  cases z : ledB es i with
  | false =>
    rw [un_steps z]
    exact ⟨_, _, rfl, by rw [if_neg (by decide)]⟩
  | true =>
    rw [led_steps z]
    cases (endL es i).af <;> exact ⟨_, _, rfl, by rw [if_pos rfl]; exact ledS_beg _ _⟩
/-- the second step of a cut begins where the first one ends -/
theorem stepN_two {x y : Stp} {r : List Stp} (e : stepN es i = x :: y :: r) : r = [] ∧ y.beg = x.fin ∧ stW y = "arc" := by
  cases z : ledB es i with
  | false =>
    rw [un_steps z] at e
    cases e
  | true =>
    rw [led_steps z] at e
    cases h : (endL es i).af with
    | none =>
      rw [h] at e
      cases e
    | some m =>
      rw [h] at e
      cases e
      exact ⟨rfl, by rw [ledS_fin]; rfl, rfl⟩
theorem goal_beg (h1 : hopAt es (i + 1) = false) : goalR es i = begN es (i + 1) := by
  obtain ⟨d, hd, hg⟩ := es_some h1
  rw [goalR_at hd, hg, if_neg (by decide)]
  unfold begN
  rw [stAt_at hd]
/-! ### where the tool is ahead of an entry -/
theorem wayS (k : Nat) : wayL es (k + 1) = ((wayL es k).1 ++ (stepsR es (wayL es k).2 k).map (fun s => ⟨s, paceR es k, k⟩), lastF (wayL es k).2 (stepsR es (wayL es k).2 k)) := rfl
theorem hop_steps {here : Rat × Rat} (h : hopAt es i = true) (hl : i < es.length) : stepsR es here i = [.hop here (goalR es i)] := by
  have e : es[i]? = some es[i] := List.getElem?_eq_getElem hl
  unfold stepsR
  rw [stAt_at e, show es[i].e.st.isHop = true by rw [← hopAt_of e]; exact h, if_pos rfl]
theorem Right.here (R : Right es) : ∀ k, hopAt es k = false → (wayL es k).2 = begN es k
  | 0, h => by
    show (stAt es 0).beg = _
    obtain ⟨c, hc, hh⟩ := es_some h
    have u := R.un 0
    rw [unB_at hc, hh, if_pos rfl] at u
    have z : ledB es 0 = false := by
      rw [led_at hc hh]
      simpa using u
    unfold begN
    rw [z, if_neg (by decide)]
  | k + 1, h => by
    rw [wayS]
    show lastF _ _ = _
    have hl := hop_lt h
    cases q : hopAt es k with
    | true =>
      rw [hop_steps q (by omega), lastF_one]
      exact goal_beg h
    | false =>
      rw [stepsN q]
      exact R.go q h _
/-! ### what is told are steps -/
def StepK : Stp → Prop
  | .hop b f => Bd2 900 b ∧ Bd2 900 f
  | .line b f => (Bd2 900 b ∧ Bd2 900 f) ∧ ∃ r, 0 < r ∧ rt (dt (sb2 b f) (sb2 b f)) = some r
  | .arc b f q w => (Bd2 900 b ∧ Bd2 900 f ∧ Bd2 900 q) ∧ (w = 1 ∨ w = -1) ∧ ∃ r, 0 < r ∧ rt (dt (sb2 q b) (sb2 q b)) = some r ∧ rt (dt (sb2 q f) (sb2 q f)) = some r
theorem StepK.ends {st : Stp} (h : StepK st) : Bd2 900 st.beg ∧ Bd2 900 st.fin := by
  cases st with
  | hop b f => exact h
  | line b f => exact h.1
  | arc b f q w => exact ⟨h.1.1, h.1.2.1⟩
theorem cut_ok {st : Stp} {r : Rat} {u v : Rat × Rat} (g : CutG st r u v) : StepK st := by
  have bd := g.bd
  have hd := g.dist
  cases st with
  | hop b f => exact g.h.elim
  | line b f => exact ⟨⟨bd.1.up (by decide), bd.2.up (by decide)⟩, r, g.r0, hd⟩
  | arc b f q w => exact ⟨⟨bd.1.up (by decide), bd.2.1.up (by decide), bd.2.2.up (by decide)⟩, g.h.1, r, g.r0, hd.1, hd.2⟩
theorem rt_scaled {p h : Rat × Rat} {x : Rat} (h1 : dt h h = 1) (r0 : 0 < x) (e : p = (h.1 * x, h.2 * x)) : rt (dt p p) = some x := by
  rw [e]
  exact scaled_len h1 r0
theorem dt_turn {h : Rat × Rat} {z : Rat} (h1 : dt h h = 1) (hz : z * z = 1) : dt (h.2 * z, -h.1 * z) (h.2 * z, -h.1 * z) = 1 := by
  unfold dt at *
  show h.2 * z * (h.2 * z) + -h.1 * z * (-h.1 * z) = 1
  grind
theorem rt_side {p h : Rat × Rat} {s : Rat} (h1 : dt h h = 1) (s0 : s ≠ 0) : ∃ r, 0 < r ∧ ∀ p : Rat × Rat, ∀ h : Rat × Rat, dt h h = 1 → p = (h.2 * s, -h.1 * s) → rt (dt p p) = some r := by
  rcases (show s < 0 ∨ 0 < s by grind) with q | q
  · refine ⟨-s, by grind, fun p h h1 e => rt_scaled (h := (h.2 * -1, -h.1 * -1)) (dt_turn h1 (by grind)) (by grind) ?_⟩
    rw [e]
    refine Prod.ext ?_ ?_
    · show h.2 * s = h.2 * -1 * -s
      grind
    · show -h.1 * s = -h.1 * -1 * -s
      grind
  · refine ⟨s, q, fun p h h1 e => rt_scaled (h := (h.2 * 1, -h.1 * 1)) (dt_turn h1 (by grind)) q ?_⟩
    rw [e]
    refine Prod.ext ?_ ?_
    · show h.2 * s = h.2 * 1 * s
      grind
    · show -h.1 * s = -h.1 * 1 * s
      grind
theorem LedE.s0 (E : LedE es i a t s c) : s ≠ 0 := E.ct.s0
/-- the led cut itself -/
theorem LedE.own (E : LedE es i a t s c) : StepK (DR.ledS (endL es i) (rOf es i)) := by
  obtain ⟨e1, e2, e3, e4, e5⟩ := E.same
  have g := E.k.g
  have ng := E.ng
  have hb := E.beg
  have hf := E.fin
  have bb := E.beg_bd
  have fb := E.fin_bd
  have hh := g.h
  have bd := g.bd
  unfold DR.ledS
  rw [e1]
  unfold gougeB at ng
  rw [e1] at ng
  cases q : c.e.st with
  | hop b f =>
    rw [q] at hh
    exact hh.elim
  | line b f =>
    rw [q] at hh hb hf ng
    obtain ⟨v1, v2⟩ := hh
    refine ⟨⟨bb, fb⟩, c.r - (endL es i).bb - (endL es i).eb, ?_, ?_⟩
    · have : (endL es i).bb + (endL es i).eb < c.r := by simpa [Stp.isLn] using ng
      grind
    · refine rt_scaled (h := (-c.u.1, -c.u.2)) (by have := g.u1; unfold dt at *; show -c.u.1 * -c.u.1 + -c.u.2 * -c.u.2 = 1; grind) (by
        have : (endL es i).bb + (endL es i).eb < c.r := by simpa [Stp.isLn] using ng
        grind) ?_
      rw [hb, hf, v1]
      unfold offP sb2
      show (_, _) = (_, _)
      simp only [Stp.beg, Stp.fin, v2]
      refine Prod.ext ?_ ?_
      · show _ = -c.u.1 * _
        simp only
        grind
      · show _ = -c.u.2 * _
        simp only
        grind
  | arc b f m w =>
    rw [q] at hh hb hf ng bd
    obtain ⟨w1, hb0, hf0⟩ := hh
    have w2 := w_sq1 w1
    have z := E.arc0 (by rw [q]; rfl)
    have r0 : 0 < ledR (endL es i) c.r := by simpa [Stp.isLn] using ng
    have er : ledR (endL es i) c.r = c.r - (w : Rat) * s := by
      unfold ledR
      rw [e1, e4, q]
      rfl
    rw [er] at r0
    have side : ∀ p h : Rat × Rat, dt h h = 1 → p = (m.1 + (w : Rat) * h.2 * c.r, m.2 - (w : Rat) * h.1 * c.r) → rt (dt (sb2 m (offP p h s 0)) (sb2 m (offP p h s 0))) = some (c.r - (w : Rat) * s) := fun p h h1 hp => by
      refine rt_scaled (h := (h.2 * -(w : Rat), -h.1 * -(w : Rat))) (dt_turn h1 (by grind)) r0 ?_
      rw [hp]
      unfold offP sb2
      refine Prod.ext ?_ ?_
      · show m.1 - (m.1 + (w : Rat) * h.2 * c.r + (-h.2 * s + h.1 * 0)) = h.2 * -(w : Rat) * (c.r - (w : Rat) * s)
        grind
      · show m.2 - (m.2 - (w : Rat) * h.1 * c.r + (h.1 * s + h.2 * 0)) = -h.1 * -(w : Rat) * (c.r - (w : Rat) * s)
        grind
    refine ⟨⟨bb, fb, bd.2.2.up (by decide)⟩, w1, _, r0, ?_, ?_⟩
    · rw [hb, z.2]
      exact side _ _ g.u1 hb0
    · rw [hf, z.1, Rat.neg_zero]
      exact side _ _ g.v1 hf0
theorem LedE.all (R : Right es) (E : LedE es i a t s c) : ∀ st ∈ stepN es i, StepK st := by
  have z := E.isled
  obtain ⟨e1, e2, e3, e4, e5⟩ := E.same
  rw [led_steps z]
  have one : (endL es i).af = none → ∀ st ∈ (match (endL es i).af with
    | none => [DR.ledS (endL es i) (rOf es i)]
    | some m => [DR.ledS (endL es i) (rOf es i), .arc (lend (endL es i) (rOf es i)) (lbeg (endL es m) (rOf es m)) (endL es i).st.fin (ledW (endL es i).side)]), StepK st := fun h st m => by
    rw [h] at m
    rw [List.mem_singleton.mp m]
    exact E.own
  cases E.after R with
  | stop h _ _ => exact one h
  | meet _ _ h _ _ _ => exact one h
  | back _ _ _ _ h _ _ => exact one h
  | @round dd D lk j h e b =>
    intro st m
    rw [h] at m
    rcases List.mem_cons.mp m with rfl | m
    · exact E.own
    · rw [List.mem_singleton.mp m]
      obtain ⟨r, r0, hr⟩ := rt_side (p := c.u) E.k.g.u1 E.s0
      refine ⟨⟨E.fin_bd, D.beg_bd, ?_⟩, ?_, r, r0, ?_, ?_⟩
      · rw [e1]
        exact (DR.beg_bd E.k.g.bd).2.up (by decide)
      · unfold ledW
        split
        · exact .inl rfl
        · exact .inr rfl
      · refine hr _ c.v E.k.g.v1 ?_
        rw [E.fin, e, e1]
        unfold offP sb2
        refine Prod.ext ?_ ?_
        · show c.e.st.fin.1 - (c.e.st.fin.1 + (-c.v.2 * s + c.v.1 * -0)) = c.v.2 * s
          grind
        · show c.e.st.fin.2 - (c.e.st.fin.2 + (c.v.1 * s + c.v.2 * -0)) = -c.v.1 * s
          grind
      · refine hr _ _ D.k.g.u1 ?_
        rw [D.beg, b, e1, lk]
        unfold offP sb2
        refine Prod.ext ?_ ?_
        · show dd.e.st.beg.1 - (dd.e.st.beg.1 + (-dd.u.2 * s + dd.u.1 * 0)) = dd.u.2 * s
          grind
        · show dd.e.st.beg.2 - (dd.e.st.beg.2 + (dd.u.1 * s + dd.u.2 * 0)) = -dd.u.1 * s
          grind
theorem Right.steps (R : Right es) (h0 : hopAt es i = false) : ∀ st ∈ stepN es i, StepK st := by
  cases z : ledB es i with
  | false =>
    intro st m
    rw [un_steps z] at m
    rw [List.mem_singleton.mp m]
    obtain ⟨c, hc, hh⟩ := es_some h0
    rw [stAt_at hc]
    exact cut_ok ((R.ok c (List.mem_of_getElem? hc)).2 hh).1
  | true =>
    obtain ⟨a, t, s, c, E⟩ := R.led z
    exact E.all R
/-! ### what is told, one behind another -/
structure WOk (es : List Ec) (pre : List Wy) (w : Wy) : Prop where
  beg : w.st.beg = lastF (stAt es 0).beg (pre.map Wy.st)
  ok : StepK w.st
  lt : w.n < es.length
  pace : w.pace = paceR es w.n
  num : ((∀ p ∈ pre, p.n < w.n) ∧ stW w.st = stW (stAt es w.n)) ∨ (∃ q p, pre = q ++ [p] ∧ p.n = w.n ∧ (∀ x ∈ q, x.n < w.n) ∧ stW w.st = "arc" ∧ (stAt es w.n).isHop = false)
theorem stW_isHop {st : Stp} (h : st.isHop = true) : stW st = "hop" := by
  cases st with
  | hop b f => rfl
  | line b f => cases h
  | arc b f q w => cases h
theorem stW_led {l : LR} {r : Rat} (h : l.st.isHop = false) : stW (DR.ledS l r) = stW l.st := by
  unfold DR.ledS
  cases e : l.st with
  | hop b f => rw [e] at h; cases h
  | line b f => rfl
  | arc b f q w => rfl
theorem stepN_word (R : Right es) (h0 : hopAt es i = false) {x : Stp} {r : List Stp} (e : stepN es i = x :: r) : stW x = stW (stAt es i) := by
  cases z : ledB es i with
  | false =>
    rw [un_steps z] at e
    cases e
    rfl
  | true =>
    obtain ⟨a, t, s, c, E⟩ := R.led z
    obtain ⟨e1, _⟩ := E.same
    have es1 : stAt es i = c.e.st := by rw [E.ie]; exact stAt_at E.k.at_
    have key : stW (DR.ledS (endL es i) (rOf es i)) = stW (stAt es i) := by
      rw [stW_led (by rw [e1]; exact E.k.nh), e1, es1]
    rw [led_steps z] at e
    cases h : (endL es i).af with
    | none =>
      rw [h] at e
      cases e
      exact key
    | some m =>
      rw [h] at e
      cases e
      exact key
theorem Right.goal (R : Right es) (h : hopAt es i = true) (hl : i < es.length) : Bd2 900 (goalR es i) := by
  have e : es[i]? = some es[i] := List.getElem?_eq_getElem hl
  have own : Bd2 900 (stAt es i).fin := by
    rw [stAt_at e]
    have hb := (R.ok _ (List.mem_of_getElem? e)).1
    exact (DR.beg_bd hb).2.up (by decide)
  cases q : hopAt es (i + 1) with
  | false =>
    rw [goal_beg q]
    obtain ⟨x, r, e2, e3⟩ := stepN_beg q
    rw [← e3]
    exact (R.steps q x (by rw [e2]; exact List.mem_cons_self)).ends.1
  | true =>
    cases z : es[i + 1]? with
    | none => rw [goalR_end z]; exact own
    | some d =>
      rw [goalR_at z, if_pos (by rw [← hopAt_of z]; exact q)]
      exact own
theorem lastF_end {p : Rat × Rat} {l : List Stp} {x : Stp} : lastF p (l ++ [x]) = x.fin := lastF_snoc
theorem lastF_at {p : Rat × Rat} (l m : List Stp) : lastF p (l ++ m) = lastF (lastF p l) m := (lastF_app p l m).symm
theorem Right.way (R : Right es) : ∀ k, k ≤ es.length → (wayL es k).2 = lastF (stAt es 0).beg ((wayL es k).1.map Wy.st) ∧ Bd2 900 (wayL es k).2 ∧ (∀ w ∈ (wayL es k).1, w.n < k) ∧ ∀ pre w post, (wayL es k).1 = pre ++ w :: post → WOk es pre w
  | 0, _ => by
    refine ⟨rfl, ?_, fun w m => (nomatch m), fun pre w post e => ?_⟩
    · show Bd2 900 (stAt es 0).beg
      unfold stAt
      cases e : es[0]? with
      | none => exact ⟨bd_zero.mono (by decide), bd_zero.mono (by decide)⟩
      | some c => exact (DR.beg_bd (R.ok c (List.mem_of_getElem? e)).1).1.up (by decide)
    · have e : ([] : List Wy) = pre ++ w :: post := e
      cases pre <;> cases e
  | k + 1, hk => by
    obtain ⟨i1, i2, i3, i4⟩ := R.way k (by omega)
    have hl : k < es.length := hk
    have he : es[k]? = some es[k] := List.getElem?_eq_getElem hl
    have glue : ∀ (B : List Wy), (∀ a' w post, B = a' ++ w :: post → WOk es ((wayL es k).1 ++ a') w) → ∀ pre w post, (wayL es k).1 ++ B = pre ++ w :: post → WOk es pre w := fun B hB pre w post e => by
      rcases List.append_eq_append_iff.mp e with ⟨a', e1, e2⟩ | ⟨c', e1, e2⟩
      · rw [e1]
        exact hB a' w post e2
      · cases c' with
        | nil =>
          have := hB [] w post e2.symm
          rw [List.append_nil] at this
          rw [e1, List.append_nil] at this
          exact this
        | cons y ys =>
          cases e2
          exact i4 pre w ys e1
    cases q : hopAt es k with
    | true =>
      rw [wayS, hop_steps q hl]
      dsimp only
      refine ⟨?_, R.goal q hl, fun w m => ?_, glue _ fun a' w post e => ?_⟩
      · show _ = lastF _ (((wayL es k).1 ++ [_]).map Wy.st)
        rw [List.map_append]
        refine Eq.trans ?_ (lastF_end (x := .hop (wayL es k).2 (goalR es k))).symm
        rfl
      · rcases List.mem_append.mp m with m | m
        · exact Nat.lt_succ_of_lt (i3 w m)
        · rw [List.mem_singleton.mp m]
          exact Nat.lt_succ_self k
      · cases a' with
        | cons y ys =>
          cases ys <;> cases e
        | nil =>
          cases e
          rw [List.append_nil]
          refine ⟨i1, ⟨i2, R.goal q hl⟩, hl, rfl, .inl ⟨i3, ?_⟩⟩
          show "hop" = stW (stAt es k)
          rw [stAt_at he]
          rw [hopAt_of he] at q
          exact (stW_isHop q).symm
    | false =>
      have hh := R.here k q
      obtain ⟨x, r, e1, e2⟩ := stepN_beg q
      have ok := R.steps q
      have nh : (stAt es k).isHop = false := by
        rw [stAt_at he]
        rw [hopAt_of he] at q
        exact q
      rw [wayS, stepsN q]
      dsimp only
      refine ⟨?_, ?_, fun w m => ?_, glue _ fun a' w post e => ?_⟩
      · rw [List.map_append, lastF_at, ← i1, List.map_map]
        congr 1
        exact (List.map_id _).symm
      · have : ∃ g z, stepN es k = g ++ [z] := by
          refine ⟨(stepN es k).dropLast, (stepN es k).getLast (by rw [e1]; exact List.cons_ne_nil _ _), (List.dropLast_concat_getLast _).symm⟩
        obtain ⟨g, z, e3⟩ := this
        rw [e3, lastF_end]
        exact (ok z (by rw [e3]; exact List.mem_append_right _ (List.mem_singleton.mpr rfl))).ends.2
      · rcases List.mem_append.mp m with m | m
        · exact Nat.lt_succ_of_lt (i3 w m)
        · obtain ⟨z, _, rfl⟩ := List.mem_map.mp m
          exact Nat.lt_succ_self k
      · rw [e1] at e
        cases a' with
        | nil =>
          cases e
          rw [List.append_nil]
          refine ⟨?_, ok x (by rw [e1]; exact List.mem_cons_self), hl, rfl, .inl ⟨i3, stepN_word R q e1⟩⟩
          show x.beg = _
          rw [e2, ← hh, i1]
        | cons y ys =>
          cases r with
          | nil => cases ys <;> cases e
          | cons z r =>
            obtain ⟨t1, t2, t3⟩ := stepN_two e1
            subst t1
            cases ys with
            | cons y2 ys => cases ys <;> cases e
            | nil =>
              cases e
              refine ⟨?_, ok z (by rw [e1]; exact List.mem_cons_of_mem _ List.mem_cons_self), hl, rfl, .inr ⟨(wayL es k).1, _, rfl, rfl, i3, t3, nh⟩⟩
              rw [List.map_append]
              show z.beg = lastF _ (_ ++ [x])
              rw [lastF_end, t2]
end
end DR

/-! DEa: sorted(xs) and sorted(set(xs)) of whole numbers. -/
namespace SI
open PySem PySem.Spec L2 PyProof.Rows
section
variable {P : Program} {w : World} {A : Around}
end
section
variable {X : Cx}
end
end SI
namespace DL
open PySem PySem.Spec PyProof.Rows L2 DM
section
variable {X : Cx} {Z : Ent} {pos : Pos}
/-! ### list(range(n)) -/
end
end DL

/-! DEb: promises of laws about whole ways. -/
namespace DR
open PySem PySem.Spec L2 DL DM SX
/-! ### rows at the start -/
end DR
namespace DR
open PySem PySem.Spec L2 DL DM SX
end DR
namespace DR
open PySem PySem.Spec L2 DL DM SX
/-! ### numbers told, as data -/
end DR
namespace DR
open PySem PySem.Spec L2 DL DM SX
end DR

/-! DEc: where led cuts lie: plain facts, promises. -/
namespace DR
open PySem PySem.Spec L2 DL DM SX
theorem backR_nn {u v : Rat × Rat} {s : Rat} (hu : dt u u = 1) (hv : dt v v = 1) (h : jkind u v s = 2) : 0 ≤ backR u v s := by
  have c0 := jkind_two h
  have hc : 0 < cr u v * s := by
    unfold jkind at h
    rw [if_neg c0] at h
    split at h
    · assumption
    · cases h
  have hd : 0 ≤ 1 - dt u v := by
    have h2 : dt u v * dt u v + cr u v * cr u v = 1 := by
      unfold dt cr at *
      grind
    have h3 := rsq_nn (cr u v)
    apply Classical.byContradiction
    intro z
    have z : 1 < dt u v := by grind
    have := Rat.mul_lt_mul_of_pos_left z (show (0 : Rat) < dt u v by grind)
    grind
  unfold backR
  have e : s * ((1 - dt u v) / cr u v) = (1 - dt u v) * ((cr u v * s) / (cr u v * cr u v)) := by
    generalize cr u v = c at *
    generalize 1 - dt u v = d at *
    grind
  rw [e]
  refine Rat.mul_nonneg hd (Rat.le_of_lt ?_)
  rw [Rat.div_def]
  exact Rat.mul_pos hc (Rat.inv_pos.mpr (rsq_pos c0))
section
variable {es : List Ec} {a n t i : Nat} {s : Rat} {c d : Ec}
theorem LJ_nn (hok : ∀ i, ledB es i = true → ∃ c, es[i]? = some c ∧ dt c.u c.u = 1 ∧ dt c.v c.v = 1) (hl : ∀ k, k < n → ledB es (a + k) = true) : ∀ k, k ≤ n → ∀ m, 0 ≤ (LJ es a n k m).eb ∧ 0 ≤ (LJ es a n k m).bb
  | 0, _, m => by
    show 0 ≤ (L0 es m).eb ∧ 0 ≤ (L0 es m).bb
    unfold L0
    split <;> exact ⟨(by decide : (0 : Rat) ≤ 0), (by decide : (0 : Rat) ≤ 0)⟩
  | k + 1, hk, m => by
    have ih := LJ_nn hok hl k (by omega)
    have one : ∀ j, j < n → dt (LJ es a n k (a + j)).u (LJ es a n k (a + j)).u = 1 ∧ dt (LJ es a n k (a + j)).v (LJ es a n k (a + j)).v = 1 := fun j hj => by
      obtain ⟨c, hc, u1, v1⟩ := hok _ (hl j hj)
      have sm := LJ_same (es := es) (a := a) (n := n) (a + j) k
      have e0 : L0 es (a + j) = lr0 0 c.e (a + j) c.u c.v := by unfold L0; rw [hc]
      rw [sm.u, sm.v, e0]
      exact ⟨u1, v1⟩
    have hx := nxt_lt (n := n) (t := k) (by omega)
    have v1 := (one k (by omega)).2
    have u1 := (one _ hx).1
    have hA : 0 ≤ (joinA (a + nxt n k) (LJ es a n k (a + k)) (LJ es a n k (a + nxt n k))).eb ∧ 0 ≤ (joinA (a + nxt n k) (LJ es a n k (a + k)) (LJ es a n k (a + nxt n k))).bb := by
      refine ⟨?_, by rw [joinA_bb]; exact (ih _).2⟩
      unfold joinA
      split
      · exact (ih _).1
      · split
        · rename_i h2
          split
          · exact backR_nn v1 u1 h2
          · exact (ih _).1
        · exact (ih _).1
    have hB : 0 ≤ (joinB (LJ es a n k (a + k)) (LJ es a n k (a + nxt n k))).eb ∧ 0 ≤ (joinB (LJ es a n k (a + k)) (LJ es a n k (a + nxt n k))).bb := by
      refine ⟨by rw [joinB_eb]; exact (ih _).1, ?_⟩
      unfold joinB
      split
      · rename_i h2
        exact backR_nn v1 u1 h2.1
      · exact (ih _).2
    show 0 ≤ (jnL (LJ es a n k) (a + k) (a + nxt n k) m).eb ∧ 0 ≤ (jnL (LJ es a n k) (a + k) (a + nxt n k) m).bb
    unfold jnL
    split
    · split
      · exact hA
      · exact hB
    · split
      · exact hA
      · exact ih m
theorem LedE.nn (R : Right es) (E : LedE es i a t s c) : 0 ≤ (endL es i).eb ∧ 0 ≤ (endL es i).bb := by
  rw [E.le]
  refine LJ_nn (fun j hj => ?_) (fun k hk => stL_in E.st (Nat.le_add_right _ _) (by omega)) _ jl_le _
  obtain ⟨c, hc, _, hh⟩ := led_some hj
  have g := ((R.ok c (List.mem_of_getElem? hc)).2 hh).1
  exact ⟨c, hc, g.u1, g.v1⟩
end
/-! ### lines -/
/-! ### arcs -/
end DR
namespace DR
open PySem PySem.Spec L2 DL DM SX
/-! ### the first step of a cut lies beside it -/
section
variable {es : List Ec} {a n t i : Nat} {s : Rat} {c d : Ec}
end
/-! ### promises -/
end DR
namespace DR
open PySem PySem.Spec L2 DL DM SX
end DR
namespace DR
open PySem PySem.Spec L2 DL DM SX
end DR
namespace DR
open PySem PySem.Spec L2 DL DM SX
end DR

/-! DFa: places over a power of five; runs of rows seen without their trails. -/
namespace DR
open PySem PySem.Spec L2 DL DM SX
/-! ### places over one bottom, more -/
theorem cast_ne {D : Nat} (h : 0 < D) : ((D : Int) : Rat) ≠ 0 := rz (by omega)
theorem dI_int {D : Nat} (h : 0 < D) (i : Int) : (i : Rat) = Rat.divInt (i * D) D := by
  have := cast_ne h
  rw [Rat.divInt_eq_div, Rat.intCast_mul]
  generalize ((D : Int) : Rat) = d at *
  grind
theorem InD.sub {D M M' : Nat} {p q : Rat × Rat} (hD : 0 < D) (h : InD D M p) (k : InD D M' q) : InD D (M + M') (p.1 - q.1, p.2 - q.2) := by
  obtain ⟨a, b, h1, h2, h3, h4⟩ := h
  obtain ⟨c, d, k1, k2, k3, k4⟩ := k
  have hd := cast_ne hD
  have e : ∀ x y : Int, Rat.divInt x D - Rat.divInt y D = Rat.divInt (x - y) D := fun x y => by
    rw [Rat.divInt_eq_div, Rat.divInt_eq_div, Rat.divInt_eq_div, Rat.intCast_sub]
    generalize ((D : Int) : Rat) = d at *
    grind
  refine ⟨a - c, b - d, ?_, ?_, by omega, by omega⟩
  · show p.1 - q.1 = _
    rw [h1, k1, e]
  · show p.2 - q.2 = _
    rw [h2, k2, e]
theorem InD.flip {D M : Nat} {p : Rat × Rat} (h : InD D M p) : InD D M (p.1, -p.2) := by
  obtain ⟨a, b, h1, h2, h3, h4⟩ := h
  refine ⟨a, -b, h1, ?_, h3, by omega⟩
  show -p.2 = _
  rw [h2, dI_neg]
/-- a small whole number -/
def Sm9 (u : Rat) : Prop := ∃ i : Int, u = (i : Rat) ∧ i.natAbs ≤ 9
def Sm9o (x : Option Rat) : Prop := ∀ u, x = some u → Sm9 u
theorem Sm9.num {u : Rat} (h : Sm9 u) : NumOk u := by
  obtain ⟨i, rfl, h⟩ := h
  exact ⟨by rw [Rat.num_intCast]; omega, by rw [Rat.den_intCast]; decide⟩
theorem Sm9.bd {u : Rat} (h : Sm9 u) : Bd 14 u := num_bd h.num
theorem Sm9o.w {x : Option Rat} (h : Sm9o x) : coW x := by
  cases x with
  | none => trivial
  | some u => exact (h u rfl).num
theorem InD.pick {D M : Nat} {p : Rat × Rat} {x y : Option Rat} (hD : 0 < D) (h : InD D M p) (hM : 9 * D ≤ M) (hx : Sm9o x) (hy : Sm9o y) : InD D M (x.getD p.1, y.getD p.2) := by
  obtain ⟨a, b, h1, h2, h3, h4⟩ := h
  have k : ∀ (z : Option Rat) (c : Int) (w : Rat), Sm9o z → w = Rat.divInt c D → c.natAbs ≤ M → ∃ e : Int, z.getD w = Rat.divInt e D ∧ e.natAbs ≤ M := fun z c w hz e hc => by
    cases z with
    | none => exact ⟨c, e, hc⟩
    | some u =>
      obtain ⟨i, rfl, hi⟩ := hz u rfl
      refine ⟨i * D, dI_int hD i, ?_⟩
      rw [Int.natAbs_mul, Int.natAbs_natCast]
      exact Nat.le_trans (Nat.mul_le_mul_right D hi) hM
  obtain ⟨e, e1, e2⟩ := k x a _ hx h1 h3
  obtain ⟨f, f1, f2⟩ := k y b _ hy h2 h4
  exact ⟨e, f, e1, f1, e2, f2⟩
/-- a heading of fifths -/
def Fifths (c s : Rat) : Prop := ∃ a b : Int, c = Rat.divInt a 5 ∧ s = Rat.divInt b 5 ∧ a.natAbs ≤ 5 ∧ b.natAbs ≤ 5
theorem Fifths.neg {c s : Rat} (h : Fifths c s) : Fifths c (-s) := by
  obtain ⟨a, b, rfl, rfl, h1, h2⟩ := h
  exact ⟨a, -b, rfl, by rw [dI_neg], h1, by omega⟩
theorem fifths_of {p q : Int} (h0 : p ≠ 0 ∨ q ≠ 0) (hp : p.natAbs ≤ 2) (hq : q.natAbs ≤ 2) : Fifths (hdc p q) (hds p q) := by
  rcases (show p = -2 ∨ p = -1 ∨ p = 0 ∨ p = 1 ∨ p = 2 by omega) with rfl | rfl | rfl | rfl | rfl <;>
  rcases (show q = -2 ∨ q = -1 ∨ q = 0 ∨ q = 1 ∨ q = 2 by omega) with rfl | rfl | rfl | rfl | rfl <;>
  first
  | (exfalso; omega)
  | exact ⟨-5, 0, by decide +kernel, by decide +kernel, by decide, by decide⟩
  | exact ⟨5, 0, by decide +kernel, by decide +kernel, by decide, by decide⟩
  | exact ⟨0, 5, by decide +kernel, by decide +kernel, by decide, by decide⟩
  | exact ⟨0, -5, by decide +kernel, by decide +kernel, by decide, by decide⟩
  | exact ⟨3, 4, by decide +kernel, by decide +kernel, by decide, by decide⟩
  | exact ⟨3, -4, by decide +kernel, by decide +kernel, by decide, by decide⟩
  | exact ⟨-3, 4, by decide +kernel, by decide +kernel, by decide, by decide⟩
  | exact ⟨-3, -4, by decide +kernel, by decide +kernel, by decide, by decide⟩
theorem InD.rot {D M : Nat} {p : Rat × Rat} {c s : Rat} (hD : 0 < D) (h : InD D M p) (hc : Fifths c s) : InD (D * 5) (10 * M) (p.1 * c - p.2 * s, p.1 * s + p.2 * c) := by
  obtain ⟨a, b, h1, h2, h3, h4⟩ := h
  obtain ⟨x, y, rfl, rfl, k1, k2⟩ := hc
  have hd := cast_ne hD
  have h5 : ((5 : Int) : Rat) ≠ 0 := by decide
  have e1 : ∀ u v u' v' : Int, Rat.divInt u D * Rat.divInt v 5 - Rat.divInt u' D * Rat.divInt v' 5 = Rat.divInt (u * v - u' * v') ((D * 5 : Nat) : Int) := fun u v u' v' => by
    rw [Rat.divInt_eq_div, Rat.divInt_eq_div, Rat.divInt_eq_div, Rat.divInt_eq_div, Rat.divInt_eq_div, Int.natCast_mul, Rat.intCast_sub, Rat.intCast_mul, Rat.intCast_mul, Rat.intCast_mul]
    rw [show ((5 : Nat) : Int) = 5 from rfl]
    generalize ((D : Int) : Rat) = d at *
    generalize ((5 : Int) : Rat) = f at *
    grind
  have e2 : ∀ u v u' v' : Int, Rat.divInt u D * Rat.divInt v 5 + Rat.divInt u' D * Rat.divInt v' 5 = Rat.divInt (u * v + u' * v') ((D * 5 : Nat) : Int) := fun u v u' v' => by
    rw [Rat.divInt_eq_div, Rat.divInt_eq_div, Rat.divInt_eq_div, Rat.divInt_eq_div, Rat.divInt_eq_div, Int.natCast_mul, Rat.intCast_add, Rat.intCast_mul, Rat.intCast_mul, Rat.intCast_mul]
    rw [show ((5 : Nat) : Int) = 5 from rfl]
    generalize ((D : Int) : Rat) = d at *
    generalize ((5 : Int) : Rat) = f at *
    grind
  have m : ∀ u v : Int, u.natAbs ≤ M → v.natAbs ≤ 5 → (u * v).natAbs ≤ 5 * M := fun u v hu hv => by
    rw [Int.natAbs_mul, Nat.mul_comm]
    exact Nat.mul_le_mul hv hu
  have m1 := m a x h3 k1
  have m2 := m b y h4 k2
  have m3 := m a y h3 k2
  have m4 := m b x h4 k1
  refine ⟨a * x - b * y, a * y + b * x, ?_, ?_, by omega, by omega⟩
  · show p.1 * _ - p.2 * _ = _
    rw [h1, h2, e1]
  · show p.1 * _ + p.2 * _ = _
    rw [h1, h2, e2]
theorem InD.times {D M : Nat} {p : Rat × Rat} {l : Rat} (h : InD D M p) (hl : Sm9 l) : InD D (9 * M) (p.1 * l, p.2 * l) := by
  obtain ⟨a, b, h1, h2, h3, h4⟩ := h
  obtain ⟨i, rfl, hi⟩ := hl
  have e : ∀ u : Int, Rat.divInt u D * (i : Rat) = Rat.divInt (u * i) D := fun u => by
    rw [Rat.divInt_eq_div, Rat.divInt_eq_div, Rat.intCast_mul]
    generalize ((D : Int) : Rat) = d at *
    grind
  have m : ∀ u : Int, u.natAbs ≤ M → (u * i).natAbs ≤ 9 * M := fun u hu => by
    rw [Int.natAbs_mul, Nat.mul_comm]
    exact Nat.mul_le_mul hi hu
  exact ⟨a * i, b * i, by show p.1 * _ = _; rw [h1, e], by show p.2 * _ = _; rw [h2, e], m a h3, m b h4⟩
/-- a place over a power of five, its tops within so many bits -/
structure Pw (k n : Nat) (p : Rat × Rat) : Prop where
  ind : InD (5 ^ k) (2 ^ n) p
  gap : 3 * k + 5 ≤ n
theorem five_pos (k : Nat) : 0 < 5 ^ k := Nat.pow_pos (by decide)
theorem five_le (k : Nat) : 5 ^ k ≤ 2 ^ (3 * k) := by
  rw [Nat.pow_mul]
  exact Nat.pow_le_pow_left (by decide) k
theorem two_mono {m n : Nat} (h : m ≤ n) : 2 ^ m ≤ 2 ^ n := Nat.pow_le_pow_right (by decide) h
theorem Pw.mono {k n m : Nat} {p : Rat × Rat} (h : Pw k n p) (e : n ≤ m) : Pw k m p := ⟨h.ind.mono (two_mono e), Nat.le_trans h.gap e⟩
theorem Pw.up {k n : Nat} {p : Rat × Rat} (h : Pw k n p) (j : Nat) : Pw (k + j) (n + 3 * j) p := by
  have := h.ind.scale (five_pos j) (five_pos k)
  rw [← Nat.pow_add] at this
  refine ⟨this.mono ?_, by have := h.gap; omega⟩
  rw [Nat.pow_add]
  exact Nat.mul_le_mul_left _ (five_le j)
theorem Pw.to {k n k' n' : Nat} {p : Rat × Rat} (h : Pw k n p) (e : k ≤ k') (e2 : n + 3 * (k' - k) ≤ n') : Pw k' n' p := by
  have := h.up (k' - k)
  rw [show k + (k' - k) = k' by omega] at this
  exact this.mono e2
theorem Pw.add {k n : Nat} {p q : Rat × Rat} (h : Pw k n p) (g : Pw k n q) : Pw k (n + 1) (p.1 + q.1, p.2 + q.2) :=
  ⟨(h.ind.add (five_pos k) g.ind).mono (by rw [Nat.pow_succ]; omega), by have := h.gap; omega⟩
theorem Pw.sub {k n : Nat} {p q : Rat × Rat} (h : Pw k n p) (g : Pw k n q) : Pw k (n + 1) (p.1 - q.1, p.2 - q.2) :=
  ⟨(h.ind.sub (five_pos k) g.ind).mono (by rw [Nat.pow_succ]; omega), by have := h.gap; omega⟩
theorem Pw.flip {k n : Nat} {p : Rat × Rat} (h : Pw k n p) : Pw k n (p.1, -p.2) := ⟨h.ind.flip, h.gap⟩
theorem Pw.rot {k n : Nat} {p : Rat × Rat} {c s : Rat} (h : Pw k n p) (hc : Fifths c s) : Pw (k + 1) (n + 4) (p.1 * c - p.2 * s, p.1 * s + p.2 * c) :=
  ⟨(h.ind.rot (five_pos k) hc).mono (by rw [Nat.pow_add]; omega), by have := h.gap; omega⟩
theorem Pw.times {k n : Nat} {p : Rat × Rat} {l : Rat} (h : Pw k n p) (hl : Sm9 l) : Pw k (n + 4) (p.1 * l, p.2 * l) :=
  ⟨(h.ind.times hl).mono (by rw [Nat.pow_add]; omega), by have := h.gap; omega⟩
theorem Pw.pick {k n : Nat} {p : Rat × Rat} {x y : Option Rat} (h : Pw k n p) (hx : Sm9o x) (hy : Sm9o y) : Pw k n (x.getD p.1, y.getD p.2) := by
  refine ⟨h.ind.pick (five_pos k) ?_ hx hy, h.gap⟩
  have a := five_le k
  have b := two_mono h.gap
  rw [Nat.pow_add] at b
  omega
theorem Pw.zero : Pw 0 5 (0, 0) := ⟨⟨0, 0, by rw [Rat.zero_divInt], by rw [Rat.zero_divInt], by decide, by decide⟩, by decide⟩
theorem Pw.ints {x y : Option Rat} (hx : Sm9o x) (hy : Sm9o y) : Pw 0 5 (x.getD 0, y.getD 0) := Pw.zero.pick hx hy
theorem Pw.bc {k n : Nat} {p : Rat × Rat} (h : Pw k n p) : Bc (n + 1) p := by
  have a := five_le k
  have b := two_mono (Nat.le_trans (Nat.le_add_right (3 * k) 5) h.gap)
  have c := Nat.pow_pos (n := n) (show 0 < 2 by decide)
  exact h.ind.bc (five_pos k) (by rw [Nat.pow_succ]; omega) (by rw [Nat.pow_succ]; omega)
/-- small frames -/
def FrS : Fr → Prop
  | .shift a b => Sm9 a ∧ Sm9 b
  | .turn p q => (p ≠ 0 ∨ q ≠ 0) ∧ p.natAbs ≤ 2 ∧ q.natAbs ≤ 2
  | .flip => True
theorem FrS.ok {f : Fr} (h : FrS f) : FrOk f := by
  cases f with
  | shift a b => exact ⟨h.1.bd, h.2.bd⟩
  | turn p q =>
    obtain ⟨h0, h1, h2⟩ := h
    exact ⟨h0, by omega, by omega⟩
  | flip => trivial
theorem FrS.w {f : Fr} (h : FrS f) : RcW (.frame f) := by
  cases f with
  | shift a b => exact ⟨h.1.num, h.2.num⟩
  | turn p q =>
    obtain ⟨h0, h1, h2⟩ := h
    exact ⟨by omega, by omega, by omega⟩
  | flip => trivial
theorem Pw.shift {k n : Nat} {p : Rat × Rat} {a b : Rat} (h : Pw k n p) (ha : Sm9 a) (hb : Sm9 b) : Pw k (n + 1) (p.1 + a, p.2 + b) ∧ Pw k (n + 1) (p.1 - a, p.2 - b) := by
  have g : Pw k n ((some a).getD p.1, (some b).getD p.2) := h.pick (fun u e => by cases e; exact ha) (fun u e => by cases e; exact hb)
  exact ⟨h.add g, h.sub g⟩
theorem Pw.fwd {k n : Nat} {p : Rat × Rat} {f : Fr} (m : Bool) (h : Pw k n p) (hf : FrS f) : Pw (k + 1) (n + 4) (fwd m f p) := by
  cases f with
  | shift a b =>
    cases m with
    | false => exact h.to (by omega) (by omega)
    | true => exact (h.shift hf.1 hf.2).1.to (by omega) (by omega)
  | turn p q => exact h.rot (fifths_of hf.1 hf.2.1 hf.2.2)
  | flip => exact h.flip.to (by omega) (by omega)
theorem Pw.bwd {k n : Nat} {p : Rat × Rat} {f : Fr} (h : Pw k n p) (hf : FrS f) : Pw (k + 1) (n + 4) (bwd f p) := by
  cases f with
  | shift a b => exact (h.shift hf.1 hf.2).2.to (by omega) (by omega)
  | turn p q => exact h.rot (fifths_of hf.1 hf.2.1 hf.2.2).neg
  | flip => exact h.flip.to (by omega) (by omega)
theorem Pw.led {k n : Nat} {p : Rat × Rat} (m : Bool) (h : Pw k n p) : ∀ fs : List Fr, (∀ f ∈ fs, FrS f) → Pw (k + fs.length) (n + 4 * fs.length) (led m fs p)
  | [], _ => h
  | f :: fs, hf => by
    have := (h.led m fs fun g z => hf g (List.mem_cons_of_mem _ z)).fwd m (hf f List.mem_cons_self)
    rw [List.length_cons]
    exact this.to (by omega) (by omega)
theorem Pw.unled : ∀ (fs : List Fr) {k n : Nat} {p : Rat × Rat}, Pw k n p → (∀ f ∈ fs, FrS f) → Pw (k + fs.length) (n + 4 * fs.length) (unled fs p)
  | [], _, _, _, h, _ => h
  | f :: fs, k, n, p, h, hf => by
    have := Pw.unled fs (h.bwd (hf f List.mem_cons_self)) fun g z => hf g (List.mem_cons_of_mem _ z)
    rw [List.length_cons]
    exact this.to (by omega) (by omega)
end DR

/-! DFb: what a runner holds, seen without rows and trails; rows of small numbers, done or refused. -/
namespace DR
open PySem PySem.Spec L2 DL DM SX
structure Kv where
  place : Rat × Rat
  by_ : Bool
  pace : Int
  side : Rat
  fs : List Fr
  es : List (Stp × Int × Rat)
def Ey.v (e : Ey) : Stp × Int × Rat := (e.st, e.pace, e.side)
def Rn.v (s : Rn) : Kv := ⟨s.place, s.by_, s.pace, s.side, s.fs, s.made.map Ey.v⟩
def spotV (k : Kv) (x y : Option Rat) : Rat × Rat :=
  if k.by_ then (k.place.1 + (led false k.fs (x.getD 0, y.getD 0)).1, k.place.2 + (led false k.fs (x.getD 0, y.getD 0)).2)
  else led true k.fs (x.getD (unled k.fs k.place).1, y.getD (unled k.fs k.place).2)
noncomputable def arcV (k : Kv) (c : Rat × Rat) (w p q : Int) : Rat × Rat :=
  (c.1 + ((k.place.1 - c.1) * hdc (w * p) q - (k.place.2 - c.2) * hds (w * p) q), c.2 + ((k.place.1 - c.1) * hds (w * p) q + (k.place.2 - c.2) * hdc (w * p) q))
def runV (k : Kv) (p q : Int) (l : Rat) : Rat × Rat := (k.place.1 + (led false k.fs (hdc p q, hds p q)).1 * l, k.place.2 + (led false k.fs (hdc p q, hds p q)).2 * l)
def mkV (k : Kv) (st : Stp) : Kv := { k with es := k.es ++ [(st, k.pace, if abB k.fs then -k.side else k.side)], place := st.fin }
noncomputable def rowV (k : Kv) : Rc → Option Kv
  | .hop x y => some (mkV k (.hop k.place (spotV k x y)))
  | .cut x y => if farP k.place (spotV k x y) then some (mkV k (.line k.place (spotV k x y))) else none
  | .run p q l => some (mkV k (.line k.place (runV k p q l)))
  | .arc left x y p q => if farP (spotV k x y) k.place then some (mkV k (.arc k.place (arcV k (spotV k x y) (arcW left k.fs) p q) (spotV k x y) (arcW left k.fs))) else none
  | .mode b => some { k with by_ := b }
  | .pace g => some { k with pace := g }
  | .side u => some { k with side := u }
  | .frame f => some { k with fs := k.fs ++ [f] }
  | .back => some { k with fs := k.fs.dropLast }
  | _ => some k
noncomputable def foldV : Kv → List Rc → Option Kv
  | k, [] => some k
  | k, r :: rs => (rowV k r).bind fun k' => foldV k' rs
theorem fs_eq (s : Rn) : s.fs = s.fout.reverse.flatten ++ s.fl := by
  show (s.fout.reverse ++ [s.fl]).flatten = _
  simp
def flR (fl : List Fr) : Rc → List Fr
  | .frame f => fl ++ [f]
  | .back => fl.dropLast
  | _ => fl
/-- what stays and what changes at a row -/
structure Nx (s t : Rn) (r : Rc) : Prop where
  out : t.out = s.out
  fout : t.fout = s.fout
  row : t.row = s.row
  many : t.many = s.many
  fl : t.fl = flR s.fl r
  made : t.made.length = s.made.length + (if r.isStep then 1 else 0)
theorem v_fl {s : Rn} {fl : List Fr} : Rn.v { s with fl := fl } = { s.v with fs := s.fout.reverse.flatten ++ fl } := by
  have := fs_eq { s with fl := fl }
  unfold Rn.v
  rw [this]
theorem v_mk {s : Rn} {st : Stp} : (mkR s st).v = mkV s.v st := by
  have : (mkR s st).made.map Ey.v = s.made.map Ey.v ++ [(st, s.pace, if abB s.fs then -s.side else s.side)] := by
    show (s.made ++ [_]).map Ey.v = _
    rw [List.map_append]
    rfl
  show Kv.mk st.fin s.by_ s.pace s.side s.fs ((mkR s st).made.map Ey.v) = _
  rw [this]
  rfl
/-- a row's deed, seen so -/
theorem deed_v (rs : List Rc) (s : Rn) {r : Rc} (hc : r.isCall = false) (hf : ∀ f, r = .frame f → s.fs.length ≠ 8) (hb : r = .back → s.fl ≠ []) :
    (∀ k, rowV s.v r = some k → ∃ t, deedR rs s r = .ok t ∧ t.v = k ∧ Nx s t r) ∧ (rowV s.v r = none → deedR rs s r = .error (.uneven s.row)) := by
  have mk : ∀ st, r.isStep = true → flR s.fl r = s.fl → Nx s (mkR s st) r := fun st h h2 => ⟨rfl, rfl, rfl, rfl, h2.symm, by
    show (s.made ++ [_]).length = _
    rw [List.length_append, h]
    rfl⟩
  have st : ∀ t : Rn, t.out = s.out → t.fout = s.fout → t.row = s.row → t.many = s.many → t.fl = flR s.fl r → t.made = s.made → r.isStep = false → Nx s t r := fun t h1 h2 h3 h4 h5 h6 h7 => ⟨h1, h2, h3, h4, h5, by rw [h6, h7]; rfl⟩
  cases r with
  | hop x y => exact ⟨fun k e => ⟨_, rfl, by cases e; exact v_mk, mk _ rfl rfl⟩, fun e => nomatch e⟩
  | cut x y =>
    by_cases far : farP s.place (spotR s x y) = true
    · have e : rowV s.v (.cut x y) = some (mkV s.v (.line s.place (spotR s x y))) := if_pos far
      exact ⟨fun k e2 => ⟨_, if_pos far, by rw [e] at e2; cases e2; exact v_mk, mk _ rfl rfl⟩, fun e2 => by rw [e] at e2; cases e2⟩
    · have e : rowV s.v (.cut x y) = none := if_neg far
      exact ⟨fun k e2 => (by rw [e] at e2; cases e2), fun _ => if_neg far⟩
  | run p q l => exact ⟨fun k e => ⟨_, rfl, by cases e; exact v_mk, mk _ rfl rfl⟩, fun e => nomatch e⟩
  | arc left x y p q =>
    by_cases far : farP (spotR s x y) s.place = true
    · have e : rowV s.v (.arc left x y p q) = some (mkV s.v (.arc s.place (arcE s (spotR s x y) (arcW left s.fs) p q) (spotR s x y) (arcW left s.fs))) := if_pos far
      exact ⟨fun k e2 => ⟨_, if_pos far, by rw [e] at e2; cases e2; exact v_mk, mk _ rfl rfl⟩, fun e2 => by rw [e] at e2; cases e2⟩
    · have e : rowV s.v (.arc left x y p q) = none := if_neg far
      exact ⟨fun k e2 => (by rw [e] at e2; cases e2), fun _ => if_neg far⟩
  | mode b => exact ⟨fun k e => ⟨_, rfl, by cases e; rfl, st _ rfl rfl rfl rfl rfl rfl rfl⟩, fun e => nomatch e⟩
  | pace g => exact ⟨fun k e => ⟨_, rfl, by cases e; rfl, st _ rfl rfl rfl rfl rfl rfl rfl⟩, fun e => nomatch e⟩
  | side u => exact ⟨fun k e => ⟨_, rfl, by cases e; rfl, st _ rfl rfl rfl rfl rfl rfl rfl⟩, fun e => nomatch e⟩
  | frame f => exact ⟨fun k e => ⟨_, if_neg (hf f rfl), (by
      cases e
      rw [v_fl, ← List.append_assoc, ← fs_eq]
      rfl), st _ rfl rfl rfl rfl rfl rfl rfl⟩, fun e => nomatch e⟩
  | back => exact ⟨fun k e => ⟨_, if_neg (hb rfl), (by
      cases e
      rw [v_fl]
      show _ = Kv.mk s.place s.by_ s.pace s.side s.fs.dropLast (s.made.map Ey.v)
      rw [fs_eq s, List.dropLast_append_of_ne_nil (hb rfl)]
      rfl), st _ rfl rfl rfl rfl rfl rfl rfl⟩, fun e => nomatch e⟩
  | piece l => exact ⟨fun k e => ⟨_, rfl, by cases e; rfl, st _ rfl rfl rfl rfl rfl rfl rfl⟩, fun e => nomatch e⟩
  | end_ => exact ⟨fun k e => ⟨_, rfl, by cases e; rfl, st _ rfl rfl rfl rfl rfl rfl rfl⟩, fun e => nomatch e⟩
  | call l n => cases hc
/-! ### rows of small numbers -/
def HdS (p q : Int) : Prop := (p ≠ 0 ∨ q ≠ 0) ∧ p.natAbs ≤ 2 ∧ q.natAbs ≤ 2
theorem HdS.w {p q : Int} (h : HdS p q) : hdW p q := by
  obtain ⟨h0, h1, h2⟩ := h
  exact ⟨by omega, by omega, by omega⟩
def RcS : Rc → Prop
  | .hop x y => Sm9o x ∧ Sm9o y
  | .cut x y => Sm9o x ∧ Sm9o y
  | .run p q l => HdS p q ∧ Sm9 l ∧ 0 < l
  | .arc _ x y p q => (Sm9o x ∧ Sm9o y) ∧ HdS p q
  | .mode _ => True
  | .pace g => 0 ≤ g ∧ g ≤ 9
  | .side u => Sm9 u
  | .frame f => FrS f
  | .back => True
  | _ => False
theorem RcS.pl {r : Rc} (h : RcS r) : RcW r ∧ r.plain = true ∧ r.isCall = false ∧ r.isPiece = false ∧ r.isEnd = false := by
  cases r with
  | hop x y => exact ⟨⟨h.1.w, h.2.w⟩, rfl, rfl, rfl, rfl⟩
  | cut x y => exact ⟨⟨h.1.w, h.2.w⟩, rfl, rfl, rfl, rfl⟩
  | run p q l => exact ⟨⟨h.1.w, h.2.1.num, h.2.2⟩, rfl, rfl, rfl, rfl⟩
  | arc left x y p q => exact ⟨⟨⟨h.1.1.w, h.1.2.w⟩, h.2.w⟩, rfl, rfl, rfl, rfl⟩
  | mode b => exact ⟨trivial, rfl, rfl, rfl, rfl⟩
  | pace g => exact ⟨h, rfl, rfl, rfl, rfl⟩
  | side u => exact ⟨Sm9.num h, rfl, rfl, rfl, rfl⟩
  | frame f => exact ⟨FrS.w h, rfl, rfl, rfl, rfl⟩
  | back => exact ⟨trivial, rfl, rfl, rfl, rfl⟩
  | piece l => exact h.elim
  | end_ => exact h.elim
  | call l n => exact h.elim
/-- a runner's sizes behind so many steps -/
structure Sz (m : Nat) (s : Rn) : Prop where
  tn : s.turn = 0
  pl : Pw (7 * m) (30 * m + 10) s.place
  md : s.made.length ≤ m
  fr : ∀ f ∈ s.fs, FrS f
  f3 : s.fs.length ≤ 3
theorem Sz.spot {m : Nat} {s : Rn} (h : Sz m s) {x y : Option Rat} (hx : Sm9o x) (hy : Sm9o y) : Pw (7 * m + 6) (30 * m + 34) (spotR s x y) := by
  have f3 := h.f3
  unfold spotR
  cases s.by_ with
  | true =>
    rw [if_pos rfl]
    have a : Pw (7 * m + 6) (30 * m + 33) s.place := h.pl.to (by omega) (by omega)
    have b : Pw (7 * m + 6) (30 * m + 33) (led false s.fs (x.getD 0, y.getD 0)) := ((Pw.ints hx hy).led false s.fs h.fr).to (by omega) (by omega)
    exact a.add b
  | false =>
    rw [if_neg Bool.false_ne_true]
    have a : Pw (7 * m + 3) (30 * m + 22) (unled s.fs s.place) := (Pw.unled s.fs h.pl h.fr).to (by omega) (by omega)
    exact ((a.pick hx hy).led true s.fs h.fr).to (by omega) (by omega)
theorem Sz.arc {m : Nat} {s : Rn} (h : Sz m s) {c : Rat × Rat} {w p q : Int} (hc : Pw (7 * m + 6) (30 * m + 34) c) (hh : HdS p q) (hw : w = 1 ∨ w = -1) : Pw (7 * (m + 1)) (30 * (m + 1) + 10) (arcE s c w p q) := by
  obtain ⟨h0, h1, h2⟩ := hh
  have a : Pw (7 * m + 6) (30 * m + 34) s.place := h.pl.to (by omega) (by omega)
  have f : Fifths (hdc (w * p) q) (hds (w * p) q) := by
    rcases hw with rfl | rfl
    · exact fifths_of (by omega) (by omega) h2
    · exact fifths_of (by omega) (by omega) h2
  have b := (a.sub hc).rot f
  have c' : Pw (7 * m + 6 + 1) (30 * m + 34 + 1 + 4) c := hc.to (by omega) (by omega)
  exact (c'.add b).to (by omega) (by omega)
theorem Sz.run {m : Nat} {s : Rn} (h : Sz m s) {p q : Int} {l : Rat} (hh : HdS p q) (hl : Sm9 l) : Pw (7 * (m + 1)) (30 * (m + 1) + 10) (runE s p q l) := by
  have f3 := h.f3
  obtain ⟨a, b, e1, e2, b1, b2⟩ := fifths_of hh.1 hh.2.1 hh.2.2
  have i : Pw 1 8 (hdc p q, hds p q) := ⟨⟨a, b, e1, e2, by omega, by omega⟩, by decide⟩
  have c : Pw (7 * (m + 1)) (30 * m + 39) ((led false s.fs (hdc p q, hds p q)).1 * l, (led false s.fs (hdc p q, hds p q)).2 * l) := ((i.led false s.fs h.fr).times hl).to (by omega) (by omega)
  have d : Pw (7 * (m + 1)) (30 * m + 39) s.place := h.pl.to (by omega) (by omega)
  exact d.add c
def stp (r : Rc) : Nat := if r.isStep then 1 else 0
def stps : List Rc → Nat
  | [] => 0
  | r :: rs => stp r + stps rs
theorem flR_fs {s t : Rn} {r : Rc} (n : Nx s t r) : t.fs = s.fout.reverse.flatten ++ flR s.fl r := by rw [fs_eq, n.fout, n.fl]
/-- the sizes that a row asks, and those behind it -/
theorem Sz.fit {m : Nat} {s : Rn} {r : Rc} (h : Sz m s) (hr : RcS r) (hm : m ≤ 27) : Fit s r ∧ ∀ rs t, deedR rs s r = .ok t → Pw (7 * (m + stp r)) (30 * (m + stp r) + 10) t.place := by
  have f3 := h.f3
  have so : SpotOk s := ⟨_, show 30 * m + 10 + 1 + 58 * s.fs.length + 30 ≤ 1800 by omega, h.pl.bc⟩
  have pb : Bc 900 s.place := h.pl.bc.mono (by omega)
  have sp : ∀ {x y : Option Rat}, Sm9o x → Sm9o y → Bc 900 (spotR s x y) := fun hx hy => (h.spot hx hy).bc.mono (by omega)
  have sp1 : ∀ {x y : Option Rat}, Sm9o x → Sm9o y → Pw (7 * (m + 1)) (30 * (m + 1) + 10) (spotR s x y) := fun hx hy => (h.spot hx hy).to (by omega) (by omega)
  cases r with
  | hop x y => exact ⟨so, fun rs t e => by cases e; exact sp1 hr.1 hr.2⟩
  | cut x y =>
    refine ⟨⟨so, pb.bd, (sp hr.1 hr.2).bd⟩, fun rs t e => ?_⟩
    have e : (if farP s.place (spotR s x y) then Except.ok (mkR s (.line s.place (spotR s x y))) else .error (Xr.uneven s.row)) = .ok t := e
    split at e
    · cases e; exact sp1 hr.1 hr.2
    · cases e
  | run p q l => exact ⟨⟨h.pl.bc.bd.1.mono (by omega), h.pl.bc.bd.2.mono (by omega)⟩, fun rs t e => by cases e; exact h.run hr.1 hr.2.1⟩
  | arc left x y p q =>
    refine ⟨⟨so, pb, sp hr.1.1 hr.1.2⟩, fun rs t e => ?_⟩
    have e : (if farP (spotR s x y) s.place then Except.ok (mkR s (.arc s.place (arcE s (spotR s x y) (arcW left s.fs) p q) (spotR s x y) (arcW left s.fs))) else .error (Xr.uneven s.row)) = .ok t := e
    split at e
    · cases e; exact h.arc (h.spot hr.1.1 hr.1.2) hr.2 (arcW_pm _ _)
    · cases e
  | mode b => exact ⟨trivial, fun rs t e => by cases e; exact h.pl⟩
  | pace g => exact ⟨trivial, fun rs t e => by cases e; exact h.pl⟩
  | side u => exact ⟨trivial, fun rs t e => by cases e; exact h.pl⟩
  | frame f =>
    refine ⟨trivial, fun rs t e => ?_⟩
    have e : (if s.fs.length = 8 then Except.error (Xr.noframe s.row) else .ok { s with fl := s.fl ++ [f] }) = .ok t := e
    split at e
    · cases e
    · cases e; exact h.pl
  | back =>
    refine ⟨trivial, fun rs t e => ?_⟩
    have e : (if s.fl = [] then Except.error (Xr.noframe s.row) else .ok { s with fl := s.fl.dropLast }) = .ok t := e
    split at e
    · cases e
    · cases e; exact h.pl
  | piece l => exact hr.elim
  | end_ => exact hr.elim
  | call l n => exact hr.elim
end DR

/-! DFc: rows one behind another, done or refused; frames put and taken. -/
namespace DR
open PySem PySem.Spec L2 DL DM SX
/-- frames put and taken within one level: so many stand at the begin and at the end, never more than so many -/
inductive Bal (cap : Nat) : Nat → List Rc → Nat → Prop
  | nil (d : Nat) : Bal cap d [] d
  | put {d e : Nat} {f : Fr} {rs : List Rc} : d < cap → Bal cap (d + 1) rs e → Bal cap d (.frame f :: rs) e
  | take {d e : Nat} {rs : List Rc} : Bal cap d rs e → Bal cap (d + 1) (.back :: rs) e
  | on {d e : Nat} {r : Rc} {rs : List Rc} : (∀ f, r ≠ .frame f) → r ≠ .back → Bal cap d rs e → Bal cap d (r :: rs) e
theorem Bal.app {cap : Nat} {a : List Rc} {d e : Nat} (h : Bal cap d a e) : ∀ {b : List Rc} {f : Nat}, Bal cap e b f → Bal cap d (a ++ b) f := by
  induction h with
  | nil d => exact fun h => h
  | put h _ ih => exact fun k => .put h (ih k)
  | take _ ih => exact fun k => .take (ih k)
  | on h1 h2 _ ih => exact fun k => .on h1 h2 (ih k)
theorem Bal.cap {cap cap' : Nat} {a : List Rc} {d e : Nat} (h : Bal cap d a e) (k : Nat) (hc : cap + k ≤ cap') : Bal cap' (d + k) a (e + k) := by
  induction h with
  | nil d => exact .nil _
  | @put d e f rs h _ ih =>
    refine .put (by omega) ?_
    rw [show d + k + 1 = d + 1 + k by omega]
    exact ih
  | @take d e rs _ ih =>
    rw [show d + 1 + k = d + k + 1 by omega]
    exact .take ih
  | on h1 h2 _ ih => exact .on h1 h2 ih
theorem rowV_fs {k k' : Kv} {r : Rc} (h1 : ∀ f, r ≠ .frame f) (h2 : r ≠ .back) (h : rowV k r = some k') : k'.fs = k.fs := by
  cases r with
  | hop x y => cases h; rfl
  | cut x y =>
    have h : (if farP k.place (spotV k x y) then some (mkV k (.line k.place (spotV k x y))) else none) = some k' := h
    split at h <;> cases h
    rfl
  | run p q l => cases h; rfl
  | arc left x y p q =>
    have h : (if farP (spotV k x y) k.place then some (mkV k (.arc k.place (arcV k (spotV k x y) (arcW left k.fs) p q) (spotV k x y) (arcW left k.fs))) else none) = some k' := h
    split at h <;> cases h
    rfl
  | mode b => cases h; rfl
  | pace g => cases h; rfl
  | side u => cases h; rfl
  | frame f => exact absurd rfl (h1 f)
  | back => exact absurd rfl h2
  | piece l => cases h; rfl
  | end_ => cases h; rfl
  | call l n => cases h; rfl
/-- frames behind rows, those ahead of them stay -/
theorem Bal.fs {cap : Nat} {a : List Rc} {d e : Nat} (h : Bal cap d a e) : ∀ {k k' : Kv} {B G : List Fr}, k.fs = B ++ G → G.length = d → foldV k a = some k' → ∃ G', k'.fs = B ++ G' ∧ G'.length = e := by
  induction h with
  | nil d =>
    intro k k' B G h1 h2 h3
    cases h3
    exact ⟨G, h1, h2⟩
  | @put d e f rs h _ ih =>
    intro k k' B G h1 h2 h3
    exact ih (k := { k with fs := k.fs ++ [f] }) (B := B) (G := G ++ [f]) (by show k.fs ++ [f] = _; rw [h1, List.append_assoc]) (by rw [List.length_append, h2]; rfl) h3
  | @take d e rs _ ih =>
    intro k k' B G h1 h2 h3
    have ne : G ≠ [] := fun z => by rw [z] at h2; cases h2
    exact ih (k := { k with fs := k.fs.dropLast }) (B := B) (G := G.dropLast) (by show k.fs.dropLast = _; rw [h1, List.dropLast_append_of_ne_nil ne]) (by rw [List.length_dropLast, h2]; rfl) h3
  | @on d e r rs n1 n2 _ ih =>
    intro k k' B G h1 h2 h3
    have h3 : (rowV k r).bind (fun k' => foldV k' rs) = some k' := h3
    cases q : rowV k r with
    | none => rw [q] at h3; cases h3
    | some k2 =>
      rw [q] at h3
      exact ih (by rw [rowV_fs n1 n2 q]; exact h1) h2 h3
/-! ### outcomes -/
/-- what becomes of a runner: it comes to what is told, or is refused as uneven -/
def Out (rs : List Rc) (s : Rn) (P : Rn → Prop) : Option Kv → Prop
  | some k => ∃ t, Rch rs s t ∧ t.v = k ∧ P t
  | none => ∃ t r, Rch rs s t ∧ rs[t.row]? = some r ∧ r.plain = true ∧ Dn rs t (.error (.uneven t.row))
theorem Out.bind {rs : List Rc} {s : Rn} {P P' : Rn → Prop} {o : Option Kv} {f : Kv → Option Kv} (h : Out rs s P o) (g : ∀ t, o = some t.v → P t → Out rs t P' (f t.v)) : Out rs s P' (o.bind f) := by
  cases o with
  | none => exact h
  | some k =>
    obtain ⟨t, h1, rfl, h3⟩ := h
    have := g t rfl h3
    show Out rs s P' (f t.v)
    cases q : f t.v with
    | none =>
      rw [q] at this
      obtain ⟨u, r, u1, u2⟩ := this
      exact ⟨u, r, h1.trans u1, u2⟩
    | some k2 =>
      rw [q] at this
      obtain ⟨u, u1, u2⟩ := this
      exact ⟨u, h1.trans u1, u2⟩
theorem Out.mono {rs : List Rc} {s : Rn} {P P' : Rn → Prop} {o : Option Kv} (h : Out rs s P o) (g : ∀ t, o = some t.v → P t → P' t) : Out rs s P' o := by
  cases o with
  | none => exact h
  | some k =>
    obtain ⟨t, h1, rfl, h3⟩ := h
    exact ⟨t, h1, rfl, g t rfl h3⟩
theorem Out.ahead {rs : List Rc} {s t : Rn} {P : Rn → Prop} {o : Option Kv} (h : Rch rs s t) (g : Out rs t P o) : Out rs s P o := by
  cases o with
  | none =>
    obtain ⟨u, r, u1, u2⟩ := g
    exact ⟨u, r, h.trans u1, u2⟩
  | some k =>
    obtain ⟨u, u1, u2⟩ := g
    exact ⟨u, h.trans u1, u2⟩
/-- the whole run's outcome -/
theorem Out.runs {rs : List Rc} {P : Rn → Prop} {o : Option Kv} (h : Out rs rn0 P o) (e : ∀ t, P t → AtEnd rs t) : (∀ k, o = some k → ∃ t, Runs rs (.ok t) ∧ t.v = k) ∧ (o = none → ∃ j, Runs rs (.error (.uneven j))) := by
  cases o with
  | none =>
    obtain ⟨t, r, h1, h2, h3, h4⟩ := h
    exact ⟨fun k z => (nomatch z), fun _ => ⟨_, h1.runsX h2 h3 h4⟩⟩
  | some k =>
    obtain ⟨t, h1, h2, h3⟩ := h
    exact ⟨fun k2 z => by cases z; exact ⟨t, h1.runsE (e t h3), h2⟩, fun z => nomatch z⟩
/-- behind rows -/
structure Beh (s : Rn) (m n : Nat) (F : List Fr) (d : Nat) (t : Rn) : Prop where
  sz : Sz m t
  row : t.row = s.row + n
  out : t.out = s.out
  fout : t.fout = s.fout
  fl : ∃ G, t.fl = F ++ G ∧ G.length = d
  many : t.many = s.many + n
theorem Out.row {rs : List Rc} {s : Rn} {m : Nat} {r : Rc} (h : Sz m s) (hr : RcS r) (hm : m ≤ 27) (hn : s.many < 2000) (hf : ∀ f, r = .frame f → s.fs.length < 3) (hb : r = .back → s.fl ≠ []) (e : rs[s.row]? = some r) :
    Out rs s (fun t => Sz (m + stp r) t ∧ t.row = s.row + 1 ∧ t.out = s.out ∧ t.fout = s.fout ∧ t.fl = flR s.fl r ∧ t.many = s.many + 1) (rowV s.v r) := by
  have w := hr.pl
  obtain ⟨fit, pl⟩ := h.fit hr hm
  have f3 := h.f3
  have hmd := h.md
  obtain ⟨d1, d2⟩ := deed_v rs s w.2.2.1 (fun f z => by have := hf f z; omega) hb
  cases q : rowV s.v r with
  | none =>
    refine ⟨s, r, .refl s, e, w.2.1, .err (by omega) e w.2.1 (fun _ => by omega) fit (fun l n z => by rw [z] at w; cases w.2.2.1) (d2 q)⟩
  | some k =>
    obtain ⟨t, t1, t2, n⟩ := d1 k q
    have o := Rch.one (s := s) e w.2.1 hn (fun _ => by omega) fit (fun l n z => by rw [z] at w; cases w.2.2.1) t1
    have ea : aftR r t = nxR t := by unfold aftR; rw [w.2.2.1]; rfl
    rw [ea] at o
    have efs : (nxR t).fs = s.fout.reverse.flatten ++ flR s.fl r := (show t.fs = _ from flR_fs n)
    have sub : (∀ f ∈ s.fout.reverse.flatten ++ flR s.fl r, FrS f) ∧ (s.fout.reverse.flatten ++ flR s.fl r).length ≤ 3 := by
      have same : ∀ fl, fl = s.fl → (∀ f ∈ s.fout.reverse.flatten ++ fl, FrS f) ∧ (s.fout.reverse.flatten ++ fl).length ≤ 3 := fun fl z => by
        rw [z, ← fs_eq]
        exact ⟨h.fr, h.f3⟩
      cases r with
      | frame f =>
        have l := hf f rfl
        show (∀ f ∈ s.fout.reverse.flatten ++ (s.fl ++ [_]), FrS f) ∧ (s.fout.reverse.flatten ++ (s.fl ++ [_])).length ≤ 3
        rw [← List.append_assoc, ← fs_eq]
        refine ⟨fun g mg => ?_, by rw [List.length_append]; show s.fs.length + 1 ≤ 3; omega⟩
        rcases List.mem_append.mp mg with z | z
        · exact h.fr g z
        · rw [List.mem_singleton.mp z]; exact hr
      | back =>
        show (∀ f ∈ s.fout.reverse.flatten ++ s.fl.dropLast, FrS f) ∧ (s.fout.reverse.flatten ++ s.fl.dropLast).length ≤ 3
        have e2 := fs_eq s
        refine ⟨fun g mg => h.fr g ?_, ?_⟩
        · rw [e2]
          rcases List.mem_append.mp mg with z | z
          · exact List.mem_append_left _ z
          · exact List.mem_append_right _ ((List.dropLast_sublist _).mem z)
        · rw [e2, List.length_append] at f3
          rw [List.length_append, List.length_dropLast]
          omega
      | _ => exact same _ rfl
    refine ⟨nxR t, o, t2, ⟨rfl, pl rs t t1, ?_, by rw [efs]; exact sub.1, by rw [efs]; exact sub.2⟩, by show t.row + 1 = _; rw [n.row], n.out, n.fout, n.fl, by show t.many + 1 = _; rw [n.many]⟩
    show t.made.length ≤ _
    rw [n.made]
    unfold stp
    omega
/-- rows one behind another -/
theorem Out.rows {rs : List Rc} {cap : Nat} {body : List Rc} {d e : Nat} (b : Bal cap d body e) : ∀ {m : Nat} {s : Rn} {F G : List Fr}, Sz m s → (∀ r ∈ body, RcS r) → m + stps body ≤ 27 → s.many + body.length ≤ 2000 → s.fl = F ++ G → G.length = d → (s.fout.reverse.flatten ++ F).length + cap ≤ 3 →
    (∀ i, i < body.length → rs[s.row + i]? = body[i]?) → Out rs s (Beh s (m + stps body) body.length F e) (foldV s.v body) := by
  -- a row, then the others
  have key : ∀ {r : Rc} {body : List Rc} {d' e : Nat} {m : Nat} {s : Rn} {F G : List Fr}, Sz m s → (∀ q ∈ r :: body, RcS q) → m + stps (r :: body) ≤ 27 → s.many + (r :: body).length ≤ 2000 → (s.fout.reverse.flatten ++ F).length + cap ≤ 3 → (∀ i, i < (r :: body).length → rs[s.row + i]? = (r :: body)[i]?) →
      (∀ f, r = .frame f → s.fs.length < 3) → (r = .back → s.fl ≠ []) → (∃ G', flR s.fl r = F ++ G' ∧ G'.length = d') →
      (∀ {m : Nat} {s : Rn} {F G : List Fr}, Sz m s → (∀ r ∈ body, RcS r) → m + stps body ≤ 27 → s.many + body.length ≤ 2000 → s.fl = F ++ G → G.length = d' → (s.fout.reverse.flatten ++ F).length + cap ≤ 3 → (∀ i, i < body.length → rs[s.row + i]? = body[i]?) → Out rs s (Beh s (m + stps body) body.length F e) (foldV s.v body)) →
      Out rs s (Beh s (m + stps (r :: body)) (r :: body).length F e) (foldV s.v (r :: body)) := by
    intro r body d' e m s F G h hr hm hn hc hp hf hb hG ih
    obtain ⟨G', g1, g2⟩ := hG
    have es : stps (r :: body) = stp r + stps body := rfl
    rw [es] at hm
    rw [List.length_cons] at hn
    have e0 := hp 0 (by rw [List.length_cons]; omega)
    rw [Nat.add_zero] at e0
    refine (Out.row h (hr r List.mem_cons_self) (by omega) (by omega) hf hb (e0.trans rfl)).bind fun t _ ⟨t1, t2, t3, t4, t5, t6⟩ => ?_
    refine (ih (m := m + stp r) (F := F) (G := G') t1 (fun q mq => hr q (List.mem_cons_of_mem _ mq)) (by omega) (by omega) (t5.trans g1) g2 (by rw [t4]; exact hc) fun i hi => ?_).mono fun u _ u1 => ?_
    · have := hp (i + 1) (by rw [List.length_cons]; omega)
      rw [t2, show s.row + 1 + i = s.row + (i + 1) by omega, this]
      rfl
    · refine ⟨by rw [es, ← Nat.add_assoc]; exact u1.sz, ?_, u1.out.trans t3, u1.fout.trans t4, u1.fl, ?_⟩
      · rw [u1.row, t2, List.length_cons]; omega
      · rw [u1.many, t6, List.length_cons]; omega
  induction b with
  | nil d =>
    intro m s F G h _ _ _ h1 h2 _ _
    exact ⟨s, .refl s, rfl, h, rfl, rfl, rfl, ⟨G, h1, h2⟩, rfl⟩
  | @put d e f rs' hd _ ih =>
    intro m s F G h hr hm hn h1 h2 hc hp
    have fl3 := hc
    rw [List.length_append] at fl3
    refine key (G := G) h hr hm hn hc hp (fun f' z => ?_) (fun z => nomatch z) ⟨G ++ [f], by show s.fl ++ [f] = _; rw [h1, List.append_assoc], by rw [List.length_append, h2]; rfl⟩ ih
    rw [fs_eq, h1, List.length_append, List.length_append]
    omega
  | @take d e rs' _ ih =>
    intro m s F G h hr hm hn h1 h2 hc hp
    have ne : G ≠ [] := fun z => by rw [z] at h2; cases h2
    refine key (G := G) h hr hm hn hc hp (fun f' z => nomatch z) (fun _ z => ?_) ⟨G.dropLast, by show s.fl.dropLast = _; rw [h1, List.dropLast_append_of_ne_nil ne], by rw [List.length_dropLast, h2]; rfl⟩ ih
    rw [h1] at z
    exact ne (List.append_eq_nil_iff.mp z).2
  | @on d e r rs' n1 n2 _ ih =>
    intro m s F G h hr hm hn h1 h2 hc hp
    refine key (G := G) h hr hm hn hc hp (fun f' z => absurd z (n1 f')) (fun z => absurd z n2) ⟨G, ?_, h2⟩ ih
    cases r <;> first | exact h1 | (exfalso; exact n1 _ rfl) | (exfalso; exact n2 rfl)
end DR

/-! DFd: a piece called, and its rows written out in the place of the call. -/
namespace DR
open PySem PySem.Spec L2 DL DM SX
/-- a piece's rows so often, the frames put there gone behind each turn -/
noncomputable def itV : Nat → List Rc → Kv → Option Kv
  | 0, _, k => some k
  | n + 1, inner, k => (foldV k inner).bind fun k' => itV n inner { k' with fs := k.fs }
theorem leave_v {s : Rn} {r t n b : Nat} {o : Tr} {f : List Fr} {fo : List (List Fr)} : (leaveR s r t n b o f fo).v = { s.v with fs := fo.reverse.flatten ++ f } := by
  unfold leaveR
  split
  · have := fs_eq { s with out := (r, t + 1) :: o, row := b, turn := 0, fout := f :: fo, fl := [] }
    unfold Rn.v
    rw [this]
    simp
  · have := fs_eq { s with out := o, row := r + 1, turn := 0, fout := fo, fl := f }
    unfold Rn.v
    rw [this]
theorem leave_fs {s : Rn} {r t n b : Nat} {o : Tr} {f : List Fr} {fo : List (List Fr)} : (leaveR s r t n b o f fo).fs = fo.reverse.flatten ++ f := congrArg Kv.fs (leave_v (s := s) (r := r) (t := t) (n := n) (b := b) (o := o) (f := f) (fo := fo))
theorem Sz.leave {m : Nat} {s u : Rn} {r t n b : Nat} {o : Tr} {f : List Fr} {fo : List (List Fr)} (h : Sz m s) (hu : ∀ g ∈ u.fs, FrS g) (hl : u.fs.length ≤ 3) (e : u.fs = fo.reverse.flatten ++ f) : Sz m (leaveR s r t n b o f fo) := by
  have q : ∀ w : Rn, w = leaveR s r t n b o f fo → w.turn = 0 ∧ w.place = s.place ∧ w.made = s.made := fun w z => by
    rw [z]
    unfold leaveR
    split <;> exact ⟨rfl, rfl, rfl⟩
  obtain ⟨q1, q2, q3⟩ := q _ rfl
  exact ⟨q1, by rw [q2]; exact h.pl, by rw [q3]; exact h.md, by rw [leave_fs, ← e]; exact hu, by rw [leave_fs, ← e]; exact hl⟩
/-- a piece's turns, from within the first one -/
theorem Out.turns {rs inner : List Rc} {l : List Nat} {first e cr n : Nat} (P : Pc20 rs inner l first) (b : Bal 2 0 inner e) (hi : ∀ r ∈ inner, RcS r) (hc : rs[cr]? = some (.call l n)) :
    ∀ (j : Nat) {m t : Nat} {s : Rn} {o : Tr} {f : List Fr} {fo : List (List Fr)}, Sz m s → m + (j + 1) * stps inner ≤ 27 → s.many + (j + 1) * inner.length ≤ 2000 → s.row = first → s.fl = [] → s.out = (cr, t) :: o → s.fout = f :: fo → t + j + 1 = n → s.fs.length ≤ 1 →
      Out rs s (fun u => Sz (m + (j + 1) * stps inner) u ∧ u.row = cr + 1 ∧ u.out = o ∧ u.fout = fo ∧ u.fl = f ∧ u.many = s.many + (j + 1) * inner.length) (itV (j + 1) inner s.v) := by
  intro j
  induction j with
  | zero =>
    intro m t s o f fo h hm hn h1 h2 h3 h4 h5 h6
    have hB := fs_eq s
    rw [h2, List.append_nil] at hB
    have hB2 : s.fs = fo.reverse.flatten ++ f := by rw [hB, h4]; simp
    rw [Nat.zero_add, Nat.one_mul] at hm hn ⊢
    rw [Nat.one_mul]
    have o1 := Out.rows (rs := rs) b (F := []) (G := []) h hi hm hn h2 rfl (by rw [List.append_nil, ← hB]; omega) (fun i hi => by rw [h1]; exact P.at_ i hi)
    refine o1.bind fun u _ u1 => ?_
    have hr : u.row = first + inner.length := by rw [u1.row, h1]
    have he : rs[u.row]? = some .end_ := by rw [hr]; exact P.en
    have ne : ¬ AtEnd rs u := fun z => by have z := z.1; rw [u1.out, h3] at z; exact nomatch z
    have lv := Rch.leave ne he (u1.out.trans h3) (u1.fout.trans h4) hc P.lk (.refl _)
    refine ⟨_, lv, by rw [leave_v]; show _ = Kv.mk _ _ _ _ _ _; rw [show (s.v).fs = s.fs from rfl, hB2], u1.sz.leave (u := s) h.fr h.f3 hB2, ?_⟩
    have q : leaveR u cr t n first o f fo = { u with out := o, row := cr + 1, turn := 0, fout := fo, fl := f } := if_neg (by omega)
    rw [q]
    exact ⟨rfl, rfl, rfl, rfl, u1.many⟩
  | succ j ih =>
    intro m t s o f fo h hm hn h1 h2 h3 h4 h5 h6
    have hB := fs_eq s
    rw [h2, List.append_nil] at hB
    have hB2 : s.fs = fo.reverse.flatten ++ f := by rw [hB, h4]; simp
    have es : (j + 1 + 1) * stps inner = stps inner + (j + 1) * stps inner := by rw [Nat.succ_mul, Nat.add_comm]
    have el : (j + 1 + 1) * inner.length = inner.length + (j + 1) * inner.length := by rw [Nat.succ_mul, Nat.add_comm]
    rw [es] at hm
    rw [el] at hn
    have o1 := Out.rows (rs := rs) b (F := []) (G := []) h hi (by omega) (by omega) h2 rfl (by rw [List.append_nil, ← hB]; omega) (fun i hi => by rw [h1]; exact P.at_ i hi)
    refine o1.bind fun u _ u1 => ?_
    have hr : u.row = first + inner.length := by rw [u1.row, h1]
    have he : rs[u.row]? = some .end_ := by rw [hr]; exact P.en
    have ne : ¬ AtEnd rs u := fun z => by have z := z.1; rw [u1.out, h3] at z; exact nomatch z
    have lv := Rch.leave ne he (u1.out.trans h3) (u1.fout.trans h4) hc P.lk (.refl _)
    have q : leaveR u cr t n first o f fo = { u with out := (cr, t + 1) :: o, row := first, turn := 0, fout := f :: fo, fl := [] } := if_pos (by omega)
    have sz := u1.sz.leave (u := s) (r := cr) (t := t) (n := n) (b := first) (o := o) h.fr h.f3 hB2
    have vv : (leaveR u cr t n first o f fo).v = { u.v with fs := s.v.fs } := by
      rw [leave_v, show s.v.fs = s.fs from rfl, hB2]
    have ff : (leaveR u cr t n first o f fo).fs.length ≤ 1 := by rw [leave_fs, ← hB2]; exact h6
    have := ih (s := leaveR u cr t n first o f fo) (t := t + 1) (o := o) (f := f) (fo := fo) sz (by omega) (by rw [q]; show u.many + _ ≤ _; rw [u1.many]; omega) (by rw [q]) (by rw [q]) (by rw [q]) (by rw [q]) (by omega) ff
    rw [vv] at this
    refine Out.ahead lv (this.mono fun w _ ⟨w1, w2, w3, w4, w5, w6⟩ => ⟨?_, w2, w3, w4, w5, ?_⟩)
    · rw [es, ← Nat.add_assoc]; exact w1
    · rw [w6, q, el]
      show u.many + _ = _
      rw [u1.many]
      omega
/-! ### the two programs -/
theorem Bal.many {cap d : Nat} {X : List Rc} (h : Bal cap d X d) : ∀ n, Bal cap d (List.replicate n X).flatten d
  | 0 => .nil d
  | n + 1 => by
    rw [List.replicate_succ, List.flatten_cons]
    exact h.app (Bal.many h n)
end DR

/-! DFe: frames ahead of all others: what a row makes is led by them. -/
namespace DR
open PySem PySem.Spec L2 DL DM SX
theorem led_ap2 (m : Bool) (F G : List Fr) (p : Rat × Rat) : led m (F ++ G) p = led m F (led m G p) := by
  unfold led
  rw [List.foldr_append]
theorem unled_ap2 (F G : List Fr) (p : Rat × Rat) : unled (F ++ G) p = unled G (unled F p) := by
  unfold unled
  rw [List.foldl_append]
theorem led_add2 (F : List Fr) (p v : Rat × Rat) : led true F (p.1 + v.1, p.2 + v.2) = ((led true F p).1 + (led false F v).1, (led true F p).2 + (led false F v).2) := by
  have h := led_sub F (p.1 + v.1, p.2 + v.2) p
  have e : sb2 (p.1 + v.1, p.2 + v.2) p = v := by
    unfold sb2
    refine Prod.ext ?_ ?_ <;> (simp only; grind)
  rw [e] at h
  rw [← h]
  unfold sb2
  refine Prod.ext ?_ ?_ <;> (simp only; grind)
theorem led_times (l : Rat) : ∀ (F : List Fr) (v : Rat × Rat), led false F (v.1 * l, v.2 * l) = ((led false F v).1 * l, (led false F v).2 * l)
  | [], _ => rfl
  | f :: F, v => by
    show fwd false f (led false F (v.1 * l, v.2 * l)) = ((fwd false f (led false F v)).1 * l, (fwd false f (led false F v)).2 * l)
    rw [led_times l F v]
    generalize led false F v = u
    cases f with
    | shift a b => rfl
    | turn p q => exact Prod.ext (by simp only [fwd]; grind) (by simp only [fwd]; grind)
    | flip => exact Prod.ext rfl (by simp only [fwd]; grind)
/-- turned by a heading -/
def rotV (p q : Int) (v : Rat × Rat) : Rat × Rat := (v.1 * hdc p q - v.2 * hds p q, v.1 * hds p q + v.2 * hdc p q)
theorem fwd_rot (f : Fr) (p q : Int) (v : Rat × Rat) : fwd false f (rotV p q v) = rotV (if isFl f then 0 - p else p) q (fwd false f v) := by
  unfold rotV
  cases f with
  | shift a b => rfl
  | turn s t =>
    show _ = (_ : Rat × Rat)
    simp only [fwd, isFl, Bool.false_eq_true, if_false]
    exact Prod.ext (by simp only; grind) (by simp only; grind)
  | flip =>
    simp only [fwd, isFl, if_true, hdc_neg, hds_neg]
    exact Prod.ext (by simp only; grind) (by simp only; grind)
theorem abB_cons (f : Fr) (F : List Fr) : abB (f :: F) = (isFl f != abB F) := by
  unfold abB nfl
  rw [List.filter_cons]
  cases isFl f with
  | false => simp
  | true =>
    simp only [if_true, List.length_cons]
    generalize (F.filter isFl).length = n
    rw [Int.fmod_eq_emod_of_nonneg _ (by decide), Int.fmod_eq_emod_of_nonneg _ (by decide)]
    rcases Nat.mod_two_eq_zero_or_one n with z | z
    · have a : ((n + 1 : Nat) : Int) % 2 = 1 := by omega
      have b : (n : Int) % 2 = 0 := by omega
      rw [a, b]
      rfl
    · have a : ((n + 1 : Nat) : Int) % 2 = 0 := by omega
      have b : (n : Int) % 2 = 1 := by omega
      rw [a, b]
      rfl
theorem abB_ap2 : ∀ F G : List Fr, abB (F ++ G) = (abB F != abB G)
  | [], G => by
    show abB G = (abB [] != abB G)
    rw [show abB [] = false from rfl]
    cases abB G <;> rfl
  | f :: F, G => by
    show abB (f :: (F ++ G)) = _
    rw [abB_cons, abB_cons, abB_ap2 F G]
    cases isFl f <;> cases abB F <;> cases abB G <;> rfl
theorem led_rot (q : Int) : ∀ (F : List Fr) (p : Int) (v : Rat × Rat), led false F (rotV p q v) = rotV (if abB F then 0 - p else p) q (led false F v)
  | [], _, _ => rfl
  | f :: F, p, v => by
    show fwd false f (led false F (rotV p q v)) = rotV _ q (fwd false f (led false F v))
    rw [led_rot q F p v, fwd_rot, abB_cons]
    cases isFl f <;> cases abB F
    · rfl
    · rfl
    · rfl
    · show rotV (0 - (0 - p)) q _ = rotV p q _
      rw [show 0 - (0 - p) = p by omega]
/-- a step led -/
def inFs (F : List Fr) : Stp → Stp
  | .hop b f => .hop (led true F b) (led true F f)
  | .line b f => .line (led true F b) (led true F f)
  | .arc b f c w => .arc (led true F b) (led true F f) (led true F c) (if abB F then -w else w)
def inFv (F : List Fr) (v : Stp × Int × Rat) : Stp × Int × Rat := (inFs F v.1, v.2.1, if abB F then -v.2.2 else v.2.2)
def inFk (F : List Fr) (k : Kv) : Kv := ⟨led true F k.place, k.by_, k.pace, k.side, F ++ k.fs, k.es.map (inFv F)⟩
theorem fin_ledS (F : List Fr) (st : Stp) : (inFs F st).fin = led true F st.fin := by cases st <;> rfl
theorem neg_neg_rat (u : Rat) : - -u = u := by grind
theorem spot_ledK {F : List Fr} (hF : ∀ f ∈ F, FrOk f) (k : Kv) (x y : Option Rat) : spotV (inFk F k) x y = led true F (spotV k x y) := by
  unfold spotV inFk
  cases k.by_ with
  | true =>
    simp only [if_true]
    rw [led_ap2, led_add2]
  | false =>
    simp only [Bool.false_eq_true, if_false]
    rw [led_ap2, unled_ap2, unled_led _ _ hF]
theorem run_ledK (F : List Fr) (k : Kv) (p q : Int) (l : Rat) : runV (inFk F k) p q l = led true F (runV k p q l) := by
  unfold runV inFk
  simp only
  rw [led_ap2]
  have := led_times l F (led false k.fs (hdc p q, hds p q))
  have e := led_add2 F k.place ((led false k.fs (hdc p q, hds p q)).1 * l, (led false k.fs (hdc p q, hds p q)).2 * l)
  rw [e, this]
theorem arc_ledK (F : List Fr) (k : Kv) (c : Rat × Rat) (w p q : Int) : arcV (inFk F k) (led true F c) (if abB F then -w else w) p q = led true F (arcV k c w p q) := by
  have e := led_add2 F c (rotV (w * p) q (sb2 k.place c))
  have r := led_rot q F (w * p) (sb2 k.place c)
  have s := led_sub F k.place c
  have e1 : arcV k c w p q = (c.1 + (rotV (w * p) q (sb2 k.place c)).1, c.2 + (rotV (w * p) q (sb2 k.place c)).2) := rfl
  rw [e1, e, r, ← s]
  have hp : (if abB F then -w else w) * p = if abB F then 0 - w * p else w * p := by
    cases abB F with
    | true => show -w * p = 0 - w * p; rw [Int.neg_mul, Int.zero_sub]
    | false => rfl
  unfold arcV
  rw [hp]
  rfl
theorem arcW_ledK (F : List Fr) (left : Bool) (G : List Fr) : arcW left (F ++ G) = if abB F then -arcW left G else arcW left G := by
  unfold arcW
  rw [abB_ap2]
  cases left <;> cases abB F <;> cases abB G <;> rfl
theorem far_led2 {F : List Fr} (hF : ∀ f ∈ F, FrOk f) (p q : Rat × Rat) : farP (led true F p) (led true F q) = farP p q := by
  unfold farP
  rw [led_sub, led_dt hF]
end DR

/-! DFf: a program, and the same with frames ahead of all: both run side by side. -/
namespace DR
open PySem PySem.Spec L2 DL DM SX
/-- the outermost level's frames behind others -/
def baseF (F : List Fr) : List (List Fr) → List (List Fr)
  | [] => []
  | [x] => [F ++ x]
  | x :: y :: r => x :: baseF F (y :: r)
def baseL (F : List Fr) (fo : List (List Fr)) (fl : List Fr) : List Fr := if fo = [] then F ++ fl else fl
def upT (n : Nat) (t : Nat × Nat) : Nat × Nat := (t.1 + n, t.2)
def upE (F : List Fr) (e : Ey) : Ey := ⟨inFs F e.st, e.pace, if abB F then -e.side else e.side, e.trail.map (upT F.length)⟩
/-- the runner where the frames stand ahead, by the one where they don't -/
def upR (F : List Fr) (s : Rn) : Rn :=
  ⟨s.out.map (upT F.length), s.row + F.length, s.turn, led true F s.place, s.by_, s.pace, s.side, baseF F s.fout, baseL F s.fout s.fl, s.many + F.length, s.made.map (upE F)⟩
theorem base_flat (F : List Fr) : ∀ (fo : List (List Fr)) (fl : List Fr), (baseF F fo).reverse.flatten ++ baseL F fo fl = F ++ (fo.reverse.flatten ++ fl)
  | [], fl => rfl
  | [x], fl => by
    show [F ++ x].reverse.flatten ++ fl = F ++ ([x].reverse.flatten ++ fl)
    simp
  | x :: y :: r, fl => by
    have ih := base_flat F (y :: r) (x ++ fl)
    rw [show baseL F (y :: r) (x ++ fl) = x ++ fl from rfl] at ih
    show (x :: baseF F (y :: r)).reverse.flatten ++ fl = F ++ ((x :: y :: r).reverse.flatten ++ fl)
    simp only [List.reverse_cons (a := x), List.flatten_append, List.flatten_singleton, List.append_assoc]
    exact ih
theorem up_fs (F : List Fr) (s : Rn) : (upR F s).fs = F ++ s.fs := by
  rw [fs_eq, fs_eq s]
  exact base_flat F s.fout s.fl
theorem up_v (F : List Fr) (s : Rn) : (upR F s).v = inFk F s.v := by
  unfold Rn.v inFk
  rw [up_fs]
  show Kv.mk _ _ _ _ _ ((s.made.map (upE F)).map Ey.v) = Kv.mk _ _ _ _ _ ((s.made.map Ey.v).map (inFv F))
  rw [List.map_map, List.map_map]
  rfl
theorem up_trail (F : List Fr) (s : Rn) : (upR F s).trail = s.trail.map (upT F.length) := by
  unfold Rn.trail upR
  simp only [List.map_append, List.map_reverse]
  rfl
theorem up_mk (F : List Fr) (s : Rn) (st : Stp) : mkR (upR F s) (inFs F st) = upR F (mkR s st) := by
  have h1 := up_fs F s
  have h2 := up_trail F s
  have e : (if abB (upR F s).fs then -(upR F s).side else (upR F s).side) = if abB F then -(if abB s.fs then -s.side else s.side) else (if abB s.fs then -s.side else s.side) := by
    rw [h1, abB_ap2]
    show (if (abB F != abB s.fs) = true then -s.side else s.side) = _
    cases abB F <;> cases abB s.fs <;> simp [neg_neg_rat]
  unfold mkR
  rw [e, h2]
  show Rn.mk _ _ _ _ _ _ _ _ _ _ _ = Rn.mk _ _ _ _ _ _ _ _ _ _ _
  rw [fin_ledS]
  simp only [upR, List.map_append, List.map_cons, List.map_nil, upE]
/-- a row's deed behind the frames -/
theorem up_deed {F : List Fr} (hF : ∀ f ∈ F, FrOk f) (rs rs' : List Rc) {s : Rn} {r : Rc} (hc : r.isCall = false) (hf : ∀ f, r = .frame f → s.fs.length + F.length < 8) (hb : r = .back → s.fl ≠ []) :
    (∀ t, deedR rs s r = .ok t → deedR rs' (upR F s) r = .ok (upR F t)) ∧ (deedR rs s r = .error (.uneven s.row) → (∀ t, deedR rs s r ≠ .ok t) → deedR rs' (upR F s) r = .error (.uneven (s.row + F.length))) := by
  have sp : ∀ x y, spotR (upR F s) x y = led true F (spotR s x y) := fun x y => by
    have := spot_ledK hF s.v x y
    rw [← up_v] at this
    exact this
  have pl : (upR F s).place = led true F s.place := rfl
  have fs := up_fs F s
  cases r with
  | hop x y =>
    refine ⟨fun t e => ?_, fun e _ => nomatch e⟩
    cases e
    show Except.ok (mkR (upR F s) (.hop (led true F s.place) (spotR (upR F s) x y))) = _
    rw [sp, ← up_mk]
    rfl
  | cut x y =>
    have q : deedR rs' (upR F s) (.cut x y) = if farP s.place (spotR s x y) then .ok (upR F (mkR s (.line s.place (spotR s x y)))) else .error (.uneven (s.row + F.length)) := by
      show (if farP (led true F s.place) (spotR (upR F s) x y) then Except.ok (mkR (upR F s) (.line (led true F s.place) (spotR (upR F s) x y))) else .error (Xr.uneven (s.row + F.length))) = _
      rw [sp, far_led2 hF, ← up_mk]
      rfl
    rw [q]
    show (∀ t, (if farP s.place (spotR s x y) then Except.ok (mkR s (.line s.place (spotR s x y))) else .error (Xr.uneven s.row)) = .ok t → _) ∧ ((if farP s.place (spotR s x y) then Except.ok (mkR s (.line s.place (spotR s x y))) else .error (Xr.uneven s.row)) = .error (.uneven s.row) → _ → _)
    split
    · exact ⟨fun t e => by cases e; rfl, fun e => nomatch e⟩
    · exact ⟨fun t e => (nomatch e), fun _ _ => rfl⟩
  | run p q l =>
    refine ⟨fun t e => ?_, fun e _ => nomatch e⟩
    cases e
    have ru : runE (upR F s) p q l = led true F (runE s p q l) := by
      have := run_ledK F s.v p q l
      rw [← up_v] at this
      exact this
    show Except.ok (mkR (upR F s) (.line (led true F s.place) (runE (upR F s) p q l))) = _
    rw [ru, ← up_mk]
    rfl
  | arc left x y p q =>
    have ar : arcE (upR F s) (led true F (spotR s x y)) (arcW left (upR F s).fs) p q = led true F (arcE s (spotR s x y) (arcW left s.fs) p q) := by
      have := arc_ledK F s.v (spotR s x y) (arcW left s.fs) p q
      rw [← up_v] at this
      rw [fs, arcW_ledK]
      exact this
    have qa : deedR rs' (upR F s) (.arc left x y p q) = if farP (spotR s x y) s.place then .ok (upR F (mkR s (.arc s.place (arcE s (spotR s x y) (arcW left s.fs) p q) (spotR s x y) (arcW left s.fs)))) else .error (.uneven (s.row + F.length)) := by
      show (if farP (spotR (upR F s) x y) (led true F s.place) then Except.ok (mkR (upR F s) (.arc (led true F s.place) (arcE (upR F s) (spotR (upR F s) x y) (arcW left (upR F s).fs) p q) (spotR (upR F s) x y) (arcW left (upR F s).fs))) else .error (Xr.uneven (s.row + F.length))) = _
      rw [sp, far_led2 hF, ar, ← up_mk, fs, arcW_ledK]
      rfl
    rw [qa]
    show (∀ t, (if farP (spotR s x y) s.place then Except.ok (mkR s (.arc s.place (arcE s (spotR s x y) (arcW left s.fs) p q) (spotR s x y) (arcW left s.fs))) else .error (Xr.uneven s.row)) = .ok t → _) ∧ ((if farP (spotR s x y) s.place then Except.ok (mkR s (.arc s.place (arcE s (spotR s x y) (arcW left s.fs) p q) (spotR s x y) (arcW left s.fs))) else .error (Xr.uneven s.row)) = .error (.uneven s.row) → _ → _)
    split
    · exact ⟨fun t e => by cases e; rfl, fun e => nomatch e⟩
    · exact ⟨fun t e => (nomatch e), fun _ _ => rfl⟩
  | mode b => exact ⟨fun t e => by cases e; rfl, fun e => nomatch e⟩
  | pace g => exact ⟨fun t e => by cases e; rfl, fun e => nomatch e⟩
  | side u => exact ⟨fun t e => by cases e; rfl, fun e => nomatch e⟩
  | frame f =>
    have h := hf f rfl
    have a : deedR rs s (.frame f) = .ok { s with fl := s.fl ++ [f] } := if_neg (by omega)
    rw [a]
    refine ⟨fun t e => ?_, fun e => nomatch e⟩
    cases e
    have b : deedR rs' (upR F s) (.frame f) = .ok { upR F s with fl := (upR F s).fl ++ [f] } := if_neg (by rw [fs, List.length_append]; omega)
    have c : (upR F s).fl ++ [f] = baseL F s.fout (s.fl ++ [f]) := by
      show baseL F s.fout s.fl ++ [f] = _
      unfold baseL
      split
      · rw [List.append_assoc]
      · rfl
    rw [b, c]
    rfl
  | back =>
    have h := hb rfl
    have a : deedR rs s .back = .ok { s with fl := s.fl.dropLast } := if_neg h
    rw [a]
    refine ⟨fun t e => ?_, fun e => nomatch e⟩
    cases e
    have ne : (upR F s).fl ≠ [] := fun z => by
      have z : baseL F s.fout s.fl = [] := z
      unfold baseL at z
      split at z
      · exact h (List.append_eq_nil_iff.mp z).2
      · exact h z
    have b : deedR rs' (upR F s) .back = .ok { upR F s with fl := (upR F s).fl.dropLast } := if_neg ne
    have c : (upR F s).fl.dropLast = baseL F s.fout s.fl.dropLast := by
      show (baseL F s.fout s.fl).dropLast = _
      unfold baseL
      split
      · rw [List.dropLast_append_of_ne_nil h]
      · rfl
    rw [b, c]
    rfl
  | piece l => exact ⟨fun t e => by cases e; rfl, fun e => nomatch e⟩
  | end_ => exact ⟨fun t e => by cases e; rfl, fun e => nomatch e⟩
  | call l n => cases hc
end DR

/-! DFj: places over the frames' own bottoms. -/
namespace DR
open PySem PySem.Spec L2 DL DM SX
/-- a heading over a bottom -/
def OverD (d : Nat) (c s : Rat) : Prop := ∃ a b : Int, c = Rat.divInt a d ∧ s = Rat.divInt b d ∧ a.natAbs ≤ d ∧ b.natAbs ≤ d
theorem OverD.neg {d : Nat} {c s : Rat} (h : OverD d c s) : OverD d c (-s) := by
  obtain ⟨a, b, rfl, rfl, h1, h2⟩ := h
  exact ⟨a, -b, rfl, by rw [dI_neg], h1, by omega⟩
/-- the bottom of a heading to 3 -/
def dnH (p q : Int) : Nat := if (p.natAbs = 2 ∧ q.natAbs = 3) ∨ (p.natAbs = 3 ∧ q.natAbs = 2) then 13 else 5
theorem over3 {p q : Int} (h0 : p ≠ 0 ∨ q ≠ 0) (hp : p.natAbs ≤ 3) (hq : q.natAbs ≤ 3) : OverD (dnH p q) (hdc p q) (hds p q) := by
  rcases (show p = -3 ∨ p = -2 ∨ p = -1 ∨ p = 0 ∨ p = 1 ∨ p = 2 ∨ p = 3 by omega) with rfl | rfl | rfl | rfl | rfl | rfl | rfl <;>
  rcases (show q = -3 ∨ q = -2 ∨ q = -1 ∨ q = 0 ∨ q = 1 ∨ q = 2 ∨ q = 3 by omega) with rfl | rfl | rfl | rfl | rfl | rfl | rfl <;>
  first
  | (exfalso; omega)
  | exact ⟨-5, 0, by decide +kernel, by decide +kernel, by decide, by decide⟩
  | exact ⟨5, 0, by decide +kernel, by decide +kernel, by decide, by decide⟩
  | exact ⟨0, 5, by decide +kernel, by decide +kernel, by decide, by decide⟩
  | exact ⟨0, -5, by decide +kernel, by decide +kernel, by decide, by decide⟩
  | exact ⟨3, 4, by decide +kernel, by decide +kernel, by decide, by decide⟩
  | exact ⟨3, -4, by decide +kernel, by decide +kernel, by decide, by decide⟩
  | exact ⟨-3, 4, by decide +kernel, by decide +kernel, by decide, by decide⟩
  | exact ⟨-3, -4, by decide +kernel, by decide +kernel, by decide, by decide⟩
  | exact ⟨4, 3, by decide +kernel, by decide +kernel, by decide, by decide⟩
  | exact ⟨4, -3, by decide +kernel, by decide +kernel, by decide, by decide⟩
  | exact ⟨-4, 3, by decide +kernel, by decide +kernel, by decide, by decide⟩
  | exact ⟨-4, -3, by decide +kernel, by decide +kernel, by decide, by decide⟩
  | exact ⟨5, 12, by decide +kernel, by decide +kernel, by decide, by decide⟩
  | exact ⟨5, -12, by decide +kernel, by decide +kernel, by decide, by decide⟩
  | exact ⟨-5, 12, by decide +kernel, by decide +kernel, by decide, by decide⟩
  | exact ⟨-5, -12, by decide +kernel, by decide +kernel, by decide, by decide⟩
theorem dnH_le (p q : Int) : 0 < dnH p q ∧ dnH p q ≤ 13 := by unfold dnH; split <;> decide
theorem InD.rotD {D M d : Nat} {p : Rat × Rat} {c s : Rat} (hD : 0 < D) (hd : 0 < d) (h : InD D M p) (hc : OverD d c s) : InD (D * d) (2 * d * M) (p.1 * c - p.2 * s, p.1 * s + p.2 * c) := by
  obtain ⟨a, b, h1, h2, h3, h4⟩ := h
  obtain ⟨x, y, rfl, rfl, k1, k2⟩ := hc
  have hd' := cast_ne hD
  have h5 := cast_ne hd
  have e1 : ∀ u v u' v' : Int, Rat.divInt u D * Rat.divInt v d - Rat.divInt u' D * Rat.divInt v' d = Rat.divInt (u * v - u' * v') ((D * d : Nat) : Int) := fun u v u' v' => by
    rw [Rat.divInt_eq_div, Rat.divInt_eq_div, Rat.divInt_eq_div, Rat.divInt_eq_div, Rat.divInt_eq_div, Int.natCast_mul, Rat.intCast_sub, Rat.intCast_mul, Rat.intCast_mul, Rat.intCast_mul]
    generalize ((D : Int) : Rat) = e at *
    generalize ((d : Int) : Rat) = f at *
    grind
  have e2 : ∀ u v u' v' : Int, Rat.divInt u D * Rat.divInt v d + Rat.divInt u' D * Rat.divInt v' d = Rat.divInt (u * v + u' * v') ((D * d : Nat) : Int) := fun u v u' v' => by
    rw [Rat.divInt_eq_div, Rat.divInt_eq_div, Rat.divInt_eq_div, Rat.divInt_eq_div, Rat.divInt_eq_div, Int.natCast_mul, Rat.intCast_add, Rat.intCast_mul, Rat.intCast_mul, Rat.intCast_mul]
    generalize ((D : Int) : Rat) = e at *
    generalize ((d : Int) : Rat) = f at *
    grind
  have m : ∀ u v : Int, u.natAbs ≤ M → v.natAbs ≤ d → (u * v).natAbs ≤ d * M := fun u v hu hv => by
    rw [Int.natAbs_mul, Nat.mul_comm]
    exact Nat.mul_le_mul hv hu
  have m1 := m a x h3 k1
  have m2 := m b y h4 k2
  have m3 := m a y h3 k2
  have m4 := m b x h4 k1
  have e3 : 2 * d * M = d * M + d * M := by rw [Nat.mul_assoc, Nat.two_mul]
  refine ⟨a * x - b * y, a * y + b * x, ?_, ?_, by omega, by omega⟩
  · show p.1 * _ - p.2 * _ = _
    rw [h1, h2, e1]
  · show p.1 * _ + p.2 * _ = _
    rw [h1, h2, e2]
/-- a place over a bottom, its tops within so many bits -/
structure PwD (D n : Nat) (p : Rat × Rat) : Prop where
  ind : InD D (2 ^ n) p
  pos : 0 < D
  gap : 9 * D ≤ 2 ^ n
theorem PwD.mono {D n m : Nat} {p : Rat × Rat} (h : PwD D n p) (e : n ≤ m) : PwD D m p := ⟨h.ind.mono (two_mono e), h.pos, Nat.le_trans h.gap (two_mono e)⟩
theorem PwD.up {D n : Nat} {p : Rat × Rat} (h : PwD D n p) {e j : Nat} (he : 0 < e) (hj : e ≤ 2 ^ j) : PwD (D * e) (n + j) p := by
  refine ⟨(h.ind.scale he h.pos).mono ?_, Nat.mul_pos h.pos he, ?_⟩
  · rw [Nat.pow_add]
    exact Nat.mul_le_mul_left _ hj
  · rw [Nat.pow_add, ← Nat.mul_assoc]
    exact Nat.mul_le_mul h.gap hj
theorem PwD.add {D n : Nat} {p q : Rat × Rat} (h : PwD D n p) (g : PwD D n q) : PwD D (n + 1) (p.1 + q.1, p.2 + q.2) :=
  ⟨(h.ind.add h.pos g.ind).mono (by rw [Nat.pow_succ]; omega), h.pos, by rw [Nat.pow_succ]; have := h.gap; omega⟩
theorem PwD.sub {D n : Nat} {p q : Rat × Rat} (h : PwD D n p) (g : PwD D n q) : PwD D (n + 1) (p.1 - q.1, p.2 - q.2) :=
  ⟨(h.ind.sub h.pos g.ind).mono (by rw [Nat.pow_succ]; omega), h.pos, by rw [Nat.pow_succ]; have := h.gap; omega⟩
theorem PwD.flip {D n : Nat} {p : Rat × Rat} (h : PwD D n p) : PwD D n (p.1, -p.2) := ⟨h.ind.flip, h.pos, h.gap⟩
theorem PwD.rot {D n d : Nat} {p : Rat × Rat} {c s : Rat} (h : PwD D n p) (hd : 0 < d ∧ d ≤ 13) (hc : OverD d c s) : PwD (D * d) (n + 5) (p.1 * c - p.2 * s, p.1 * s + p.2 * c) := by
  have a : 2 * d * 2 ^ n ≤ 32 * 2 ^ n := Nat.mul_le_mul_right _ (by omega)
  have b : 9 * D * d ≤ 2 ^ n * 32 := Nat.mul_le_mul h.gap (by omega)
  exact ⟨(h.ind.rotD h.pos hd.1 hc).mono (by rw [Nat.pow_add]; omega), Nat.mul_pos h.pos hd.1, by rw [Nat.pow_add, ← Nat.mul_assoc]; exact b⟩
theorem PwD.times {D n : Nat} {p : Rat × Rat} {l : Rat} (h : PwD D n p) (hl : Sm9 l) : PwD D (n + 4) (p.1 * l, p.2 * l) :=
  ⟨(h.ind.times hl).mono (by rw [Nat.pow_add]; omega), h.pos, by rw [Nat.pow_add]; have := h.gap; omega⟩
theorem PwD.pick {D n : Nat} {p : Rat × Rat} {x y : Option Rat} (h : PwD D n p) (hx : Sm9o x) (hy : Sm9o y) : PwD D n (x.getD p.1, y.getD p.2) := ⟨h.ind.pick h.pos h.gap hx hy, h.pos, h.gap⟩
theorem PwD.zero : PwD 1 4 (0, 0) := ⟨⟨0, 0, by rw [Rat.zero_divInt], by rw [Rat.zero_divInt], by decide, by decide⟩, by decide, by decide⟩
theorem PwD.ints {x y : Option Rat} (hx : Sm9o x) (hy : Sm9o y) : PwD 1 4 (x.getD 0, y.getD 0) := PwD.zero.pick hx hy
theorem PwD.bc {D n : Nat} {p : Rat × Rat} (h : PwD D n p) : Bc (n + 1) p := by
  have a := h.gap
  have c := Nat.pow_pos (n := n) (show 0 < 2 by decide)
  exact h.ind.bc h.pos (by rw [Nat.pow_succ]; omega) (by rw [Nat.pow_succ]; omega)
/-- small frames, turns to 3 -/
def FrS3 : Fr → Prop
  | .shift a b => Sm9 a ∧ Sm9 b
  | .turn p q => (p ≠ 0 ∨ q ≠ 0) ∧ p.natAbs ≤ 3 ∧ q.natAbs ≤ 3
  | .flip => True
theorem FrS3.ok {f : Fr} (h : FrS3 f) : FrOk f := by
  cases f with
  | shift a b => exact ⟨h.1.bd, h.2.bd⟩
  | turn p q =>
    obtain ⟨h0, h1, h2⟩ := h
    exact ⟨h0, by omega, by omega⟩
  | flip => trivial
theorem FrS3.w {f : Fr} (h : FrS3 f) : RcW (.frame f) := by
  cases f with
  | shift a b => exact ⟨h.1.num, h.2.num⟩
  | turn p q =>
    obtain ⟨h0, h1, h2⟩ := h
    exact ⟨by omega, by omega, by omega⟩
  | flip => trivial
def dF : Fr → Nat
  | .turn p q => dnH p q
  | _ => 1
theorem dF_le (f : Fr) : 0 < dF f ∧ dF f ≤ 13 := by
  cases f with
  | turn p q => exact dnH_le p q
  | shift a b => exact ⟨Nat.one_pos, show 1 ≤ 13 by decide⟩
  | flip => exact ⟨Nat.one_pos, show 1 ≤ 13 by decide⟩
def pd : List Fr → Nat
  | [] => 1
  | f :: fs => pd fs * dF f
theorem PwD.shift {D n : Nat} {p : Rat × Rat} {a b : Rat} (h : PwD D n p) (ha : Sm9 a) (hb : Sm9 b) : PwD D (n + 1) (p.1 + a, p.2 + b) ∧ PwD D (n + 1) (p.1 - a, p.2 - b) := by
  have g : PwD D n ((some a).getD p.1, (some b).getD p.2) := h.pick (fun u e => by cases e; exact ha) (fun u e => by cases e; exact hb)
  exact ⟨h.add g, h.sub g⟩
theorem PwD.fwd {D n : Nat} {p : Rat × Rat} {f : Fr} (m : Bool) (h : PwD D n p) (hf : FrS3 f) : PwD (D * dF f) (n + 5) (DL.fwd m f p) := by
  cases f with
  | shift a b =>
    show PwD (D * 1) _ _
    rw [Nat.mul_one]
    cases m with
    | false => exact h.mono (by omega)
    | true => exact (h.shift hf.1 hf.2).1.mono (by omega)
  | turn p q => exact h.rot (dnH_le p q) (over3 hf.1 hf.2.1 hf.2.2)
  | flip =>
    show PwD (D * 1) _ _
    rw [Nat.mul_one]
    exact h.flip.mono (by omega)
theorem PwD.bwd {D n : Nat} {p : Rat × Rat} {f : Fr} (h : PwD D n p) (hf : FrS3 f) : PwD (D * dF f) (n + 5) (DL.bwd f p) := by
  cases f with
  | shift a b =>
    show PwD (D * 1) _ _
    rw [Nat.mul_one]
    exact (h.shift hf.1 hf.2).2.mono (by omega)
  | turn p q => exact h.rot (dnH_le p q) (over3 hf.1 hf.2.1 hf.2.2).neg
  | flip =>
    show PwD (D * 1) _ _
    rw [Nat.mul_one]
    exact h.flip.mono (by omega)
theorem PwD.led {D n : Nat} {p : Rat × Rat} (m : Bool) (h : PwD D n p) : ∀ fs : List Fr, (∀ f ∈ fs, FrS3 f) → PwD (D * pd fs) (n + 5 * fs.length) (DL.led m fs p)
  | [], _ => by
    show PwD (D * 1) _ _
    rw [Nat.mul_one]
    exact h
  | f :: fs, hf => by
    have := (h.led m fs fun g z => hf g (List.mem_cons_of_mem _ z)).fwd m (hf f List.mem_cons_self)
    rw [List.length_cons, show pd (f :: fs) = pd fs * dF f from rfl, ← Nat.mul_assoc]
    exact this.mono (by omega)
theorem PwD.unled : ∀ (fs : List Fr) {D n : Nat} {p : Rat × Rat}, PwD D n p → (∀ f ∈ fs, FrS3 f) → PwD (D * pd fs) (n + 5 * fs.length) (DL.unled fs p)
  | [], D, _, _, h, _ => by
    show PwD (D * 1) _ _
    rw [Nat.mul_one]
    exact h
  | f :: fs, D, n, p, h, hf => by
    have := PwD.unled fs (h.bwd (hf f List.mem_cons_self)) fun g z => hf g (List.mem_cons_of_mem _ z)
    rw [List.length_cons, show pd (f :: fs) = pd fs * dF f from rfl, Nat.mul_comm (pd fs), ← Nat.mul_assoc]
    exact this.mono (by omega)
theorem pd_le : ∀ fs : List Fr, 0 < pd fs ∧ pd fs ≤ 2 ^ (4 * fs.length)
  | [] => ⟨Nat.one_pos, Nat.le_refl _⟩
  | f :: fs => by
    obtain ⟨a, b⟩ := pd_le fs
    obtain ⟨c, d⟩ := dF_le f
    refine ⟨Nat.mul_pos a c, ?_⟩
    rw [List.length_cons, show 4 * (fs.length + 1) = 4 * fs.length + 4 by omega, Nat.pow_add]
    exact Nat.mul_le_mul b (by omega)
theorem PwD.as {D D' n m : Nat} {p : Rat × Rat} (h : PwD D n p) (e : D = D') (e2 : n ≤ m) : PwD D' m p := by
  subst e
  exact h.mono e2
theorem PwD.low {D n : Nat} {p : Rat × Rat} (h : PwD D n p) : 4 ≤ n ∧ D ≤ 2 ^ (n - 3) := by
  have a := h.pos
  have b := h.gap
  have c : 4 ≤ n := by
    rcases Nat.lt_or_ge n 4 with z | z
    · have : 2 ^ n ≤ 2 ^ 3 := two_mono (by omega)
      omega
    · exact z
  refine ⟨c, ?_⟩
  have d : 2 ^ n = 2 ^ (n - 3) * 8 := by
    rw [show (8 : Nat) = 2 ^ 3 from rfl, ← Nat.pow_add, show n - 3 + 3 = n by omega]
  omega
theorem PwD.spot {D n : Nat} {s : Rn} (h : PwD D n s.place) (fr : ∀ f ∈ s.fs, FrS3 f) {x y : Option Rat} (hx : Sm9o x) (hy : Sm9o y) : PwD (D * pd s.fs * pd s.fs) (n + 10 * s.fs.length + 2) (spotR s x y) := by
  obtain ⟨p0, p1⟩ := pd_le s.fs
  obtain ⟨l1, l2⟩ := h.low
  unfold spotR
  cases s.by_ with
  | true =>
    rw [if_pos rfl]
    have a : PwD (D * pd s.fs * pd s.fs) (n + 9 * s.fs.length + 1) s.place := (h.up (e := pd s.fs * pd s.fs) (j := 4 * s.fs.length + 4 * s.fs.length) (Nat.mul_pos p0 p0) (by rw [Nat.pow_add]; exact Nat.mul_le_mul p1 p1)).as (Nat.mul_assoc _ _ _).symm (by omega)
    have b : PwD (D * pd s.fs * pd s.fs) (n + 9 * s.fs.length + 1) (DL.led false s.fs (x.getD 0, y.getD 0)) := (((PwD.ints hx hy).led false s.fs fr).up (e := D * pd s.fs) (j := n - 3 + 4 * s.fs.length) (Nat.mul_pos h.pos p0) (by rw [Nat.pow_add]; exact Nat.mul_le_mul l2 p1)).as (by rw [Nat.one_mul, Nat.mul_comm]) (by omega)
    exact (a.add b).mono (by omega)
  | false =>
    rw [if_neg Bool.false_ne_true]
    exact (((PwD.unled s.fs h fr).pick hx hy).led true s.fs fr).mono (by omega)
theorem over5 {p q : Int} (h : HdS p q) : OverD 5 (hdc p q) (hds p q) := by
  obtain ⟨a, b, e1, e2, b1, b2⟩ := fifths_of h.1 h.2.1 h.2.2
  exact ⟨a, b, e1, e2, b1, b2⟩
/-- small rows, frames' turns to 3 -/
def RcS3 : Rc → Prop
  | .frame f => FrS3 f
  | r => RcS r
theorem RcS3.pl {r : Rc} (h : RcS3 r) : RcW r ∧ r.plain = true ∧ r.isCall = false ∧ r.isPiece = false ∧ r.isEnd = false := by
  cases r with
  | frame f => exact ⟨FrS3.w h, rfl, rfl, rfl, rfl⟩
  | hop x y => exact RcS.pl (r := .hop x y) h
  | cut x y => exact RcS.pl (r := .cut x y) h
  | run p q l => exact RcS.pl (r := .run p q l) h
  | arc left x y p q => exact RcS.pl (r := .arc left x y p q) h
  | mode b => exact RcS.pl (r := .mode b) h
  | pace g => exact RcS.pl (r := .pace g) h
  | side u => exact RcS.pl (r := .side u) h
  | back => exact RcS.pl (r := .back) h
  | piece l => exact RcS.pl (r := .piece l) h
  | end_ => exact RcS.pl (r := .end_) h
  | call l n => exact RcS.pl (r := .call l n) h
/-- an entry's sizes -/
def StB : Stp → Prop
  | .hop b f => Bc 900 b ∧ Bc 900 f
  | .line b f => Bc 900 b ∧ Bc 900 f
  | .arc b f c w => Bc 900 b ∧ Bc 900 f ∧ Bc 900 c ∧ (w = 1 ∨ w = -1)
structure EyB (e : Ey) : Prop where
  st : StB e.st
  sd : Bd 20 e.side
  tr : e.trail.length ≤ 9
/-- a runner's sizes behind so many steps, never more than f frames -/
structure Sz3 (f m : Nat) (s : Rn) : Prop where
  tn : s.turn = 0
  pl : ∃ D, PwD D ((10 * f + 9) * m + 4) s.place
  md : s.made.length ≤ m
  fr : ∀ g ∈ s.fs, FrS3 g
  ff : s.fs.length ≤ f
  es : ∀ e ∈ s.made, EyB e
  sd : Sm9 s.side
  od : s.out.length ≤ 8
theorem Sm9.neg {u : Rat} (h : Sm9 u) : Sm9 (-u) := by
  obtain ⟨i, rfl, h⟩ := h
  exact ⟨-i, (Rat.intCast_neg i).symm, by omega⟩
/-- what a row makes is small -/
theorem Sz3.more {f m : Nat} {s : Rn} (h : Sz3 f m s) {st : Stp} (k : StB st) : ∀ e ∈ (mkR s st).made, EyB e := fun e me => by
  have me : e ∈ s.made ++ [⟨st, s.pace, if abB s.fs then -s.side else s.side, s.trail⟩] := me
  rcases List.mem_append.mp me with z | z
  · exact h.es e z
  · rw [List.mem_singleton.mp z]
    refine ⟨k, ?_, ?_⟩
    · have : Sm9 (if abB s.fs then -s.side else s.side) := by
        split
        · exact h.sd.neg
        · exact h.sd
      exact this.bd.mono (by decide)
    · have := h.od
      show (s.out.reverse ++ [(s.row, s.turn)]).length ≤ 9
      rw [List.length_append, List.length_reverse]
      show s.out.length + 1 ≤ 9
      omega
theorem Sz3.spot {f m : Nat} {s : Rn} (h : Sz3 f m s) {x y : Option Rat} (hx : Sm9o x) (hy : Sm9o y) : Bc ((10 * f + 9) * m + 10 * f + 7) (spotR s x y) := by
  obtain ⟨D, pl⟩ := h.pl
  have ff := h.ff
  exact (pl.spot h.fr hx hy).bc.mono (by omega)
theorem Sz3.bc {f m : Nat} {s : Rn} (h : Sz3 f m s) : Bc ((10 * f + 9) * m + 5) s.place := by
  obtain ⟨D, pl⟩ := h.pl
  exact pl.bc
theorem Sz3.arc {f m : Nat} {s : Rn} (h : Sz3 f m s) {x y : Option Rat} (hx : Sm9o x) (hy : Sm9o y) {w p q : Int} (hh : HdS p q) (hw : w = 1 ∨ w = -1) : ∃ D, PwD D ((10 * f + 9) * (m + 1) + 4) (arcE s (spotR s x y) w p q) := by
  obtain ⟨D, pl⟩ := h.pl
  have ff := h.ff
  obtain ⟨p0, p1⟩ := pd_le s.fs
  have em : (10 * f + 9) * (m + 1) = (10 * f + 9) * m + (10 * f + 9) := Nat.mul_succ _ _
  rw [em]
  obtain ⟨n, hn⟩ : ∃ n, n = (10 * f + 9) * m + 4 := ⟨_, rfl⟩
  rw [← hn] at pl
  have c := pl.spot h.fr hx hy
  have a : PwD (D * pd s.fs * pd s.fs) (n + 10 * s.fs.length + 2) s.place := (pl.up (e := pd s.fs * pd s.fs) (j := 4 * s.fs.length + 4 * s.fs.length) (Nat.mul_pos p0 p0) (by rw [Nat.pow_add]; exact Nat.mul_le_mul p1 p1)).as (Nat.mul_assoc _ _ _).symm (by omega)
  have g : OverD 5 (hdc (w * p) q) (hds (w * p) q) := by
    obtain ⟨h0, h1, h2⟩ := hh
    rcases hw with rfl | rfl
    · exact over5 ⟨by omega, by omega, h2⟩
    · exact over5 ⟨by omega, by omega, h2⟩
  have b := (a.sub c).rot (by decide) g
  have c' := (c.up (e := 5) (j := 3) (by decide) (by decide)).mono (m := n + 10 * s.fs.length + 2 + 1 + 5) (by omega)
  exact ⟨_, (c'.add b).mono (by omega)⟩
theorem Sz3.run {f m : Nat} {s : Rn} (h : Sz3 f m s) {p q : Int} {l : Rat} (hh : HdS p q) (hl : Sm9 l) : ∃ D, PwD D ((10 * f + 9) * (m + 1) + 4) (runE s p q l) := by
  obtain ⟨D, pl⟩ := h.pl
  have ff := h.ff
  obtain ⟨p0, p1⟩ := pd_le s.fs
  have em : (10 * f + 9) * (m + 1) = (10 * f + 9) * m + (10 * f + 9) := Nat.mul_succ _ _
  rw [em]
  obtain ⟨n, hn⟩ : ∃ n, n = (10 * f + 9) * m + 4 := ⟨_, rfl⟩
  rw [← hn] at pl
  obtain ⟨l1, l2⟩ := pl.low
  obtain ⟨a, b, e1, e2, b1, b2⟩ := over5 hh
  have i : PwD 5 6 (hdc p q, hds p q) := ⟨⟨a, b, e1, e2, by omega, by omega⟩, by decide, by decide⟩
  have c := (((i.led false s.fs h.fr).times hl).up (e := D) (j := n - 3) pl.pos l2).as (D' := D * (5 * pd s.fs)) (m := n + 5 * s.fs.length + 7) (Nat.mul_comm _ _) (by omega)
  have d := (pl.up (e := 5 * pd s.fs) (j := 3 + 4 * s.fs.length) (Nat.mul_pos (by decide) p0) (by rw [Nat.pow_add]; exact Nat.mul_le_mul (by decide) p1)).mono (m := n + 5 * s.fs.length + 7) (by omega)
  exact ⟨_, (d.add c).mono (by omega)⟩
theorem Sz3.hop {f m : Nat} {s : Rn} (h : Sz3 f m s) {x y : Option Rat} (hx : Sm9o x) (hy : Sm9o y) : ∃ D, PwD D ((10 * f + 9) * (m + 1) + 4) (spotR s x y) := by
  obtain ⟨D, pl⟩ := h.pl
  have ff := h.ff
  have em : (10 * f + 9) * (m + 1) = (10 * f + 9) * m + (10 * f + 9) := Nat.mul_succ _ _
  rw [em]
  exact ⟨_, (pl.spot h.fr hx hy).mono (by omega)⟩
/-- the sizes that a row asks, and those behind it -/
theorem Sz3.fit {f m : Nat} {s : Rn} {r : Rc} (h : Sz3 f m s) (hr : RcS3 r) (f3 : f ≤ 3) (hm : (10 * f + 9) * (m + stp r) ≤ 830) : Fit s r ∧ ∀ rs t, deedR rs s r = .ok t → ∃ D, PwD D ((10 * f + 9) * (m + stp r) + 4) t.place := by
  have ff := h.ff
  have em : (10 * f + 9) * (m + 1) = (10 * f + 9) * m + (10 * f + 9) := Nat.mul_succ _ _
  have le : (10 * f + 9) * m ≤ 830 := Nat.le_trans (Nat.mul_le_mul_left _ (Nat.le_add_right _ _)) hm
  have so : SpotOk s := ⟨_, show (10 * f + 9) * m + 5 + 58 * s.fs.length + 30 ≤ 1800 by omega, h.bc⟩
  have pb : Bc 900 s.place := h.bc.mono (by omega)
  have sp : (10 * f + 9) * (m + 1) ≤ 830 → ∀ {x y : Option Rat}, Sm9o x → Sm9o y → Bc 900 (spotR s x y) := fun z _ _ hx hy => (h.spot hx hy).mono (by omega)
  cases r with
  | hop x y => exact ⟨so, fun rs t e => by cases e; exact h.hop hr.1 hr.2⟩
  | cut x y =>
    refine ⟨⟨so, pb.bd, (sp hm hr.1 hr.2).bd⟩, fun rs t e => ?_⟩
    have e : (if farP s.place (spotR s x y) then Except.ok (mkR s (.line s.place (spotR s x y))) else .error (Xr.uneven s.row)) = .ok t := e
    split at e
    · cases e; exact h.hop hr.1 hr.2
    · cases e
  | run p q l => exact ⟨⟨pb.bd.1.mono (by omega), pb.bd.2.mono (by omega)⟩, fun rs t e => by cases e; exact h.run hr.1 hr.2.1⟩
  | arc left x y p q =>
    refine ⟨⟨so, pb, sp hm hr.1.1 hr.1.2⟩, fun rs t e => ?_⟩
    have e : (if farP (spotR s x y) s.place then Except.ok (mkR s (.arc s.place (arcE s (spotR s x y) (arcW left s.fs) p q) (spotR s x y) (arcW left s.fs))) else .error (Xr.uneven s.row)) = .ok t := e
    split at e
    · cases e; exact h.arc hr.1.1 hr.1.2 hr.2 (arcW_pm _ _)
    · cases e
  | mode b => exact ⟨trivial, fun rs t e => by cases e; exact h.pl⟩
  | pace g => exact ⟨trivial, fun rs t e => by cases e; exact h.pl⟩
  | side u => exact ⟨trivial, fun rs t e => by cases e; exact h.pl⟩
  | frame f =>
    refine ⟨trivial, fun rs t e => ?_⟩
    have e : (if s.fs.length = 8 then Except.error (Xr.noframe s.row) else .ok { s with fl := s.fl ++ [f] }) = .ok t := e
    split at e
    · cases e
    · cases e; exact h.pl
  | back =>
    refine ⟨trivial, fun rs t e => ?_⟩
    have e : (if s.fl = [] then Except.error (Xr.noframe s.row) else .ok { s with fl := s.fl.dropLast }) = .ok t := e
    split at e
    · cases e
    · cases e; exact h.pl
  | piece l => exact hr.elim
  | end_ => exact hr.elim
  | call l n => exact hr.elim
theorem Sz3.made {f m : Nat} {s : Rn} {r : Rc} (h : Sz3 f m s) (hr : RcS3 r) (f3 : f ≤ 3) (hm : (10 * f + 9) * (m + stp r) ≤ 830) : ∀ rs t, deedR rs s r = .ok t → (∀ e ∈ t.made, EyB e) ∧ Sm9 t.side := by
  have em : (10 * f + 9) * (m + 1) = (10 * f + 9) * m + (10 * f + 9) := Nat.mul_succ _ _
  have le : (10 * f + 9) * m ≤ 830 := Nat.le_trans (Nat.mul_le_mul_left _ (Nat.le_add_right _ _)) hm
  have pb : Bc 900 s.place := h.bc.mono (by omega)
  have sp : (10 * f + 9) * (m + 1) ≤ 830 → ∀ {x y : Option Rat}, Sm9o x → Sm9o y → Bc 900 (spotR s x y) := fun z _ _ hx hy => (h.spot hx hy).mono (by omega)
  have fn : (10 * f + 9) * (m + 1) ≤ 830 → ∀ {p : Rat × Rat}, (∃ D, PwD D ((10 * f + 9) * (m + 1) + 4) p) → Bc 900 p := fun z p ⟨D, d⟩ => d.bc.mono (by omega)
  intro rs t e
  cases r with
  | hop x y => cases e; exact ⟨h.more ⟨pb, sp hm hr.1 hr.2⟩, h.sd⟩
  | cut x y =>
    have e : (if farP s.place (spotR s x y) then Except.ok (mkR s (.line s.place (spotR s x y))) else .error (Xr.uneven s.row)) = .ok t := e
    split at e
    · cases e; exact ⟨h.more ⟨pb, sp hm hr.1 hr.2⟩, h.sd⟩
    · cases e
  | run p q l => cases e; exact ⟨h.more ⟨pb, fn hm (h.run hr.1 hr.2.1)⟩, h.sd⟩
  | arc left x y p q =>
    have e : (if farP (spotR s x y) s.place then Except.ok (mkR s (.arc s.place (arcE s (spotR s x y) (arcW left s.fs) p q) (spotR s x y) (arcW left s.fs))) else .error (Xr.uneven s.row)) = .ok t := e
    split at e
    · cases e; exact ⟨h.more ⟨pb, fn hm (h.arc hr.1.1 hr.1.2 hr.2 (arcW_pm _ _)), sp hm hr.1.1 hr.1.2, arcW_pm _ _⟩, h.sd⟩
    · cases e
  | mode b => cases e; exact ⟨h.es, h.sd⟩
  | pace g => cases e; exact ⟨h.es, h.sd⟩
  | side u => cases e; exact ⟨h.es, hr⟩
  | frame f =>
    have e : (if s.fs.length = 8 then Except.error (Xr.noframe s.row) else .ok { s with fl := s.fl ++ [f] }) = .ok t := e
    split at e
    · cases e
    · cases e; exact ⟨h.es, h.sd⟩
  | back =>
    have e : (if s.fl = [] then Except.error (Xr.noframe s.row) else .ok { s with fl := s.fl.dropLast }) = .ok t := e
    split at e
    · cases e
    · cases e; exact ⟨h.es, h.sd⟩
  | piece l => exact hr.elim
  | end_ => exact hr.elim
  | call l n => exact hr.elim
theorem Sz3.leave {c m : Nat} {s u : Rn} {r t n b : Nat} {o : Tr} {f : List Fr} {fo : List (List Fr)} (h : Sz3 c m u) (e : s.fs = fo.reverse.flatten ++ f) (hs : ∀ g ∈ s.fs, FrS3 g) (hl : s.fs.length ≤ c) (ho : o.length + 1 ≤ 8) : Sz3 c m (leaveR u r t n b o f fo) := by
  have fe : (leaveR u r t n b o f fo).fs = s.fs := by rw [leave_fs, e]
  have q : (leaveR u r t n b o f fo).turn = 0 ∧ (leaveR u r t n b o f fo).place = u.place ∧ (leaveR u r t n b o f fo).made = u.made ∧ (leaveR u r t n b o f fo).side = u.side ∧ (leaveR u r t n b o f fo).out.length ≤ 8 := by
    unfold leaveR
    split
    · exact ⟨rfl, rfl, rfl, rfl, ho⟩
    · exact ⟨rfl, rfl, rfl, rfl, show o.length ≤ 8 by omega⟩
  exact ⟨q.1, by rw [q.2.1]; exact h.pl, by rw [q.2.2.1]; exact h.md, by rw [fe]; exact hs, by rw [fe]; exact hl, by rw [q.2.2.1]; exact h.es, by rw [q.2.2.2.1]; exact h.sd, q.2.2.2.2⟩
end DR

/-! DFg: both runs side by side: rows, a piece's turns, whole programs. -/
namespace DR
open PySem PySem.Spec L2 DL DM SX
theorem base_cons (F : List Fr) (fl : List Fr) (fo : List (List Fr)) : baseF F (fl :: fo) = baseL F fo fl :: baseF F fo := by
  cases fo with
  | nil => rfl
  | cons x r => rfl
theorem up_nx (F : List Fr) (t : Rn) : nxR (upR F t) = upR F (nxR t) := by
  have a : t.row + F.length + 1 = t.row + 1 + F.length := by omega
  have b : t.many + F.length + 1 = t.many + 1 + F.length := by omega
  unfold nxR upR
  simp only [a, b]
theorem up_leave (F : List Fr) (s : Rn) (r t n b : Nat) (o : Tr) (f : List Fr) (fo : List (List Fr)) : leaveR (upR F s) (r + F.length) t n (b + F.length) (o.map (upT F.length)) (baseL F fo f) (baseF F fo) = upR F (leaveR s r t n b o f fo) := by
  unfold leaveR
  split
  · unfold upR
    simp only [base_cons]
    rfl
  · unfold upR
    simp only [Rn.mk.injEq, true_and, and_true]
    omega
/-- what becomes of both -/
def Out2 (rs rs' : List Rc) (F : List Fr) (s : Rn) (P : Rn → Prop) : Prop :=
  (∃ t, Rch rs s t ∧ Rch rs' (upR F s) (upR F t) ∧ P t) ∨
  (∃ t r, Rch rs s t ∧ Rch rs' (upR F s) (upR F t) ∧ rs[t.row]? = some r ∧ rs'[t.row + F.length]? = some r ∧ r.plain = true ∧ Dn rs t (.error (.uneven t.row)) ∧ Dn rs' (upR F t) (.error (.uneven (t.row + F.length)))) ∨
  (∃ t r, Rch rs s t ∧ rs[t.row]? = some r ∧ r.plain = true ∧ Dn rs t (.error (.noframe t.row)))
theorem Out2.bind {rs rs' : List Rc} {F : List Fr} {s : Rn} {P P' : Rn → Prop} (h : Out2 rs rs' F s P) (g : ∀ t, P t → Out2 rs rs' F t P') : Out2 rs rs' F s P' := by
  rcases h with ⟨t, h1, h2, h3⟩ | h | h
  · rcases g t h3 with ⟨u, u1, u2, u3⟩ | ⟨u, r, u1, u2, u3⟩ | ⟨u, r, u1, u2⟩
    · exact .inl ⟨u, h1.trans u1, h2.trans u2, u3⟩
    · exact .inr (.inl ⟨u, r, h1.trans u1, h2.trans u2, u3⟩)
    · exact .inr (.inr ⟨u, r, h1.trans u1, u2⟩)
  · exact .inr (.inl h)
  · exact .inr (.inr h)
theorem Out2.mono {rs rs' : List Rc} {F : List Fr} {s : Rn} {P P' : Rn → Prop} (h : Out2 rs rs' F s P) (g : ∀ t, P t → P' t) : Out2 rs rs' F s P' := by
  rcases h with ⟨t, h1, h2, h3⟩ | h | h
  · exact .inl ⟨t, h1, h2, g t h3⟩
  · exact .inr (.inl h)
  · exact .inr (.inr h)
theorem Out2.ret {rs rs' : List Rc} {F : List Fr} {s : Rn} {P : Rn → Prop} (h : P s) : Out2 rs rs' F s P := .inl ⟨s, .refl s, .refl _, h⟩
theorem Out2.ahead {rs rs' : List Rc} {F : List Fr} {s t : Rn} {P : Rn → Prop} (h : Rch rs s t) (h' : Rch rs' (upR F s) (upR F t)) (g : Out2 rs rs' F t P) : Out2 rs rs' F s P := Out2.bind (P := fun u => u = t) (.inl ⟨t, h, h', rfl⟩) fun u e => by rw [e]; exact g
/-- sizes behind the frames -/
theorem up_fit {F : List Fr} (hF : ∀ f ∈ F, FrOk f) (h2 : F.length ≤ 2) {f m : Nat} {s : Rn} {r : Rc} (h : Sz3 f m s) (hr : RcS3 r) (f3 : f ≤ 3) (hm : (10 * f + 9) * (m + stp r) ≤ 830) : Fit (upR F s) r := by
  have ff := h.ff
  have em : (10 * f + 9) * (m + 1) = (10 * f + 9) * m + (10 * f + 9) := Nat.mul_succ _ _
  have le : (10 * f + 9) * m ≤ 830 := Nat.le_trans (Nat.mul_le_mul_left _ (Nat.le_add_right _ _)) hm
  have fs := up_fs F s
  have sp : ∀ x y, spotR (upR F s) x y = led true F (spotR s x y) := fun x y => by
    have := spot_ledK hF s.v x y
    rw [← up_v] at this
    exact this
  have pb : Bc ((10 * f + 9) * m + 5 + 29 * F.length) (upR F s).place := bc_led true h.bc F hF
  have so : SpotOk (upR F s) := ⟨_, by rw [fs, List.length_append]; show (10 * f + 9) * m + 5 + 29 * F.length + 58 * (F.length + s.fs.length) + 30 ≤ 1800; omega, pb⟩
  have sb : (10 * f + 9) * (m + 1) ≤ 830 → ∀ {x y : Option Rat}, Sm9o x → Sm9o y → Bc 900 (spotR (upR F s) x y) := fun z _ _ hx hy => by
    rw [sp]
    exact (bc_led true (h.spot hx hy) F hF).mono (by omega)
  have p9 : Bc 900 (upR F s).place := pb.mono (by omega)
  cases r with
  | hop x y => exact so
  | cut x y => exact ⟨so, p9.bd, (sb hm hr.1 hr.2).bd⟩
  | run p q l => exact ⟨p9.bd.1.mono (by omega), p9.bd.2.mono (by omega)⟩
  | arc left x y p q => exact ⟨so, p9, sb hm hr.1.1 hr.1.2⟩
  | _ => trivial
def frn (r : Rc) : Nat := match r with
  | .frame _ => 1
  | _ => 0
theorem Out2.row {rs rs' : List Rc} {F : List Fr} (hF : ∀ f ∈ F, FrOk f) (h2 : F.length ≤ 2) {s : Rn} {c m : Nat} {r : Rc} (h : Sz3 c m s) (hr : RcS3 r) (c3 : c ≤ 3) (hm : (10 * c + 9) * (m + stp r) ≤ 830) (hn : s.many < 1990) (hf : s.fs.length + frn r ≤ c) (e : rs[s.row]? = some r) (e' : rs'[s.row + F.length]? = some r) :
    Out2 rs rs' F s (fun t => Sz3 c (m + stp r) t ∧ t.row = s.row + 1 ∧ t.out = s.out ∧ t.fout = s.fout ∧ t.many = s.many + 1 ∧ t.fs.length ≤ s.fs.length + frn r) := by
  have w := hr.pl
  have f3 := h.ff
  have hmd := h.md
  have m9 : m ≤ 92 := by
    have a : (10 * c + 9) * m ≤ 830 := Nat.le_trans (Nat.mul_le_mul_left _ (Nat.le_add_right _ _)) hm
    have b : 9 * m ≤ (10 * c + 9) * m := Nat.mul_le_mul_right _ (by omega)
    omega
  obtain ⟨fit, pl⟩ := h.fit hr c3 hm
  by_cases hb : r = .back ∧ s.fl = []
  · obtain ⟨rfl, hb⟩ := hb
    exact .inr (.inr ⟨s, _, .refl s, e, rfl, .err (by omega) e rfl (fun z => nomatch z) trivial (fun l n z => nomatch z) (if_pos hb)⟩)
  have hb' : r = .back → s.fl ≠ [] := fun z y => hb ⟨z, y⟩
  have hfr : ∀ f, r = .frame f → s.fs.length < c := fun f z => by rw [z] at hf; have : s.fs.length + 1 ≤ c := hf; omega
  have fit' := up_fit hF h2 h hr c3 hm
  obtain ⟨d1, d2⟩ := deed_v rs s w.2.2.1 (fun f z => by have := hfr f z; omega) hb'
  obtain ⟨u1, u2⟩ := up_deed hF rs rs' (s := s) w.2.2.1 (fun f z => by have := hfr f z; omega) hb'
  have ml : (upR F s).made.length = s.made.length := List.length_map ..
  have mm : (upR F s).many = s.many + F.length := rfl
  have er : rs'[(upR F s).row]? = some r := e'
  cases q : rowV s.v r with
  | none =>
    have q2 := d2 q
    exact .inr (.inl ⟨s, r, .refl s, .refl _, e, e', w.2.1, .err (by omega) e w.2.1 (fun _ => by omega) fit (fun l n z => by rw [z] at w; cases w.2.2.1) q2,
      .err (by omega) er w.2.1 (fun _ => by omega) fit' (fun l n z => by rw [z] at w; cases w.2.2.1) (u2 q2 fun t z => by rw [q2] at z; cases z)⟩)
  | some k =>
    obtain ⟨t, t1, t2, n⟩ := d1 k q
    have o := Rch.one (s := s) e w.2.1 (by omega) (fun _ => by omega) fit (fun l n z => by rw [z] at w; cases w.2.2.1) t1
    have o' := Rch.one (rs := rs') (s := upR F s) er w.2.1 (by omega) (fun _ => by omega) fit' (fun l n z => by rw [z] at w; cases w.2.2.1) (u1 t t1)
    have ea : ∀ t, aftR r t = nxR t := fun t => by unfold aftR; rw [w.2.2.1]; rfl
    rw [ea] at o o'
    rw [up_nx] at o'
    have efs : (nxR t).fs = s.fout.reverse.flatten ++ flR s.fl r := (show t.fs = _ from flR_fs n)
    have sub : (∀ f ∈ s.fout.reverse.flatten ++ flR s.fl r, FrS3 f) ∧ (s.fout.reverse.flatten ++ flR s.fl r).length ≤ s.fs.length + frn r := by
      have same : ∀ fl, fl = s.fl → (∀ f ∈ s.fout.reverse.flatten ++ fl, FrS3 f) ∧ (s.fout.reverse.flatten ++ fl).length ≤ s.fs.length + 0 := fun fl z => by
        rw [z, ← fs_eq]
        exact ⟨h.fr, Nat.le_refl _⟩
      cases r with
      | frame f =>
        show (∀ f ∈ s.fout.reverse.flatten ++ (s.fl ++ [_]), FrS3 f) ∧ (s.fout.reverse.flatten ++ (s.fl ++ [_])).length ≤ _
        rw [← List.append_assoc, ← fs_eq]
        refine ⟨fun g mg => ?_, by rw [List.length_append]; exact Nat.le_refl _⟩
        rcases List.mem_append.mp mg with z | z
        · exact h.fr g z
        · rw [List.mem_singleton.mp z]; exact hr
      | back =>
        show (∀ f ∈ s.fout.reverse.flatten ++ s.fl.dropLast, FrS3 f) ∧ (s.fout.reverse.flatten ++ s.fl.dropLast).length ≤ s.fs.length + 0
        have e2 := fs_eq s
        refine ⟨fun g mg => h.fr g ?_, ?_⟩
        · rw [e2]
          rcases List.mem_append.mp mg with z | z
          · exact List.mem_append_left _ z
          · exact List.mem_append_right _ ((List.dropLast_sublist _).mem z)
        · rw [e2, List.length_append, List.length_append, List.length_dropLast]
          omega
      | _ => exact same _ rfl
    refine .inl ⟨nxR t, o, o', ⟨rfl, pl rs t t1, ?_, by rw [efs]; exact sub.1, by rw [efs]; omega, (h.made hr c3 hm rs t t1).1, (h.made hr c3 hm rs t t1).2, by show t.out.length ≤ 8; rw [n.out]; exact h.od⟩, by show t.row + 1 = _; rw [n.row], n.out, n.fout, by show t.many + 1 = _; rw [n.many], by rw [efs]; exact sub.2⟩
    show t.made.length ≤ _
    rw [n.made]
    unfold stp
    omega
def frns : List Rc → Nat
  | [] => 0
  | r :: rs => frn r + frns rs
theorem Out2.rows {rs rs' : List Rc} {F : List Fr} (hF : ∀ f ∈ F, FrOk f) (h2 : F.length ≤ 2) : ∀ {body : List Rc} {c m : Nat} {s : Rn}, Sz3 c m s → (∀ r ∈ body, RcS3 r) → c ≤ 3 → (10 * c + 9) * (m + stps body) ≤ 830 → s.many + body.length ≤ 1990 → s.fs.length + frns body ≤ c →
    (∀ i, i < body.length → rs[s.row + i]? = body[i]?) → (∀ i, i < body.length → rs'[s.row + F.length + i]? = body[i]?) →
    Out2 rs rs' F s (fun t => Sz3 c (m + stps body) t ∧ t.row = s.row + body.length ∧ t.out = s.out ∧ t.fout = s.fout ∧ t.many = s.many + body.length ∧ t.fs.length ≤ s.fs.length + frns body)
  | [], c, m, s, h, _, _, _, _, _, _, _ => .ret ⟨h, rfl, rfl, rfl, rfl, Nat.le_refl _⟩
  | r :: body, c, m, s, h, hr, c3, hm, hn, hf, hp, hp' => by
    have es : stps (r :: body) = stp r + stps body := rfl
    have ef : frns (r :: body) = frn r + frns body := rfl
    rw [es, ← Nat.add_assoc] at hm
    rw [ef] at hf
    have hm1 : (10 * c + 9) * (m + stp r) ≤ 830 := Nat.le_trans (Nat.mul_le_mul_left _ (Nat.le_add_right _ _)) hm
    rw [List.length_cons] at hn
    have e0 := hp 0 (by rw [List.length_cons]; omega)
    have e0' := hp' 0 (by rw [List.length_cons]; omega)
    rw [Nat.add_zero] at e0 e0'
    refine (Out2.row hF h2 h (hr r List.mem_cons_self) c3 hm1 (by omega) (by omega) (e0.trans rfl) (e0'.trans rfl)).bind fun t ⟨t1, t2, t3, t4, t5, t6⟩ => ?_
    refine (Out2.rows hF h2 t1 (fun q mq => hr q (List.mem_cons_of_mem _ mq)) c3 hm (by omega) (by omega) (fun i hi => ?_) (fun i hi => ?_)).mono fun u ⟨u1, u2, u3, u4, u5, u6⟩ => ⟨by rw [es, ← Nat.add_assoc]; exact u1, by rw [u2, t2, List.length_cons]; omega, u3.trans t3, u4.trans t4, by rw [u5, t5, List.length_cons]; omega, by rw [ef]; omega⟩
    · have := hp (i + 1) (by rw [List.length_cons]; omega)
      rw [t2, show s.row + 1 + i = s.row + (i + 1) by omega, this]
      rfl
    · have := hp' (i + 1) (by rw [List.length_cons]; omega)
      rw [t2, show s.row + 1 + F.length + i = s.row + F.length + (i + 1) by omega, this]
      rfl
end DR

/-! DFh: whole programs, plain and with frames ahead, side by side. -/
namespace DR
open PySem PySem.Spec L2 DL DM SX
theorem Out2.turns {rs rs' inner : List Rc} {F : List Fr} (hF : ∀ f ∈ F, FrOk f) (h2 : F.length ≤ 2) {l : List Nat} {first cr n : Nat} (P : Pc20 rs inner l first) (P' : Pc20 rs' inner l (first + F.length)) (hi : ∀ r ∈ inner, RcS3 r) {c : Nat} (c3 : c ≤ 3) (hc : rs[cr]? = some (.call l n)) (hc' : rs'[cr + F.length]? = some (.call l n)) :
    ∀ (j : Nat) {m t : Nat} {s : Rn} {o : Tr} {f : List Fr} {fo : List (List Fr)}, Sz3 c m s → (10 * c + 9) * (m + (j + 1) * stps inner) ≤ 830 → s.many + (j + 1) * inner.length ≤ 1990 → s.row = first → s.fl = [] → s.out = (cr, t) :: o → s.fout = f :: fo → t + j + 1 = n → s.fs.length + frns inner ≤ c →
      Out2 rs rs' F s (fun u => Sz3 c (m + (j + 1) * stps inner) u ∧ u.row = cr + 1 ∧ u.out = o ∧ u.fout = fo ∧ u.fl = f ∧ u.many = s.many + (j + 1) * inner.length) := by
  intro j
  -- a turn, to behind its end
  have turn : ∀ {m t : Nat} {s : Rn} {o : Tr} {f : List Fr} {fo : List (List Fr)}, Sz3 c m s → (10 * c + 9) * (m + stps inner) ≤ 830 → s.many + inner.length ≤ 1990 → s.row = first → s.fl = [] → s.out = (cr, t) :: o → s.fout = f :: fo → s.fs.length + frns inner ≤ c →
      Out2 rs rs' F s (fun w => ∃ u, w = leaveR u cr t n first o f fo ∧ Sz3 c (m + stps inner) w ∧ w.fs = s.fs ∧ u.many = s.many + inner.length) := by
    intro m t s o f fo h hm hn h1 h2' h3 h4 h6
    have hB := fs_eq s
    rw [h2', List.append_nil] at hB
    have hB2 : s.fs = fo.reverse.flatten ++ f := by rw [hB, h4]; simp
    refine (Out2.rows hF h2 h hi c3 hm hn h6 (fun i hi => by rw [h1]; exact P.at_ i hi) (fun i hi => by rw [h1]; exact P'.at_ i hi)).bind fun u ⟨u1, u2, u3, u4, u5, _⟩ => ?_
    have hr : u.row = first + inner.length := by rw [u2, h1]
    have he : rs[u.row]? = some .end_ := by rw [hr]; exact P.en
    have he' : rs'[(upR F u).row]? = some .end_ := by
      show rs'[u.row + F.length]? = _
      rw [hr, show first + inner.length + F.length = first + F.length + inner.length by omega]
      exact P'.en
    have ho : u.out = (cr, t) :: o := u3.trans h3
    have hfo : u.fout = f :: fo := u4.trans h4
    have ne : ¬ AtEnd rs u := fun z => by have z := z.1; rw [ho] at z; exact nomatch z
    have ho' : (upR F u).out = (cr + F.length, t) :: o.map (upT F.length) := by
      show u.out.map (upT F.length) = _
      rw [ho]
      rfl
    have hfo' : (upR F u).fout = baseL F fo f :: baseF F fo := by
      show baseF F u.fout = _
      rw [hfo, base_cons]
    have ne' : ¬ AtEnd rs' (upR F u) := fun z => by have z := z.1; rw [ho'] at z; exact nomatch z
    have lv := Rch.leave ne he ho hfo hc P.lk (.refl _)
    have lv' := Rch.leave ne' he' ho' hfo' hc' P'.lk (.refl _)
    rw [up_leave] at lv'
    exact .inl ⟨_, lv, lv', u, rfl, u1.leave (s := s) hB2 h.fr h.ff (by have := h.od; rw [h3] at this; exact this), by rw [leave_fs, hB2], u5⟩
  induction j with
  | zero =>
    intro m t s o f fo h hm hn h1 h2' h3 h4 h5 h6
    rw [Nat.zero_add, Nat.one_mul] at hm hn ⊢
    rw [Nat.one_mul]
    refine (turn h hm hn h1 h2' h3 h4 h6).mono fun w ⟨u, w1, w2, w3, w4⟩ => ?_
    have q : leaveR u cr t n first o f fo = { u with out := o, row := cr + 1, turn := 0, fout := fo, fl := f } := if_neg (by omega)
    rw [q] at w1
    subst w1
    exact ⟨w2, rfl, rfl, rfl, rfl, w4⟩
  | succ j ih =>
    intro m t s o f fo h hm hn h1 h2' h3 h4 h5 h6
    have es : (j + 1 + 1) * stps inner = stps inner + (j + 1) * stps inner := by rw [Nat.succ_mul, Nat.add_comm]
    have el : (j + 1 + 1) * inner.length = inner.length + (j + 1) * inner.length := by rw [Nat.succ_mul, Nat.add_comm]
    rw [es, ← Nat.add_assoc] at hm
    have hm1 : (10 * c + 9) * (m + stps inner) ≤ 830 := Nat.le_trans (Nat.mul_le_mul_left _ (Nat.le_add_right _ _)) hm
    rw [el] at hn
    refine (turn h hm1 (by omega) h1 h2' h3 h4 h6).bind fun w ⟨u, w1, w2, w3, w4⟩ => ?_
    have q : leaveR u cr t n first o f fo = { u with out := (cr, t + 1) :: o, row := first, turn := 0, fout := f :: fo, fl := [] } := if_pos (by omega)
    rw [q] at w1
    have wm : w.many = u.many := by rw [w1]
    refine (ih (t := t + 1) (o := o) (f := f) (fo := fo) w2 hm (by omega) (by rw [w1]) (by rw [w1]) (by rw [w1]) (by rw [w1]) (by omega) (by rw [w3]; exact h6)).mono fun v ⟨v1, v2, v3, v4, v5, v6⟩ => ⟨by rw [es, ← Nat.add_assoc]; exact v1, v2, v3, v4, v5, by rw [v6, wm, w4, el]; omega⟩
/-- frames put one behind another -/
theorem frames_go {rs : List Rc} : ∀ (G : List Fr) {s : Rn}, s.turn = 0 → s.fs.length + G.length ≤ 8 → s.many + G.length < 2000 → (∀ i, i < G.length → rs[s.row + i]? = (G.map Rc.frame)[i]?) → Rch rs s { s with fl := s.fl ++ G, row := s.row + G.length, many := s.many + G.length }
  | [], s, _, _, _, _ => by
    have : { s with fl := s.fl ++ [], row := s.row + ([] : List Fr).length, many := s.many + ([] : List Fr).length } = s := by
      rw [List.append_nil]
      rfl
    rw [this]
    exact .refl s
  | f :: G, s, h, h1, h2, hp => by
    rw [List.length_cons] at h1 h2
    have e := hp 0 (by rw [List.length_cons]; omega)
    rw [Nat.add_zero] at e
    have o1 := Rch.one (s := s) (t := { s with fl := s.fl ++ [f] }) (e.trans rfl) rfl (by omega) (fun z => nomatch z) trivial (fun _ _ z => nomatch z) (if_neg (by omega))
    have efs : (nxR { s with fl := s.fl ++ [f] }).fs.length = s.fs.length + 1 := by
      rw [fs_eq, fs_eq s]
      show (s.fout.reverse.flatten ++ (s.fl ++ [f])).length = _
      simp only [List.length_append, List.length_cons, List.length_nil]
      omega
    have o2 := frames_go G (s := nxR { s with fl := s.fl ++ [f] }) rfl (by omega) (by show s.many + 1 + G.length < 2000; omega) (fun i hi => by
      have := hp (i + 1) (by rw [List.length_cons]; omega)
      rw [show (nxR { s with fl := s.fl ++ [f] }).row + i = s.row + (i + 1) by show s.row + 1 + i = _; omega, this]
      rfl)
    have e2 : { nxR { s with fl := s.fl ++ [f] } with fl := (nxR { s with fl := s.fl ++ [f] }).fl ++ G, row := (nxR { s with fl := s.fl ++ [f] }).row + G.length, many := (nxR { s with fl := s.fl ++ [f] }).many + G.length } = { s with fl := s.fl ++ (f :: G), row := s.row + (f :: G).length, many := s.many + (f :: G).length } := by
      have a : s.row + 1 + G.length = s.row + (G.length + 1) := by omega
      have b : s.many + 1 + G.length = s.many + (G.length + 1) := by omega
      unfold nxR
      simp only [List.append_assoc, List.cons_append, List.nil_append, List.length_cons, a, b, h]
    rw [e2] at o2
    exact o1.trans o2
theorem Out2.start {rs' : List Rc} {F : List Fr} (h2 : F.length ≤ 2) (h0 : led true F (0, 0) = (0, 0)) (hp : ∀ i, i < F.length → rs'[0 + i]? = (F.map Rc.frame)[i]?) : Rch rs' rn0 (upR F rn0) := by
  have := frames_go (rs := rs') F (s := rn0) rfl (by show 0 + _ ≤ 8; omega) (by show 0 + _ < 2000; omega) hp
  have e : upR F rn0 = { rn0 with fl := rn0.fl ++ F, row := rn0.row + F.length, many := rn0.many + F.length } := by
    unfold upR
    rw [show rn0.place = (0, 0) from rfl, h0]
    show Rn.mk _ _ _ _ _ _ _ _ (F ++ []) _ _ = Rn.mk _ _ _ _ _ _ _ _ F _ _
    rw [List.append_nil]
    rfl
  rw [e]
  exact this
/-- how both end -/
def Both (rs rs' : List Rc) (F : List Fr) : Prop := (∃ t, Runs rs (.ok t) ∧ Runs rs' (.ok (upR F t)) ∧ ∀ e ∈ t.made, EyB e) ∨ (∃ k, Runs rs (.error (.uneven k)) ∧ Runs rs' (.error (.uneven (k + F.length)))) ∨ (∃ k, Runs rs (.error (.noframe k)))
theorem Out2.both {rs rs' : List Rc} {F : List Fr} {P : Rn → Prop} (st : Rch rs' rn0 (upR F rn0)) (h : Out2 rs rs' F rn0 P) (e : ∀ t, P t → AtEnd rs t ∧ ∀ e ∈ t.made, EyB e) (el : rs'.length = rs.length + F.length) : Both rs rs' F := by
  rcases h with ⟨t, h1, h2, h3⟩ | ⟨t, r, h1, h2, h3, h4, h5, h6, h7⟩ | ⟨t, r, h1, h2, h3, h4⟩
  · obtain ⟨⟨e1, e2⟩, e3⟩ := e t h3
    refine .inl ⟨t, h1.runsE ⟨e1, e2⟩, (st.trans h2).runsE ⟨?_, ?_⟩, e3⟩
    · show t.out.map _ = []
      rw [e1]
      rfl
    · show t.row + F.length = _
      rw [e2, el]
  · exact .inr (.inl ⟨_, h1.runsX h3 h5 h6, (st.trans h2).runsX h4 h5 h7⟩)
  · exact .inr (.inr ⟨_, h1.runsX h2 h3 h4⟩)
end DR

/-! DFi: flat programs and programs with one piece, plain and with frames ahead. -/
namespace DR
open PySem PySem.Spec L2 DL DM SX
/-- frames that may stand ahead -/
structure FrA (F : List Fr) : Prop where
  ok : ∀ f ∈ F, FrOk f
  w : ∀ f ∈ F, RcW (.frame f)
  l2 : F.length ≤ 2
  z : led true F (0, 0) = (0, 0)
end DR

/-! DGa: programs of a mill's laws: by the mode by, flips alone as frames; the entries that they make can be led. -/
namespace DR
open PySem PySem.Spec L2 DL DM SX
/-! ### flips alone -/
def fl2 (fs : List Fr) (v : Rat × Rat) : Rat × Rat := (v.1, if abB fs then -v.2 else v.2)
theorem led_flips (m : Bool) : ∀ {fs : List Fr}, (∀ f ∈ fs, f = .flip) → ∀ v, led m fs v = fl2 fs v
  | [], _, v => rfl
  | f :: fs, h, v => by
    have e := h f List.mem_cons_self
    subst e
    show fwd m .flip (led m fs v) = _
    rw [led_flips m (fun g z => h g (List.mem_cons_of_mem _ z)) v]
    unfold fl2
    rw [abB_cons]
    show (v.1, -(if abB fs then -v.2 else v.2)) = _
    cases abB fs
    · rfl
    · show (v.1, - -v.2) = (v.1, v.2)
      rw [neg_neg_rat]
theorem InD.fl2 {D M : Nat} {p : Rat × Rat} (fs : List Fr) (h : InD D M p) : InD D M (fl2 fs p) := by
  unfold DR.fl2
  cases abB fs
  · exact h
  · exact h.flip
theorem ind_int {i j : Int} {M : Nat} (hi : i.natAbs ≤ M) (hj : j.natAbs ≤ M) : InD 1 M ((i : Rat), (j : Rat)) := ⟨i, j, by have := dI_int (D := 1) (by decide) i; rwa [show i * ((1 : Nat) : Int) = i from Int.mul_one i] at this, by have := dI_int (D := 1) (by decide) j; rwa [show j * ((1 : Nat) : Int) = j from Int.mul_one j] at this, hi, hj⟩
theorem ind_hd {p q : Int} (h : HdS p q) : InD 5 5 (hdc p q, hds p q) := by
  obtain ⟨a, b, e1, e2, b1, b2⟩ := fifths_of h.1 h.2.1 h.2.2
  exact ⟨a, b, e1, e2, b1, b2⟩
theorem InD.timesI {D M k : Nat} {p : Rat × Rat} {i : Int} (h : InD D M p) (hi : i.natAbs ≤ k) : InD D (k * M) (p.1 * (i : Rat), p.2 * (i : Rat)) := by
  obtain ⟨a, b, h1, h2, h3, h4⟩ := h
  have e : ∀ u : Int, Rat.divInt u D * (i : Rat) = Rat.divInt (u * i) D := fun u => by
    rw [Rat.divInt_eq_div, Rat.divInt_eq_div, Rat.intCast_mul]
    generalize ((D : Int) : Rat) = d at *
    grind
  have m : ∀ u : Int, u.natAbs ≤ M → (u * i).natAbs ≤ k * M := fun u hu => by
    rw [Int.natAbs_mul, Nat.mul_comm]
    exact Nat.mul_le_mul hi hu
  exact ⟨a * i, b * i, by show p.1 * _ = _; rw [h1, e], by show p.2 * _ = _; rw [h2, e], m a h3, m b h4⟩
/-! ### what can be led -/
/-- a heading of a contour's line -/
def HdL (u : Rat × Rat) : Prop := u = (1, 0) ∨ u = (3 / 5, 4 / 5) ∨ u = (3 / 5, -(4 / 5))
structure LedG (c : Ec) : Prop where
  ln : c.e.st.isLn = true
  u : HdL c.u
  v : HdL c.v
  s : -3 ≤ c.e.side ∧ c.e.side ≤ 3
  r : 30 ≤ c.r
/-- how far a joint cuts back -/
theorem back_le {u v : Rat × Rat} {s : Rat} (hu : HdL u) (hv : HdL v) (h : jkind u v s = 2) (hs : -3 ≤ s ∧ s ≤ 3) : backR u v s ≤ 4 := by
  obtain ⟨s1, s2⟩ := hs
  have k : cr u v ≠ 0 ∧ 0 < cr u v * s := by
    refine ⟨jkind_two h, ?_⟩
    unfold jkind at h
    rw [if_neg (jkind_two h)] at h
    split at h
    · assumption
    · cases h
  obtain ⟨k0, k1⟩ := k
  unfold backR
  unfold cr at k0 k1 ⊢
  unfold dt
  rcases hu with rfl | rfl | rfl <;> rcases hv with rfl | rfl | rfl <;> simp only at k0 k1 ⊢ <;> first
  | (exfalso; apply k0; grind)
  | grind
/-! ### the way is not refused -/
structure AllG (es : List Ec) (L : Nat → LR) : Prop where
  g : ∀ n, ledB es n = true → (L n).st.isLn = true ∧ HdL (L n).u ∧ HdL (L n).v ∧ (-3 ≤ (L n).side ∧ (L n).side ≤ 3) ∧ (L n).bb ≤ 4 ∧ (L n).eb ≤ 4 ∧ (L n).um = false
theorem ag_A {es : List Ec} {L : Nat → LR} (h : AllG es L) {i j : Nat} (hi : ledB es i = true) (hj : ledB es j = true) (b : Addr) : (joinA b (L i) (L j)).st.isLn = true ∧ HdL (joinA b (L i) (L j)).u ∧ HdL (joinA b (L i) (L j)).v ∧ (-3 ≤ (joinA b (L i) (L j)).side ∧ (joinA b (L i) (L j)).side ≤ 3) ∧ (joinA b (L i) (L j)).bb ≤ 4 ∧ (joinA b (L i) (L j)).eb ≤ 4 ∧ (joinA b (L i) (L j)).um = false := by
  obtain ⟨a1, a2, a3, a4, a5, a6, a7⟩ := h.g i hi
  obtain ⟨b1, b2, b3, b4, b5, b6, b7⟩ := h.g j hj
  unfold joinA
  split
  · exact ⟨a1, a2, a3, a4, a5, a6, a7⟩
  · split
    · rename_i k
      rw [if_pos (show ((L i).st.isLn && (L j).st.isLn) = true by rw [a1, b1]; rfl)]
      exact ⟨a1, a2, a3, a4, a5, back_le a3 b2 k a4, a7⟩
    · exact ⟨a1, a2, a3, a4, a5, a6, a7⟩
theorem ag_jn {es : List Ec} {L : Nat → LR} (h : AllG es L) {i j : Nat} (hi : ledB es i = true) (hj : ledB es j = true) : AllG es (jnL L i j) := by
  refine ⟨fun n hn => ?_⟩
  unfold jnL
  split
  · rename_i e
    subst e
    split
    · rename_i e
      subst e
      exact ag_A h hi hi _
    · obtain ⟨a1, a2, a3, a4, a5, a6, a7⟩ := h.g i hi
      obtain ⟨b1, b2, b3, b4, b5, b6, b7⟩ := h.g _ hj
      unfold joinB
      split
      · rename_i k
        exact ⟨b1, b2, b3, b4, back_le a3 b2 k.1 a4, b6, b7⟩
      · exact ⟨b1, b2, b3, b4, b5, b6, b7⟩
  · split
    · rename_i e
      subst e
      exact ag_A h hi hj _
    · exact h.g n hn
theorem ag_row {es : List Ec} {L : Nat → LR} {c : List Nat} (hc : ∀ n ∈ c, ledB es n = true) (h : AllG es L) : ∀ k, k < c.length → AllG es (rowL L c k)
  | 0, _ => h
  | k + 1, hk => by
    have at_ : ∀ j, j < c.length → ledB es (c.getD j 0) = true := fun j hj => by
      refine hc _ ?_
      rw [List.getD_eq_getElem?_getD, List.getElem?_eq_getElem hj]
      exact List.getElem_mem hj
    exact ag_jn (ag_row hc h k (by omega)) (at_ k (by omega)) (at_ (k + 1) hk)
theorem ag_all {es : List Ec} {L : Nat → LR} {c : List Nat} (hne : c ≠ []) (hc : ∀ n ∈ c, ledB es n = true) (h : AllG es L) : AllG es (allL es L c) := by
  have hl : 0 < c.length := List.length_pos_iff.mpr hne
  have hr := ag_row hc h (c.length - 1) (by omega)
  unfold allL
  split
  · refine ag_jn hr (hc _ ?_) (hc _ ?_)
    · rw [List.getLastD_eq_getLast?, List.getLast?_eq_some_getLast hne]
      exact List.getLast_mem hne
    · cases c with
      | nil => exact absurd rfl hne
      | cons x r => exact List.mem_cons_self
  · exact hr
theorem ag_0 {es : List Ec} (h : ∀ c ∈ es, c.isLed = true → LedG c) : AllG es (L0 es) := ⟨fun n hn => by
  obtain ⟨c, hc, hl, hh⟩ := led_some hn
  have g := h c (List.mem_of_getElem? hc) hl
  unfold L0
  rw [hc]
  exact ⟨g.ln, g.u, g.v, g.s, show (0 : Rat) ≤ 4 by decide, show (0 : Rat) ≤ 4 by decide, rfl⟩⟩
theorem ag_end {es : List Ec} (h : ∀ c ∈ es, c.isLed = true → LedG c) : AllG es (endL es) := by
  unfold endL finL
  rw [List.take_length]
  have : ∀ (cs : List (List Nat)) (L : Nat → LR), (∀ c ∈ cs, c ∈ contC es) → AllG es L → AllG es (cs.foldl (allL es) L) := by
    intro cs
    induction cs with
    | nil => exact fun L _ h => h
    | cons c cs ih =>
      intro L hc h
      have h1 := led_of (hc c List.mem_cons_self)
      exact ih _ (fun d m => hc d (List.mem_cons_of_mem _ m)) (ag_all h1.1 h1.2 h)
  exact this _ _ (fun c m => m) (ag_0 h)
theorem not_wrong {es : List Ec} (hu : ∀ n, n < es.length → unB es n = false) (h : ∀ c ∈ es, c.isLed = true → LedG c) : wrongZ es (ledLs es) = [] := by
  have ag := ag_end h
  have nm : ∀ p ∈ ledLs es, ∃ n, ledB es n = true ∧ p.1 = endL es n ∧ p.2.1 = rOf es n := fun p m => by
    unfold ledLs at m
    obtain ⟨n, hn, rfl⟩ := List.mem_map.mp m
    exact ⟨n, (List.mem_filter.mp hn).2, rfl, rfl⟩
  have e1 : unN es = [] := List.filter_eq_nil_iff.mpr fun n m => by rw [hu n (List.mem_range.mp m)]; exact Bool.false_ne_true
  have e2 : (ledLs es).filter (fun p => gougeB p.1 p.2.1) = [] := List.filter_eq_nil_iff.mpr fun p m => by
    obtain ⟨n, hn, p1, p2⟩ := nm p m
    obtain ⟨a1, a2, a3, a4, a5, a6, a7⟩ := ag.g n hn
    obtain ⟨c, hc, hl, hh⟩ := led_some hn
    have r := (h c (List.mem_of_getElem? hc) hl).r
    have er : rOf es n = c.r := by unfold rOf; rw [hc]
    unfold gougeB
    rw [p1, p2, a1, if_pos rfl, er]
    have : (endL es n).bb + (endL es n).eb < c.r := by grind
    rw [decide_eq_true this]
    exact Bool.false_ne_true
  have e3 : (ledLs es).filter (fun p => p.1.um) = [] := List.filter_eq_nil_iff.mpr fun p m => by
    obtain ⟨n, hn, p1, p2⟩ := nm p m
    obtain ⟨a1, a2, a3, a4, a5, a6, a7⟩ := ag.g n hn
    rw [p1, a7]
    exact Bool.false_ne_true
  unfold wrongZ
  rw [e1, e2, e3]
  rfl
/-! ### a runner by the mode by, flips alone -/
def sdR (s : Rn) : Rat := if abB s.fs then -s.side else s.side
structure Mi (m : Nat) (es : List Ec) (s : Rn) : Prop where
  tn : s.turn = 0
  by_ : s.by_ = true
  fl : ∀ f ∈ s.fs, f = .flip
  f8 : s.fs.length ≤ 8
  pl : InD 5 (200 * m) s.place
  made : s.made = es.map (·.e)
  len : es.length ≤ m
  ok : ∀ c ∈ es, c.ok
  gd : ∀ c ∈ es, c.isLed = true → LedG c
  un : ∀ n, n < es.length → unB es n = false
/-- no side stands, and the last cut has none -/
structure J0 (es : List Ec) (s : Rn) : Prop where
  sd : s.side = 0
  last : ∀ c, es.getLast? = some c → c.e.st.isHop = true ∨ c.e.side = 0
theorem un_snoc {es : List Ec} {c : Ec} (h : ∀ n, n < es.length → unB es n = false) (hc : c.e.st.isHop = true ∨ ((es = [] → c.e.side = 0) ∧ ∀ p, es.getLast? = some p → p.e.st.isHop = true ∨ p.e.side = c.e.side)) : ∀ n, n < (es ++ [c]).length → unB (es ++ [c]) n = false := fun n hn => by
  rw [List.length_append] at hn
  have hn : n < es.length + 1 := hn
  by_cases q : n < es.length
  · have := h n q
    unfold unB at this ⊢
    rw [List.getElem?_append_left q, List.getElem?_append_left (by omega)]
    exact this
  · have en : n = es.length := by omega
    subst en
    unfold unB
    rw [List.getElem?_append_right (Nat.le_refl _), Nat.sub_self]
    show (!c.e.st.isHop && _) = false
    rcases hc with hc | ⟨h0, hl⟩
    · rw [hc]; rfl
    · cases es with
      | nil =>
        have z := h0 rfl
        show (!c.e.st.isHop && !decide (c.e.side = 0)) = false
        rw [decide_eq_true z, Bool.not_true, Bool.and_false]
      | cons x r =>
        have hne : ¬ (x :: r).length = 0 := fun z => nomatch z
        rw [if_neg hne, List.getElem?_append_left (by show (x :: r).length - 1 < (x :: r).length; rw [List.length_cons]; omega), ← List.getLast?_eq_getElem?]
        cases q2 : (x :: r).getLast? with
        | none => exact Bool.and_false _
        | some p =>
          show (!c.e.st.isHop && (!p.e.st.isHop && !decide (p.e.side = c.e.side))) = false
          rcases hl p q2 with z | z
          · rw [z, Bool.not_true, Bool.false_and, Bool.and_false]
          · rw [decide_eq_true z, Bool.not_true, Bool.and_false, Bool.and_false]
theorem Mi.bc {m : Nat} {es : List Ec} {s : Rn} (h : Mi m es s) (hm : m ≤ 60) : Bc 14 s.place := h.pl.bc (by decide) (by decide) (by omega)
theorem Mi.off {m M : Nat} {es : List Ec} {s : Rn} {v : Rat × Rat} (h : Mi m es s) (hv : InD 5 M v) (hM : M ≤ 200) : InD 5 (200 * (m + 1)) (s.place.1 + v.1, s.place.2 + v.2) := (h.pl.add (by decide) hv).mono (by omega)
theorem Mi.so {m : Nat} {es : List Ec} {s : Rn} (h : Mi m es s) (hm : m ≤ 60) : SpotOk s := ⟨14, by have := h.f8; omega, h.bc hm⟩
theorem ind_bc {m : Nat} {p : Rat × Rat} (h : InD 5 (200 * m) p) (hm : m ≤ 61) : Bc 14 p := h.bc (by decide) (by decide) (by omega)
/-- an entry more -/
theorem Mi.more {rs : List Rc} {m : Nat} {es : List Ec} {s : Rn} {r : Rc} {st : Stp} {r0 : Rat} {u v : Rat × Rat} (h : Mi m es s) (hm : m < 60) (hn : s.many < 1990) (e : rs[s.row]? = some r) (np : r.plain = true) (nc : r.isCall = false) (fit : Fit s r) (d : deedR rs s r = .ok (mkR s st))
    (bd : st.bd) (cut : st.isHop = false → CutG st r0 u v) (sb : Bd 20 s.side) (pl : InD 5 (200 * (m + 1)) st.fin) (gd : st.isHop = false → sdR s ≠ 0 → LedG ⟨⟨st, s.pace, sdR s, s.trail⟩, r0, u, v⟩) (un : st.isHop = true ∨ ((es = [] → sdR s = 0) ∧ ∀ p, es.getLast? = some p → p.e.st.isHop = true ∨ p.e.side = sdR s)) :
    Rch rs s (nxR (mkR s st)) ∧ Mi (m + 1) (es ++ [⟨⟨st, s.pace, sdR s, s.trail⟩, r0, u, v⟩]) (nxR (mkR s st)) := by
  have hl := h.len
  have ml : s.made.length = es.length := by rw [h.made, List.length_map]
  have o := Rch.one (s := s) e np (by omega) (fun _ => by omega) fit (fun l n z => by rw [z] at nc; cases nc) d
  have ea : aftR r (mkR s st) = nxR (mkR s st) := by unfold aftR; rw [nc]; rfl
  rw [ea] at o
  refine ⟨o, ⟨rfl, h.by_, h.fl, h.f8, pl, ?_, ?_, fun c mc => ?_, fun c mc => ?_, un_snoc h.un un⟩⟩
  · show s.made ++ [_] = _
    rw [h.made, List.map_append]
    rfl
  · rw [List.length_append]
    show es.length + 1 ≤ _
    omega
  · rcases List.mem_append.mp mc with z | z
    · exact h.ok c z
    · rw [List.mem_singleton.mp z]
      refine ⟨bd, fun z => ⟨cut z, ?_⟩⟩
      show Bd 40 (sdR s)
      unfold sdR
      split
      · exact sb.neg.mono (by decide)
      · exact sb.mono (by decide)
  · rcases List.mem_append.mp mc with z | z
    · exact h.gd c z
    · rw [List.mem_singleton.mp z]
      intro hl
      unfold Ec.isLed at hl
      rw [Bool.and_eq_true] at hl
      refine gd (by have := hl.1; cases q : st.isHop with
        | false => rfl
        | true => rw [show (Ec.mk ⟨st, s.pace, sdR s, s.trail⟩ r0 u v).e.st.isHop = true from q] at this; cases this) fun z => ?_
      have h2 := hl.2
      rw [show (Ec.mk ⟨st, s.pace, sdR s, s.trail⟩ r0 u v).e.side = 0 from z] at h2
      exact absurd h2 (by decide)
/-! ### rows -/
theorem num_i {i : Int} (h : i.natAbs ≤ 9999) : NumOk (i : Rat) := ⟨by rw [Rat.num_intCast]; exact h, by rw [Rat.den_intCast]; decide⟩
def RcM : Rc → Prop
  | .hop x y => ∃ i j : Int, x = some (i : Rat) ∧ y = some (j : Rat) ∧ i.natAbs ≤ 9 ∧ j.natAbs ≤ 9
  | .run p q l => HdS p q ∧ ∃ k : Int, l = (k : Rat) ∧ 1 ≤ k ∧ k ≤ 38
  | .arc _ x y p q => x = some 0 ∧ (∃ k : Int, y = some (k : Rat) ∧ 1 ≤ k ∧ k ≤ 9) ∧ HdS p q
  | .mode b => b = true
  | .pace g => 0 ≤ g ∧ g ≤ 9
  | .frame f => f = .flip
  | _ => False
theorem RcM.pl {r : Rc} (h : RcM r) : RcW r ∧ r.plain = true ∧ r.isCall = false ∧ r.isPiece = false ∧ r.isEnd = false := by
  cases r with
  | hop x y =>
    obtain ⟨i, j, rfl, rfl, hi, hj⟩ := h
    exact ⟨⟨num_i (by omega), num_i (by omega)⟩, rfl, rfl, rfl, rfl⟩
  | run p q l =>
    obtain ⟨h1, k, rfl, k1, k2⟩ := h
    exact ⟨⟨h1.w, num_i (by omega), Rat.intCast_pos.mpr (by omega)⟩, rfl, rfl, rfl, rfl⟩
  | arc left x y p q =>
    obtain ⟨rfl, ⟨k, rfl, k1, k2⟩, h1⟩ := h
    exact ⟨⟨⟨num_i (i := 0) (by decide), num_i (by omega)⟩, h1.w⟩, rfl, rfl, rfl, rfl⟩
  | mode b => exact ⟨trivial, rfl, rfl, rfl, rfl⟩
  | pace g => exact ⟨h, rfl, rfl, rfl, rfl⟩
  | frame f => cases h; exact ⟨trivial, rfl, rfl, rfl, rfl⟩
  | cut x y => exact h.elim
  | side u => exact h.elim
  | back => exact h.elim
  | piece l => exact h.elim
  | end_ => exact h.elim
  | call l n => exact h.elim
theorem Mi.spot {m : Nat} {es : List Ec} {s : Rn} (h : Mi m es s) (x y : Rat) : spotR s (some x) (some y) = (s.place.1 + (fl2 s.fs (x, y)).1, s.place.2 + (fl2 s.fs (x, y)).2) := by
  unfold spotR
  rw [h.by_, if_pos rfl, led_flips _ h.fl]
  rfl
theorem Mi.runV {m : Nat} {es : List Ec} {s : Rn} (h : Mi m es s) (p q : Int) (l : Rat) : runE s p q l = (s.place.1 + (fl2 s.fs (hdc p q, hds p q)).1 * l, s.place.2 + (fl2 s.fs (hdc p q, hds p q)).2 * l) := by
  unfold DR.runE
  rw [led_flips _ h.fl]
theorem fl2_dt (fs : List Fr) (v : Rat × Rat) : dt (fl2 fs v) (fl2 fs v) = dt v v := by
  unfold fl2 dt
  cases abB fs
  · rfl
  · show v.1 * v.1 + -v.2 * -v.2 = _
    grind
/-- a line by a heading -/
theorem Mi.line {m : Nat} {es : List Ec} {s : Rn} (h : Mi m es s) (hm : m < 60) {p q k : Int} (hh : HdS p q) (k1 : 1 ≤ k) (k2 : k ≤ 38) :
    CutG (.line s.place (runE s p q (k : Rat))) (k : Rat) (fl2 s.fs (hdc p q, hds p q)) (fl2 s.fs (hdc p q, hds p q)) ∧ InD 5 (200 * (m + 1)) (runE s p q (k : Rat)) := by
  have w := ((ind_hd hh).fl2 s.fs)
  have pl : InD 5 (200 * (m + 1)) (runE s p q (k : Rat)) := by
    rw [h.runV]
    exact h.off (w.timesI (k := 38) (by omega)) (by decide)
  have b2 := bd2_of (ind_bc pl (by omega)) (show 14 ≤ 400 by decide)
  have b1 := bd2_of (h.bc (by omega)) (show 14 ≤ 400 by decide)
  have one : dt (fl2 s.fs (hdc p q, hds p q)) (fl2 s.fs (hdc p q, hds p q)) = 1 := by
    rw [fl2_dt]
    exact hd_one hh.1
  have ub : Bd2 40 (fl2 s.fs (hdc p q, hds p q)) := bd2_of (w.bc (n := 3) (by decide) (by decide) (by decide)) (by decide)
  exact ⟨⟨Rat.intCast_pos.mpr (by omega), one, one, ⟨rfl, h.runV p q _⟩, ⟨b1, b2⟩, (Bd.int (n := 6) (by omega) (by decide)).mono (by decide), ub, ub⟩, pl⟩
theorem J0.sd0 {es : List Ec} {s : Rn} (j : J0 es s) : sdR s = 0 := by
  unfold sdR
  rw [j.sd]
  split
  · exact (by decide : -(0 : Rat) = 0)
  · rfl
/-- an arc, its centre straight ahead -/
theorem Mi.arcG {m : Nat} {es : List Ec} {s : Rn} (h : Mi m es s) (hm : m < 60) {left : Bool} {p q k : Int} (hh : HdS p q) (k1 : 1 ≤ k) (k2 : k ≤ 9) :
    let c := spotR s (some 0) (some (k : Rat))
    let w := arcW left s.fs
    let g : Rat := if abB s.fs then -1 else 1
    InD 5 (200 * (m + 1)) c ∧ farP c s.place = true ∧ InD 5 (200 * (m + 1)) (arcE s c w p q) ∧
      CutG (.arc s.place (arcE s c w p q) c w) (k : Rat) (g * (w : Rat), 0) (g * (w : Rat) * hdc (w * p) q, g * (w : Rat) * hds (w * p) q) := by
  intro c w g
  have hw : w = 1 ∨ w = -1 := arcW_pm _ _
  have ww := w_sq1 hw
  have gg : g * g = 1 := by
    show (if abB s.fs then (-1 : Rat) else 1) * (if abB s.fs then (-1 : Rat) else 1) = 1
    split <;> grind
  have kp : (0 : Rat) < (k : Rat) := Rat.intCast_pos.mpr (by omega)
  have ec : c = (s.place.1, s.place.2 + g * (k : Rat)) := by
    show spotR s (some 0) (some (k : Rat)) = _
    rw [h.spot]
    refine Prod.ext ?_ ?_
    · show s.place.1 + 0 = s.place.1
      grind
    · show s.place.2 + (if abB s.fs then -(k : Rat) else (k : Rat)) = s.place.2 + (if abB s.fs then (-1 : Rat) else 1) * (k : Rat)
      split <;> grind
  have hh' : HdS (w * p) q := by
    obtain ⟨h0, h1, h2⟩ := hh
    rcases hw with e | e
    · rw [e]; exact ⟨by omega, by omega, h2⟩
    · rw [e]; exact ⟨by omega, by omega, h2⟩
  have one := hd_one hh'.1
  have eE : arcE s c w p q = (s.place.1 + g * (k : Rat) * hds (w * p) q, s.place.2 + g * (k : Rat) * (1 - hdc (w * p) q)) := by
    unfold arcE
    rw [ec]
    refine Prod.ext ?_ ?_
    · simp only
      grind
    · simp only
      grind
  have i1 : InD 5 45 (0, g * (k : Rat)) := by
    have a := ((ind_int (i := 0) (j := k) (M := 9) (by decide) (by omega)).fl2 s.fs).scale (k := 5) (by decide) (by decide)
    have e : fl2 s.fs (((0 : Int) : Rat), (k : Rat)) = (0, g * (k : Rat)) := by
      refine Prod.ext rfl ?_
      show (if abB s.fs then -(k : Rat) else (k : Rat)) = (if abB s.fs then (-1 : Rat) else 1) * (k : Rat)
      split <;> grind
    rw [e] at a
    exact a
  have ic : InD 5 (200 * (m + 1)) c := by
    rw [ec]
    have := h.off i1 (by decide)
    rw [show s.place.1 + (0 : Rat) = s.place.1 by grind] at this
    exact this
  have i2 : InD 5 45 (g * (k : Rat) * hds (w * p) q, g * (k : Rat) * -hdc (w * p) q) := by
    obtain ⟨a, b, e1, e2, b1, b2⟩ := fifths_of hh'.1 hh'.2.1 hh'.2.2
    have v : InD 5 5 (hds (w * p) q, -hdc (w * p) q) := ⟨b, -a, e2, by show -hdc (w * p) q = _; rw [e1, dI_neg]; rfl, b2, by omega⟩
    have x := v.timesI (i := (if abB s.fs then -k else k)) (k := 9) (by split <;> omega)
    have eg : (((if abB s.fs then -k else k : Int)) : Rat) = g * (k : Rat) := by
      show _ = (if abB s.fs then (-1 : Rat) else 1) * (k : Rat)
      split
      · rw [Rat.intCast_neg]; grind
      · grind
    rw [eg] at x
    simp only at x
    rw [show hds (w * p) q * (g * (k : Rat)) = g * (k : Rat) * hds (w * p) q by grind, show -hdc (w * p) q * (g * (k : Rat)) = g * (k : Rat) * -hdc (w * p) q by grind] at x
    exact x
  have iE : InD 5 (200 * (m + 1)) (arcE s c w p q) := by
    rw [eE]
    have := h.off (i1.add (by decide) i2) (by decide)
    simp only at this
    rw [show s.place.1 + (0 + g * (k : Rat) * hds (w * p) q) = s.place.1 + g * (k : Rat) * hds (w * p) q by grind, show s.place.2 + (g * (k : Rat) + g * (k : Rat) * -hdc (w * p) q) = s.place.2 + g * (k : Rat) * (1 - hdc (w * p) q) by grind] at this
    exact this
  have dc : dt (sb2 c s.place) (sb2 c s.place) = (k : Rat) * (k : Rat) := by
    rw [ec]
    unfold dt sb2
    simp only
    have : (g * (k : Rat)) * (g * (k : Rat)) = g * g * ((k : Rat) * (k : Rat)) := by grind
    rw [show (s.place.1 - s.place.1) * (s.place.1 - s.place.1) + (s.place.2 + g * (k : Rat) - s.place.2) * (s.place.2 + g * (k : Rat) - s.place.2) = (g * (k : Rat)) * (g * (k : Rat)) by grind, this, gg, Rat.one_mul]
  have far : farP c s.place = true := by
    unfold farP farB
    rw [dc, rt_of (Rat.le_of_lt kp) rfl]
    show (!decide ((k : Rat) = 0)) = true
    rw [decide_eq_false (fun z => by rw [z] at kp; exact absurd kp (by decide))]
    rfl
  have g2 : Bd 2 g := by
    show Bd 2 (if abB s.fs then (-1 : Rat) else 1)
    split <;> exact ⟨by decide, by decide⟩
  have hv := (ind_hd hh').bc (n := 3) (by decide) (by decide) (by decide)
  have bv := bd2_of hv (Nat.le_refl 3)
  have bw : Bd 2 (w : Rat) := w_bd hw
  have z1 : Bd 2 (0 : Rat) := ⟨by decide, by decide⟩
  refine ⟨ic, far, iE, ⟨kp, ?_, ?_, ⟨hw, ?_, ?_⟩, ⟨bd2_of (h.bc (by omega)) (by decide), bd2_of (ind_bc iE (by omega)) (by decide), bd2_of (ind_bc ic (by omega)) (by decide)⟩, (Bd.int (n := 4) (by omega) (by decide)).mono (by decide), ⟨(g2.mul bw).mono (by decide), z1.mono (by decide)⟩, ⟨((g2.mul bw).mul bv.1).mono (by decide), ((g2.mul bw).mul bv.2).mono (by decide)⟩⟩⟩
  · show g * (w : Rat) * (g * (w : Rat)) + 0 * 0 = 1
    rw [show g * (w : Rat) * (g * (w : Rat)) + 0 * 0 = g * g * ((w : Rat) * (w : Rat)) by grind, gg, ww, Rat.mul_one]
  · show g * (w : Rat) * hdc (w * p) q * (g * (w : Rat) * hdc (w * p) q) + g * (w : Rat) * hds (w * p) q * (g * (w : Rat) * hds (w * p) q) = 1
    generalize hdc (w * p) q = x at *
    generalize hds (w * p) q = y at *
    rw [show g * (w : Rat) * x * (g * (w : Rat) * x) + g * (w : Rat) * y * (g * (w : Rat) * y) = g * g * ((w : Rat) * (w : Rat)) * (x * x + y * y) by grind, gg, ww, one, Rat.mul_one, Rat.mul_one]
  · rw [ec]
    refine Prod.ext ?_ ?_
    · show s.place.1 = s.place.1 + (w : Rat) * 0 * (k : Rat)
      grind
    · show s.place.2 = s.place.2 + g * (k : Rat) - (w : Rat) * (g * (w : Rat)) * (k : Rat)
      rw [show (w : Rat) * (g * (w : Rat)) * (k : Rat) = (w : Rat) * (w : Rat) * (g * (k : Rat)) by grind, ww]
      grind
  · rw [eE, ec]
    generalize hdc (w * p) q = x at *
    generalize hds (w * p) q = y at *
    refine Prod.ext ?_ ?_
    · show s.place.1 + g * (k : Rat) * y = s.place.1 + (w : Rat) * (g * (w : Rat) * y) * (k : Rat)
      rw [show (w : Rat) * (g * (w : Rat) * y) * (k : Rat) = (w : Rat) * (w : Rat) * (g * (k : Rat) * y) by grind, ww]
      grind
    · show s.place.2 + g * (k : Rat) * (1 - x) = s.place.2 + g * (k : Rat) - (w : Rat) * (g * (w : Rat) * x) * (k : Rat)
      rw [show (w : Rat) * (g * (w : Rat) * x) * (k : Rat) = (w : Rat) * (w : Rat) * (g * (k : Rat) * x) by grind, ww]
      grind
/-! ### rows done -/
/-- what a row leaves as it is -/
structure Nw (s t : Rn) (k : Nat) : Prop where
  row : t.row = s.row + k
  out : t.out = s.out
  fout : t.fout = s.fout
  many : t.many = s.many + k
theorem Nw.trans {s t u : Rn} {j k : Nat} (h : Nw s t j) (g : Nw t u k) : Nw s u (j + k) := ⟨by rw [g.row, h.row]; omega, g.out.trans h.out, g.fout.trans h.fout, by rw [g.many, h.many]; omega⟩
/-- a row that makes nothing -/
theorem Mi.quiet {rs : List Rc} {m : Nat} {es : List Ec} {s t : Rn} {r : Rc} (h : Mi m es s) (hn : s.many < 1990) (e : rs[s.row]? = some r) (np : r.plain = true) (nc : r.isCall = false) (ns : r.isStep = false) (fit : Fit s r) (d : deedR rs s r = .ok t) (ht : t.place = s.place ∧ t.by_ = true ∧ t.made = s.made ∧ t.row = s.row ∧ t.out = s.out ∧ t.fout = s.fout ∧ t.many = s.many) (fl : ∀ f ∈ t.fs, f = .flip) (f8 : t.fs.length ≤ 8) :
    Rch rs s (nxR t) ∧ Mi (m + 1) es (nxR t) ∧ Nw s (nxR t) 1 := by
  obtain ⟨t1, t2, t3, t4, t5, t6, t7⟩ := ht
  have hl := h.len
  have o := Rch.one (s := s) e np (by omega) (fun z => by rw [ns] at z; cases z) fit (fun l n z => by rw [z] at nc; cases nc) d
  have ea : aftR r t = nxR t := by unfold aftR; rw [nc]; rfl
  rw [ea] at o
  exact ⟨o, ⟨rfl, t2, fl, f8, by show InD 5 _ t.place; rw [t1]; exact h.pl.mono (by omega), t3.trans h.made, by omega, h.ok, h.gd, h.un⟩, ⟨by show t.row + 1 = _; rw [t4], t5, t6, by show t.many + 1 = _; rw [t7]⟩⟩
theorem nw_mk (s : Rn) (st : Stp) : Nw s (nxR (mkR s st)) 1 := ⟨rfl, rfl, rfl, rfl⟩
theorem Mi.hop {rs : List Rc} {m : Nat} {es : List Ec} {s : Rn} (h : Mi m es s) (sb : Bd 20 s.side) (hm : m < 60) (hn : s.many < 1990) {i j : Int} (hi : i.natAbs ≤ 9) (hj : j.natAbs ≤ 9) (e : rs[s.row]? = some (.hop (some (i : Rat)) (some (j : Rat)))) :
    ∃ t c, Rch rs s t ∧ Mi (m + 1) (es ++ [c]) t ∧ c.e.st.isHop = true ∧ Nw s t 1 ∧ t.side = s.side ∧ t.fs = s.fs := by
  have v : InD 5 45 (fl2 s.fs ((i : Rat), (j : Rat))) := ((ind_int (M := 9) hi hj).fl2 s.fs).scale (k := 5) (by decide) (by decide)
  have pl : InD 5 (200 * (m + 1)) (spotR s (some (i : Rat)) (some (j : Rat))) := by
    rw [h.spot]
    exact h.off v (by decide)
  have bd : (Stp.hop s.place (spotR s (some (i : Rat)) (some (j : Rat)))).bd := ⟨bd2_of (h.bc (by omega)) (by decide), bd2_of (ind_bc pl (by omega)) (by decide)⟩
  obtain ⟨a, b⟩ := h.more (st := .hop s.place (spotR s (some (i : Rat)) (some (j : Rat)))) (r0 := 0) (u := (0, 0)) (v := (0, 0)) hm hn e rfl rfl (h.so (by omega)) rfl bd (fun z => nomatch z) sb pl (fun z => nomatch z) (.inl rfl)
  exact ⟨_, _, a, b, rfl, nw_mk _ _, rfl, rfl⟩
theorem Mi.run {rs : List Rc} {m : Nat} {es : List Ec} {s : Rn} (h : Mi m es s) (sb : Bd 20 s.side) (hm : m < 60) (hn : s.many < 1990) {p q k : Int} (hh : HdS p q) (k1 : 1 ≤ k) (k2 : k ≤ 38) (e : rs[s.row]? = some (.run p q (k : Rat))) (gd : sdR s ≠ 0 → HdL (fl2 s.fs (hdc p q, hds p q)) ∧ (-3 ≤ sdR s ∧ sdR s ≤ 3) ∧ 30 ≤ k)
    (un : (es = [] → sdR s = 0) ∧ ∀ p, es.getLast? = some p → p.e.st.isHop = true ∨ p.e.side = sdR s) : ∃ t c, Rch rs s t ∧ Mi (m + 1) (es ++ [c]) t ∧ c.e.side = sdR s ∧ Nw s t 1 ∧ t.side = s.side ∧ t.fs = s.fs := by
  obtain ⟨g, pl⟩ := h.line hm hh k1 k2
  have pb := bd2_of (h.bc (by omega)) (show 14 ≤ 1900 by decide)
  obtain ⟨a, b⟩ := h.more (st := .line s.place (runE s p q (k : Rat))) (r0 := (k : Rat)) (u := fl2 s.fs (hdc p q, hds p q)) (v := fl2 s.fs (hdc p q, hds p q)) hm hn e rfl rfl pb rfl g.bd (fun _ => g) sb pl (fun _ z => ⟨rfl, (gd z).1, (gd z).1, (gd z).2.1, by
    show (30 : Rat) ≤ (k : Rat)
    have := (gd z).2.2
    exact Rat.intCast_le_intCast.mpr this⟩) (.inr un)
  exact ⟨_, _, a, b, rfl, nw_mk _ _, rfl, rfl⟩
theorem last_snoc {es : List Ec} {c : Ec} {P : Ec → Prop} (h : P c) : ∀ p, (es ++ [c]).getLast? = some p → P p := fun p e => by
  rw [List.getLast?_concat] at e
  cases e
  exact h
theorem J0.snoc {es : List Ec} {s t : Rn} {c : Ec} (j : J0 es s) (ts : t.side = s.side) (h : c.e.st.isHop = true ∨ c.e.side = 0) : J0 (es ++ [c]) t := ⟨ts.trans j.sd, last_snoc h⟩
theorem J0.same {es : List Ec} {s t : Rn} (j : J0 es s) (ts : t.side = s.side) : J0 es t := ⟨ts.trans j.sd, j.last⟩
theorem J0.un {es : List Ec} {s : Rn} (j : J0 es s) : (es = [] → sdR s = 0) ∧ ∀ p, es.getLast? = some p → p.e.st.isHop = true ∨ p.e.side = sdR s := ⟨fun _ => j.sd0, fun p e => by rw [j.sd0]; exact j.last p e⟩
theorem J0.sb {es : List Ec} {s : Rn} (j : J0 es s) : Bd 20 s.side := by rw [j.sd]; exact bd_zero.mono (by decide)
/-- a row -/
theorem Mi.row {rs : List Rc} {m : Nat} {es : List Ec} {s : Rn} {r : Rc} (h : Mi m es s) (j : J0 es s) (hr : RcM r) (hm : m < 60) (hn : s.many < 1990) (hf : s.fs.length + frn r ≤ 8) (e : rs[s.row]? = some r) :
    ∃ t es', Rch rs s t ∧ Mi (m + 1) es' t ∧ J0 es' t ∧ Nw s t 1 ∧ t.fs.length ≤ s.fs.length + frn r := by
  cases r with
  | hop x y =>
    obtain ⟨i, k, rfl, rfl, hi, hk⟩ := hr
    obtain ⟨t, c, a, b, c1, nw, ts, tf⟩ := h.hop j.sb hm hn hi hk e
    exact ⟨t, _, a, b, j.snoc ts (.inl c1), nw, by rw [tf]; omega⟩
  | run p q l =>
    obtain ⟨hh, k, rfl, k1, k2⟩ := hr
    obtain ⟨t, c, a, b, c1, nw, ts, tf⟩ := h.run j.sb hm hn hh k1 k2 e (fun z => absurd j.sd0 z) j.un
    exact ⟨t, _, a, b, j.snoc ts (.inr (c1.trans j.sd0)), nw, by rw [tf]; omega⟩
  | arc left x y p q =>
    obtain ⟨rfl, ⟨k, rfl, k1, k2⟩, hh⟩ := hr
    obtain ⟨ic, far, iE, g⟩ := h.arcG hm (left := left) hh k1 k2
    have bc := (ind_bc ic (by omega)).mono (show 14 ≤ 900 by decide)
    obtain ⟨a, b⟩ := h.more (st := .arc s.place (arcE s (spotR s (some 0) (some (k : Rat))) (arcW left s.fs) p q) (spotR s (some 0) (some (k : Rat))) (arcW left s.fs)) hm hn e rfl rfl ⟨h.so (by omega), (h.bc (by omega)).mono (by decide), bc⟩ (if_pos far) g.bd (fun _ => g) j.sb iE (fun _ z => absurd j.sd0 z) (.inr j.un)
    exact ⟨_, _, a, b, j.snoc rfl (.inr j.sd0), nw_mk _ _, Nat.le_add_right _ _⟩
  | mode b =>
    cases hr
    obtain ⟨a, b, c⟩ := h.quiet (t := { s with by_ := true }) hn e rfl rfl rfl trivial rfl ⟨rfl, rfl, rfl, rfl, rfl, rfl, rfl⟩ h.fl h.f8
    exact ⟨_, es, a, b, j.same rfl, c, Nat.le_add_right _ _⟩
  | pace g =>
    obtain ⟨a, b, c⟩ := h.quiet (t := { s with pace := g }) hn e rfl rfl rfl trivial rfl ⟨rfl, h.by_, rfl, rfl, rfl, rfl, rfl⟩ h.fl h.f8
    exact ⟨_, es, a, b, j.same rfl, c, Nat.le_add_right _ _⟩
  | frame f =>
    cases hr
    have hf : s.fs.length + 1 ≤ 8 := hf
    have efs : ({ s with fl := s.fl ++ [Fr.flip] } : Rn).fs = s.fs ++ [.flip] := by
      rw [fs_eq, fs_eq s]
      show s.fout.reverse.flatten ++ (s.fl ++ [Fr.flip]) = _
      rw [List.append_assoc]
    obtain ⟨a, b, c⟩ := h.quiet (t := { s with fl := s.fl ++ [.flip] }) hn e rfl rfl rfl trivial (if_neg (by omega)) ⟨rfl, h.by_, rfl, rfl, rfl, rfl, rfl⟩ (fun f m => by
      rw [efs] at m
      rcases List.mem_append.mp m with z | z
      · exact h.fl f z
      · exact List.mem_singleton.mp z) (by rw [efs, List.length_append]; exact hf)
    refine ⟨_, es, a, b, j.same rfl, c, ?_⟩
    show ({ s with fl := s.fl ++ [Fr.flip] } : Rn).fs.length ≤ s.fs.length + 1
    rw [efs, List.length_append]
    exact Nat.le_refl _
  | cut x y => exact hr.elim
  | side u => exact hr.elim
  | back => exact hr.elim
  | piece l => exact hr.elim
  | end_ => exact hr.elim
  | call l n => exact hr.elim
theorem Mi.rows {rs : List Rc} : ∀ {body : List Rc} {m : Nat} {es : List Ec} {s : Rn}, Mi m es s → J0 es s → (∀ r ∈ body, RcM r) → m + body.length ≤ 60 → s.many + body.length ≤ 1990 → s.fs.length + frns body ≤ 8 → (∀ i, i < body.length → rs[s.row + i]? = body[i]?) →
    ∃ t es', Rch rs s t ∧ Mi (m + body.length) es' t ∧ J0 es' t ∧ Nw s t body.length ∧ t.fs.length ≤ s.fs.length + frns body
  | [], m, es, s, h, j, _, _, _, _, _ => ⟨s, es, .refl s, h, j, ⟨rfl, rfl, rfl, rfl⟩, Nat.le_refl _⟩
  | r :: body, m, es, s, h, j, hr, hm, hn, hf, hp => by
    rw [List.length_cons] at hm hn
    have ef : frns (r :: body) = frn r + frns body := rfl
    rw [ef] at hf
    have e0 := hp 0 (by rw [List.length_cons]; omega)
    rw [Nat.add_zero] at e0
    obtain ⟨t, es1, a, b, c, d, f⟩ := h.row j (hr r List.mem_cons_self) (by omega) (by omega) (by omega) (e0.trans rfl)
    obtain ⟨u, es2, a2, b2, c2, d2, f2⟩ := Mi.rows (body := body) b c (fun q mq => hr q (List.mem_cons_of_mem _ mq)) (by omega) (by rw [d.many]; omega) (by omega) (fun i hi => by
      have := hp (i + 1) (by rw [List.length_cons]; omega)
      rw [d.row, show s.row + 1 + i = s.row + (i + 1) by omega, this]
      rfl)
    refine ⟨u, es2, a.trans a2, ?_, c2, ?_, by rw [ef]; omega⟩
    · rw [List.length_cons, show m + (body.length + 1) = m + 1 + body.length by omega]
      exact b2
    · rw [List.length_cons, Nat.add_comm]
      exact d.trans d2
/-! ### a contour -/
def contR (i j : Int) (u : Rat) (ls : List (Int × Int)) (k : Int) : List Rc := [.hop (some (i : Rat)) (some (j : Rat)), .side u] ++ ls.map (fun z => .run z.1 2 (z.2 : Rat)) ++ [.side 0, .hop (some (k : Rat)) (some 0)]
structure CtOk (i j : Int) (u : Rat) (ls : List (Int × Int)) (k : Int) : Prop where
  i9 : i.natAbs ≤ 9
  j9 : j.natAbs ≤ 9
  k9 : k.natAbs ≤ 9
  u3 : -3 ≤ u ∧ u ≤ 3
  un : NumOk u
  lz : ∀ z ∈ ls, z.1.natAbs ≤ 1 ∧ 30 ≤ z.2 ∧ z.2 ≤ 38
  l4 : ls.length ≤ 4
theorem contR_len (i j : Int) (u : Rat) (ls : List (Int × Int)) (k : Int) : (contR i j u ls k).length = ls.length + 4 := by
  unfold contR
  rw [List.length_append, List.length_append, List.length_map]
  show 2 + ls.length + 2 = _
  omega
theorem hdL_of (fs : List Fr) {p : Int} (h : p.natAbs ≤ 1) : HdL (fl2 fs (hdc p 2, hds p 2)) := by
  unfold fl2
  rcases (show p = -1 ∨ p = 0 ∨ p = 1 by omega) with rfl | rfl | rfl
  · rw [show hdc (-1) 2 = 3 / 5 by decide +kernel, show hds (-1) 2 = -(4 / 5) by decide +kernel]
    cases abB fs
    · exact .inr (.inr rfl)
    · exact .inr (.inl (Prod.ext rfl (neg_neg_rat _)))
  · rw [show hdc 0 2 = 1 by decide +kernel, show hds 0 2 = 0 by decide +kernel]
    cases abB fs
    · exact .inl rfl
    · exact .inl (Prod.ext rfl (by decide : -(0 : Rat) = 0))
  · rw [show hdc 1 2 = 3 / 5 by decide +kernel, show hds 1 2 = 4 / 5 by decide +kernel]
    cases abB fs
    · exact .inr (.inl rfl)
    · exact .inr (.inr rfl)
theorem sdR_same {s t : Rn} (h : t.side = s.side) (f : t.fs = s.fs) : sdR t = sdR s := by unfold sdR; rw [h, f]
theorem Mi.runs {rs : List Rc} : ∀ {ls : List (Int × Int)} {m : Nat} {es : List Ec} {s : Rn}, Mi m es s → (-3 ≤ s.side ∧ s.side ≤ 3) → Bd 20 s.side → es ≠ [] → (∀ p, es.getLast? = some p → p.e.st.isHop = true ∨ p.e.side = sdR s) → (∀ z ∈ ls, z.1.natAbs ≤ 1 ∧ 30 ≤ z.2 ∧ z.2 ≤ 38) → m + ls.length ≤ 60 → s.many + ls.length ≤ 1990 →
    (∀ i, i < ls.length → rs[s.row + i]? = (ls.map fun z => Rc.run z.1 2 (z.2 : Rat))[i]?) → ∃ t es', Rch rs s t ∧ Mi (m + ls.length) es' t ∧ Nw s t ls.length ∧ t.fs = s.fs
  | [], m, es, s, h, _, _, _, _, _, _, _, _ => ⟨s, es, .refl s, h, ⟨rfl, rfl, rfl, rfl⟩, rfl⟩
  | z :: ls, m, es, s, h, s3, sb, ne, la, hz, hm, hn, hp => by
    rw [List.length_cons] at hm hn
    obtain ⟨z1, z2, z3⟩ := hz z List.mem_cons_self
    have e0 := hp 0 (by rw [List.length_cons]; omega)
    rw [Nat.add_zero] at e0
    have sd3 : -3 ≤ sdR s ∧ sdR s ≤ 3 := by
      obtain ⟨a, b⟩ := s3
      unfold sdR
      split <;> constructor <;> grind
    obtain ⟨t, c, a, b, c1, nw, ts, tf⟩ := h.run (p := z.1) (q := 2) (k := z.2) sb (by omega) (by omega) ⟨.inr (by decide), by omega, by decide⟩ (by omega) z3 (e0.trans rfl) (fun _ => ⟨hdL_of _ z1, sd3, z2⟩) ⟨fun q => absurd q ne, la⟩
    obtain ⟨u, es2, a2, b2, d2, f2⟩ := Mi.runs (ls := ls) b (by rw [ts]; exact s3) (by rw [ts]; exact sb) (by simp) (last_snoc (.inr (by rw [c1, sdR_same ts tf]))) (fun q mq => hz q (List.mem_cons_of_mem _ mq)) (by omega) (by rw [nw.many]; omega) (fun i hi => by
      have := hp (i + 1) (by rw [List.length_cons]; omega)
      rw [nw.row, show s.row + 1 + i = s.row + (i + 1) by omega, this]
      rfl)
    refine ⟨u, es2, a.trans a2, ?_, ?_, f2.trans tf⟩
    · rw [List.length_cons, show m + (ls.length + 1) = m + 1 + ls.length by omega]
      exact b2
    · rw [List.length_cons, Nat.add_comm]
      exact nw.trans d2
theorem Mi.contour {rs : List Rc} {i j : Int} {u : Rat} {ls : List (Int × Int)} {k : Int} (ok : CtOk i j u ls k) {m : Nat} {es : List Ec} {s : Rn} (h : Mi m es s) (j0 : J0 es s) (hm : m + ls.length + 4 ≤ 60) (hn : s.many + ls.length + 4 ≤ 1990) (hp : ∀ a, a < (contR i j u ls k).length → rs[s.row + a]? = (contR i j u ls k)[a]?) :
    ∃ t es', Rch rs s t ∧ Mi (m + (ls.length + 4)) es' t ∧ J0 es' t ∧ Nw s t (ls.length + 4) ∧ t.fs = s.fs := by
  rw [contR_len] at hp
  have p0 := hp 0 (by omega)
  rw [Nat.add_zero] at p0
  obtain ⟨t1, c, a1, b1, c1, n1, s1, f1⟩ := h.hop (i := i) (j := j) j0.sb (by omega) (by omega) ok.i9 ok.j9 (p0.trans rfl)
  -- the side
  have p1 := hp 1 (by omega)
  have e1 : rs[t1.row]? = some (.side u) := by rw [n1.row, p1]; rfl
  obtain ⟨a2, b2, n2⟩ := b1.quiet (t := { t1 with side := u }) (by rw [n1.many]; omega) e1 rfl rfl rfl trivial rfl ⟨rfl, b1.by_, rfl, rfl, rfl, rfl, rfl⟩ b1.fl b1.f8
  -- the runs
  have ub : Bd 20 u := (num_bd ok.un).mono (by decide)
  obtain ⟨t3, es3, a3, b3, n3, f3⟩ := Mi.runs (rs := rs) (ls := ls) b2 (by exact ok.u3) (by exact ub) (by simp) (last_snoc (.inl c1)) ok.lz (by omega) (by rw [n2.many, n1.many]; omega) (fun x hx => by
    rw [n2.row, n1.row, show s.row + 1 + 1 + x = s.row + (x + 2) by omega, hp (x + 2) (by omega)]
    unfold contR
    rw [List.append_assoc, List.getElem?_append_right (by show 2 ≤ x + 2; omega), show x + 2 - ([Rc.hop (some (i : Rat)) (some (j : Rat)), Rc.side u] : List Rc).length = x from Nat.add_sub_cancel x 2, List.getElem?_append_left (by rw [List.length_map]; exact hx)])
  have f3' : t3.fs = s.fs := f3.trans f1
  -- the side 0
  have tl : ∀ x, x < 2 → rs[s.row + (ls.length + 2 + x)]? = ([Rc.side 0, .hop (some (k : Rat)) (some 0)])[x]? := fun x hx => by
    rw [hp (ls.length + 2 + x) (by omega)]
    unfold contR
    rw [List.append_assoc, List.getElem?_append_right (by show 2 ≤ _; omega), show ls.length + 2 + x - ([Rc.hop (some (i : Rat)) (some (j : Rat)), Rc.side u] : List Rc).length = ls.length + x by show ls.length + 2 + x - 2 = _; omega, List.getElem?_append_right (by rw [List.length_map]; omega), List.length_map, Nat.add_sub_cancel_left]
  have r3 : t3.row = s.row + (ls.length + 2) := by rw [n3.row, n2.row, n1.row]; omega
  have m3 : t3.many = s.many + (ls.length + 2) := by rw [n3.many, n2.many, n1.many]; omega
  have e3 : rs[t3.row]? = some (.side 0) := by rw [r3]; exact tl 0 (by decide)
  obtain ⟨a4, b4, n4⟩ := b3.quiet (t := { t3 with side := 0 }) (by omega) e3 rfl rfl rfl trivial rfl ⟨rfl, b3.by_, rfl, rfl, rfl, rfl, rfl⟩ b3.fl b3.f8
  -- the hop
  have e4 : rs[(nxR { t3 with side := 0 }).row]? = some (.hop (some (k : Rat)) (some ((0 : Int) : Rat))) := by
    rw [n4.row, r3, show s.row + (ls.length + 2) + 1 = s.row + (ls.length + 2 + 1) by omega]
    exact tl 1 (by decide)
  obtain ⟨t5, c5, a5, b5, c6, n5, s5, f5⟩ := b4.hop (show Bd 20 (0 : Rat) from bd_zero.mono (by decide)) (by omega) (by rw [n4.many, m3]; omega) ok.k9 (show (0 : Int).natAbs ≤ 9 by decide) e4
  refine ⟨t5, es3 ++ [c5], a1.trans (a2.trans (a3.trans (a4.trans a5))), ?_, ⟨s5.trans rfl, last_snoc (.inl c6)⟩, ?_, f5.trans f3'⟩
  · rw [show m + (ls.length + 4) = m + 1 + 1 + ls.length + 1 + 1 by omega]
    exact b5
  · rw [show ls.length + 4 = 1 + (1 + (ls.length + (1 + 1))) by omega]
    exact n1.trans (n2.trans (n3.trans (n4.trans n5)))
/-! ### rows and contours one behind another -/
inductive Seg : List Rc → Nat → Prop
  | rows {X : List Rc} : (∀ r ∈ X, RcM r) → Seg X (frns X)
  | cont {i j : Int} {u : Rat} {ls : List (Int × Int)} {k : Int} : CtOk i j u ls k → Seg (contR i j u ls k) 0
  | app {X Y : List Rc} {a b : Nat} : Seg X a → Seg Y b → Seg (X ++ Y) (a + b)
theorem cont_pl {i j : Int} {u : Rat} {ls : List (Int × Int)} {k : Int} (ok : CtOk i j u ls k) : ∀ r ∈ contR i j u ls k, RcW r ∧ r.plain = true ∧ r.isCall = false ∧ r.isPiece = false ∧ r.isEnd = false := fun r m => by
  have i9 := ok.i9
  have j9 := ok.j9
  have k9 := ok.k9
  unfold contR at m
  simp only [List.mem_append, List.mem_cons, List.not_mem_nil, or_false, List.mem_map] at m
  rcases m with ((rfl | rfl) | ⟨z, mz, rfl⟩) | (rfl | rfl)
  · exact RcM.pl (r := .hop (some (i : Rat)) (some (j : Rat))) ⟨i, j, rfl, rfl, i9, j9⟩
  · exact ⟨ok.un, rfl, rfl, rfl, rfl⟩
  · obtain ⟨z1, z2, z3⟩ := ok.lz z mz
    exact RcM.pl (r := .run z.1 2 (z.2 : Rat)) ⟨⟨.inr (by decide), by omega, by decide⟩, z.2, rfl, by omega, z3⟩
  · exact ⟨num_i (i := 0) (by decide), rfl, rfl, rfl, rfl⟩
  · exact RcM.pl (r := .hop (some (k : Rat)) (some 0)) ⟨k, 0, rfl, rfl, k9, by decide⟩
theorem Seg.pl {X : List Rc} {a : Nat} (h : Seg X a) : ∀ r ∈ X, RcW r ∧ r.plain = true ∧ r.isCall = false ∧ r.isPiece = false ∧ r.isEnd = false := by
  induction h with
  | rows h => exact fun r m => (h r m).pl
  | cont ok => exact cont_pl ok
  | app _ _ ia ib => exact fun r m => (List.mem_append.mp m).elim (ia r) (ib r)
theorem Seg.go {rs X : List Rc} {a : Nat} (h : Seg X a) : ∀ {m : Nat} {es : List Ec} {s : Rn}, Mi m es s → J0 es s → m + X.length ≤ 60 → s.many + X.length ≤ 1990 → s.fs.length + a ≤ 8 → (∀ i, i < X.length → rs[s.row + i]? = X[i]?) →
    ∃ t es', Rch rs s t ∧ Mi (m + X.length) es' t ∧ J0 es' t ∧ Nw s t X.length ∧ t.fs.length ≤ s.fs.length + a := by
  induction h with
  | rows h => exact fun g j hm hn hf hp => g.rows j h hm hn hf hp
  | cont ok =>
    intro m es s g j hm hn hf hp
    rw [contR_len] at hm hn ⊢
    obtain ⟨t, es', a, b, c, d, e⟩ := g.contour ok j (by omega) (by omega) hp
    exact ⟨t, es', a, b, c, d, by rw [e]; omega⟩
  | @app X Y a b _ _ ia ib =>
    intro m es s g j hm hn hf hp
    rw [List.length_append] at hm hn ⊢
    obtain ⟨t, es1, a1, b1, c1, d1, e1⟩ := ia g j (by omega) (by omega) (by omega) (fun i hi => by
      rw [hp i (by rw [List.length_append]; omega), List.getElem?_append_left hi])
    obtain ⟨u, es2, a2, b2, c2, d2, e2⟩ := ib b1 c1 (by omega) (by rw [d1.many]; omega) (by omega) (fun i hi => by
      rw [d1.row, show s.row + X.length + i = s.row + (X.length + i) by omega, hp (X.length + i) (by rw [List.length_append]; omega), List.getElem?_append_right (by omega), Nat.add_sub_cancel_left])
    exact ⟨u, es2, a1.trans a2, by rw [← Nat.add_assoc]; exact b2, c2, d1.trans d2, by omega⟩
/-- the first row: the mode by -/
theorem start_by {rs : List Rc} (h : rs[0]? = some (.mode true)) : ∃ s, Rch rs rn0 s ∧ Mi 1 [] s ∧ J0 [] s ∧ s.row = 1 ∧ s.out = [] ∧ s.fout = [] ∧ s.many = 1 ∧ s.fs = [] := by
  have o := Rch.one (rs := rs) (s := rn0) (r := .mode true) (t := { rn0 with by_ := true }) h rfl (by decide) (fun z => nomatch z) trivial (fun l n z => nomatch z) rfl
  refine ⟨nxR { rn0 with by_ := true }, o, ?_, ⟨rfl, fun c e => nomatch e⟩, rfl, rfl, rfl, rfl, rfl⟩
  exact ⟨rfl, rfl, fun f m => (nomatch m), Nat.zero_le _, InD.zero.mono (Nat.zero_le _), rfl, Nat.zero_le _, fun c m => (nomatch m), fun c m => (nomatch m), fun n hn => absurd hn (Nat.not_lt_zero n)⟩
/-! ### a piece's turns -/
theorem Mi.leave {m : Nat} {es : List Ec} {s u : Rn} {r t n b : Nat} {o : Tr} {f : List Fr} {fo : List (List Fr)} (h : Mi m es u) (j : J0 es u) (e : s.fs = fo.reverse.flatten ++ f) (hs : ∀ g ∈ s.fs, g = .flip) (hl : s.fs.length ≤ 8) : Mi m es (leaveR u r t n b o f fo) ∧ J0 es (leaveR u r t n b o f fo) ∧ (leaveR u r t n b o f fo).fs = s.fs ∧ (leaveR u r t n b o f fo).many = u.many := by
  have fe : (leaveR u r t n b o f fo).fs = s.fs := by rw [leave_fs, e]
  have q : (leaveR u r t n b o f fo).turn = 0 ∧ (leaveR u r t n b o f fo).place = u.place ∧ (leaveR u r t n b o f fo).made = u.made ∧ (leaveR u r t n b o f fo).side = u.side ∧ (leaveR u r t n b o f fo).by_ = u.by_ ∧ (leaveR u r t n b o f fo).many = u.many := by
    unfold leaveR
    split <;> exact ⟨rfl, rfl, rfl, rfl, rfl, rfl⟩
  obtain ⟨q1, q2, q3, q4, q5, q6⟩ := q
  exact ⟨⟨q1, by rw [q5]; exact h.by_, by rw [fe]; exact hs, by rw [fe]; exact hl, by rw [q2]; exact h.pl, by rw [q3]; exact h.made, h.len, h.ok, h.gd, h.un⟩, ⟨by rw [q4]; exact j.sd, j.last⟩, fe, q6⟩
theorem Mi.turns {rs inner : List Rc} {l : List Nat} {first cr n : Nat} (P : Pc20 rs inner l first) (hi : ∀ r ∈ inner, RcM r) (hc : rs[cr]? = some (.call l n)) :
    ∀ (j : Nat) {m t : Nat} {es : List Ec} {s : Rn} {o : Tr} {f : List Fr} {fo : List (List Fr)}, Mi m es s → J0 es s → m + (j + 1) * inner.length ≤ 60 → s.many + (j + 1) * inner.length ≤ 1990 → s.row = first → s.fl = [] → s.out = (cr, t) :: o → s.fout = f :: fo → t + j + 1 = n → s.fs.length + frns inner ≤ 8 →
      ∃ u es', Rch rs s u ∧ Mi (m + (j + 1) * inner.length) es' u ∧ J0 es' u ∧ u.row = cr + 1 ∧ u.out = o ∧ u.fout = fo ∧ u.fl = f ∧ u.many = s.many + (j + 1) * inner.length ∧ u.fs = s.fs := by
  intro j
  have turn : ∀ {m t : Nat} {es : List Ec} {s : Rn} {o : Tr} {f : List Fr} {fo : List (List Fr)}, Mi m es s → J0 es s → m + inner.length ≤ 60 → s.many + inner.length ≤ 1990 → s.row = first → s.fl = [] → s.out = (cr, t) :: o → s.fout = f :: fo → s.fs.length + frns inner ≤ 8 →
      ∃ u es', Rch rs s (leaveR u cr t n first o f fo) ∧ Mi (m + inner.length) es' (leaveR u cr t n first o f fo) ∧ J0 es' (leaveR u cr t n first o f fo) ∧ (leaveR u cr t n first o f fo).fs = s.fs ∧ (leaveR u cr t n first o f fo).many = s.many + inner.length := by
    intro m t es s o f fo h j0 hm hn h1 h2 h3 h4 h6
    have hB := fs_eq s
    rw [h2, List.append_nil] at hB
    have hB2 : s.fs = fo.reverse.flatten ++ f := by rw [hB, h4]; simp
    obtain ⟨u, es', a, b, c, d, e⟩ := h.rows j0 hi hm hn h6 (fun i hi => by rw [h1]; exact P.at_ i hi)
    have hr : u.row = first + inner.length := by rw [d.row, h1]
    have he : rs[u.row]? = some .end_ := by rw [hr]; exact P.en
    have ho : u.out = (cr, t) :: o := d.out.trans h3
    have hfo : u.fout = f :: fo := d.fout.trans h4
    have ne : ¬ AtEnd rs u := fun z => by have z := z.1; rw [ho] at z; exact nomatch z
    have lv := Rch.leave ne he ho hfo hc P.lk (.refl _)
    obtain ⟨l1, l2, l3, l4⟩ := b.leave (s := s) (r := cr) (t := t) (n := n) (b := first) (o := o) c hB2 h.fl h.f8
    exact ⟨u, es', a.trans lv, l1, l2, l3, by rw [l4, d.many]⟩
  induction j with
  | zero =>
    intro m t es s o f fo h j0 hm hn h1 h2 h3 h4 h5 h6
    rw [Nat.zero_add, Nat.one_mul] at hm hn ⊢
    obtain ⟨u, es', a, b, c, d, e⟩ := turn h j0 hm hn h1 h2 h3 h4 h6
    have q : leaveR u cr t n first o f fo = { u with out := o, row := cr + 1, turn := 0, fout := fo, fl := f } := if_neg (by omega)
    refine ⟨_, es', a, b, c, ?_, ?_, ?_, ?_, e, d⟩ <;> rw [q]
  | succ j ih =>
    intro m t es s o f fo h j0 hm hn h1 h2 h3 h4 h5 h6
    have el : (j + 1 + 1) * inner.length = inner.length + (j + 1) * inner.length := by rw [Nat.succ_mul, Nat.add_comm]
    rw [el] at hm hn ⊢
    obtain ⟨u, es', a, b, c, d, e⟩ := turn h j0 (by omega) (by omega) h1 h2 h3 h4 h6
    have q : leaveR u cr t n first o f fo = { u with out := (cr, t + 1) :: o, row := first, turn := 0, fout := f :: fo, fl := [] } := if_pos (by omega)
    obtain ⟨v, es2, a2, b2, c2, d2, e2, f2, g2, h2', i2⟩ := ih (t := t + 1) (o := o) (f := f) (fo := fo) b c (by omega) (by omega) (by rw [q]) (by rw [q]) (by rw [q]) (by rw [q]) (by omega) (by rw [d]; exact h6)
    exact ⟨v, es2, a.trans a2, by rw [← Nat.add_assoc]; exact b2, c2, d2, e2, f2, g2, by rw [h2', e]; omega, i2.trans d⟩
/-! ### whole programs -/
inductive PrM : List Rc → Prop
  | flat {X : List Rc} {a : Nat} : Seg X a → a ≤ 8 → X.length ≤ 40 → PrM (.mode true :: X)
  | one {X inner T : List Rc} {a n : Nat} : Seg X a → (∀ r ∈ inner, RcM r) → (∀ r ∈ T, RcM r) → a + frns inner ≤ 8 → a + frns T ≤ 8 → 1 ≤ n ∧ n ≤ 3 → X.length ≤ 20 → inner.length ≤ 2 → T.length ≤ 8 → PrM (.mode true :: X ++ [.call P0 n] ++ pc0 P0 inner ++ T)
/-- its road's entries can be led -/
structure RoadG (rs : List Rc) (t : Rn) (es : List Ec) : Prop where
  pr : PrOk (rs.map Rc.w)
  run : Runs rs (.ok t)
  made : t.made = es.map (·.e)
  ok : ∀ c ∈ es, c.ok
  len : es.length ≤ 60
  wrong : wrongZ es (ledLs es) = []
theorem Mi.road {rs : List Rc} {t : Rn} {es : List Ec} {m : Nat} (pr : PrOk (rs.map Rc.w)) (r : Rch rs rn0 t) (h : Mi m es t) (hm : m ≤ 60) (e : AtEnd rs t) : RoadG rs t es := ⟨pr, r.runsE e, h.made, h.ok, by have := h.len; omega, not_wrong h.un h.gd⟩
theorem PrM.road {rs : List Rc} (h : PrM rs) : rs.length ≤ 60 ∧ (∀ r ∈ rs, RcW r) ∧ ∃ t es, RoadG rs t es := by
  cases h with
  | @flat X a hX ha hl =>
    have pl : ∀ r ∈ Rc.mode true :: X, RcW r ∧ r.plain = true ∧ r.isCall = false := fun r m => by
      rcases List.mem_cons.mp m with rfl | m
      · exact ⟨trivial, rfl, rfl⟩
      · exact ⟨(hX.pl r m).1, (hX.pl r m).2.1, (hX.pl r m).2.2.1⟩
    refine ⟨by rw [List.length_cons]; omega, fun r m => (pl r m).1, ?_⟩
    obtain ⟨s, s1, s2, s3, s4, s5, s6, s7, s8⟩ := start_by (rs := .mode true :: X) rfl
    obtain ⟨t, es, a1, b, c, d, e⟩ := hX.go (rs := .mode true :: X) s2 s3 (by omega) (by omega) (by rw [s8]; show 0 + a ≤ 8; omega) (fun i _ => by rw [s4, Nat.add_comm]; rfl)
    refine ⟨t, es, Mi.road (pr_flat pl (by rw [List.length_cons]; omega)) (s1.trans a1) b (by omega) ⟨d.out.trans s5, ?_⟩⟩
    rw [d.row, s4, List.length_cons]
    omega
  | @one X inner T a n hX hI hT ha hb hn lX lI lT =>
    have lA : (Rc.mode true :: X ++ [Rc.call P0 n]).length = X.length + 2 := by rw [List.length_append]; rfl
    have pA : ∀ r ∈ Rc.mode true :: X ++ [Rc.call P0 n], RcW r ∧ r.plain = true ∧ r.isPiece = false ∧ ∀ q k, r = .call q k → q = P0 := fun r m => by
      rcases List.mem_append.mp m with m | m
      · rcases List.mem_cons.mp m with rfl | m
        · exact ⟨trivial, rfl, rfl, fun q k z => nomatch z⟩
        · have w := hX.pl r m
          exact ⟨w.1, w.2.1, w.2.2.2.1, fun q k z => by rw [z] at w; cases w.2.2.1⟩
      · rw [List.mem_singleton.mp m]
        exact ⟨⟨p0_ok, hn.1, by omega⟩, rfl, rfl, fun q k z => by cases z; rfl⟩
    have len : (Rc.mode true :: X ++ [Rc.call P0 n] ++ pc0 P0 inner ++ T).length = X.length + 2 + (inner.length + 2) + T.length := by rw [List.length_append, List.length_append, lA, pc0_len]
    have P := pc_gen (A := Rc.mode true :: X ++ [Rc.call P0 n]) (B := T) (inner := inner) (l := P0) (fun r m => (pA r m).2.2.1) (fun r m => (hT r m).pl.2.2.2.1) (fun r m => ⟨(hI r m).pl.2.2.2.1, (hI r m).pl.2.2.2.2⟩)
    have pr := pr_gen (A := Rc.mode true :: X ++ [Rc.call P0 n]) (B := T) (inner := inner) p0_ok (fun r m => ⟨(pA r m).1, (pA r m).2.1⟩) (fun r m => ⟨(hT r m).pl.1, (hT r m).pl.2.1⟩) (fun r m => ⟨(hI r m).pl.1, (hI r m).pl.2.1⟩) (fun r m q k z => by
      rcases List.mem_append.mp m with m | m
      · rcases List.mem_append.mp m with m | m
        · exact (pA r m).2.2.2 q k z
        · have w := (hI r m).pl
          rw [z] at w; cases w.2.2.1
      · have w := (hT r m).pl
        rw [z] at w; cases w.2.2.1) (by rw [lA]; omega)
    rw [lA] at P
    refine ⟨by rw [len]; omega, fun r m => ?_, ?_⟩
    · rcases List.mem_append.mp m with m | m
      · rcases List.mem_append.mp m with m | m
        · exact (pA r m).1
        · unfold pc0 at m
          simp only [List.mem_cons, List.mem_append, List.not_mem_nil, or_false] at m
          rcases m with rfl | m | rfl
          · exact p0_ok
          · exact (hI r m).pl.1
          · trivial
      · exact (hT r m).pl.1
    have g0 : ∀ i, i < X.length + 2 → (Rc.mode true :: X ++ [Rc.call P0 n] ++ pc0 P0 inner ++ T)[i]? = (Rc.mode true :: X ++ [Rc.call P0 n])[i]? := fun i hi => by
      rw [List.append_assoc, List.getElem?_append_left (by rw [lA]; exact hi)]
    have g1 : ∀ i, i < X.length → (Rc.mode true :: X ++ [Rc.call P0 n] ++ pc0 P0 inner ++ T)[1 + i]? = X[i]? := fun i hi => by
      rw [g0 _ (by omega), List.getElem?_append_left (by rw [List.length_cons]; omega), Nat.add_comm]
      rfl
    have g2 : (Rc.mode true :: X ++ [Rc.call P0 n] ++ pc0 P0 inner ++ T)[X.length + 1]? = some (.call P0 n) := by
      rw [g0 _ (by omega), List.getElem?_append_right (by rw [List.length_cons]; omega), List.length_cons, Nat.sub_self]
      rfl
    have g3 : (Rc.mode true :: X ++ [Rc.call P0 n] ++ pc0 P0 inner ++ T)[X.length + 2]? = some (.piece P0) := by
      rw [List.append_assoc, List.getElem?_append_right (by rw [lA]; exact Nat.le_refl _), lA, Nat.sub_self]
      rfl
    have g4 : ∀ i, i < T.length → (Rc.mode true :: X ++ [Rc.call P0 n] ++ pc0 P0 inner ++ T)[X.length + inner.length + 4 + i]? = T[i]? := fun i hi => by
      rw [List.getElem?_append_right (by rw [List.length_append, lA, pc0_len]; omega), List.length_append, lA, pc0_len, show X.length + inner.length + 4 + i - (X.length + 2 + (inner.length + 2)) = i by omega]
    have z0 : (Rc.mode true :: X ++ [Rc.call P0 n] ++ pc0 P0 inner ++ T)[0]? = some (.mode true) := rfl
    generalize hrs : Rc.mode true :: X ++ [Rc.call P0 n] ++ pc0 P0 inner ++ T = rs at *
    obtain ⟨s, s1, s2, s3, s4, s5, s6, s7, s8⟩ := start_by (rs := rs) z0
    have s8' : s.fs.length = 0 := by rw [s8]; rfl
    obtain ⟨t, es, a1, b1, c1, d1, e1⟩ := hX.go (rs := rs) s2 s3 (by omega) (by omega) (by omega) (fun i hi => by rw [s4]; exact g1 i hi)
    have t4 : t.row = X.length + 1 := by rw [d1.row, s4]; omega
    have t5 : t.out = [] := d1.out.trans s5
    have t6 : t.fout = [] := d1.fout.trans s6
    have t7 : t.many = X.length + 1 := by rw [d1.many, s7]; omega
    -- the call
    have ec : rs[t.row]? = some (.call P0 n) := by rw [t4]; exact g2
    have dd : deedR rs t (.call P0 n) = .ok (enterR t (X.length + 2 + 1)) := by
      show (if 8 ≤ t.out.length then _ else match lookP rs P0 with
        | some (b, _) => Except.ok (enterR t b)
        | none => .ok t) = _
      rw [t5, if_neg (by decide), P.lk]
    have oc := Rch.one (s := t) ec rfl (by omega) (fun z => nomatch z) trivial (fun l' k z => by cases z; rw [P.lk]; exact fun z => nomatch z) dd
    have ea : aftR (.call P0 n) (enterR t (X.length + 2 + 1)) = { enterR t (X.length + 2 + 1) with many := t.many + 1 } := rfl
    rw [ea] at oc
    have fe : ({ enterR t (X.length + 2 + 1) with many := t.many + 1 } : Rn).fs = t.fs := by
      rw [fs_eq, fs_eq]
      show (t.fl :: t.fout).reverse.flatten ++ [] = _
      simp
    have mi2 : Mi (1 + X.length) es { enterR t (X.length + 2 + 1) with many := t.many + 1 } := ⟨rfl, b1.by_, by rw [fe]; exact b1.fl, by rw [fe]; exact b1.f8, b1.pl, b1.made, b1.len, b1.ok, b1.gd, b1.un⟩
    obtain ⟨j, rfl⟩ : ∃ j, n = j + 1 := ⟨n - 1, by omega⟩
    have m2 : (j + 1) * inner.length ≤ 3 * 2 := Nat.mul_le_mul hn.2 lI
    obtain ⟨u, es2, a2, b2, c2, d2, e2, f2, h2, i2, j2⟩ := Mi.turns (rs := rs) P hI g2 j (t := 0) (o := []) (f := t.fl) (fo := t.fout) mi2 ⟨c1.sd, c1.last⟩ (by omega) (by show t.many + 1 + _ ≤ _; omega) rfl rfl (by show (t.row, t.turn) :: t.out = _; rw [t4, b1.tn, t5]) rfl (by omega) (by rw [fe]; omega)
    have i2 : u.many = t.many + 1 + (j + 1) * inner.length := i2
    have u7 : u.fs.length ≤ a := by rw [j2, fe]; omega
    -- over the piece
    have ep : rs[u.row]? = some (.piece P0) := by rw [d2]; exact g3
    have na : ¬ AtEnd rs u := fun z => by
      have := z.2
      rw [d2, len] at this
      omega
    have sk := Rch.skip na ep P.lk (.refl _)
    have mi3 : Mi (1 + X.length + (j + 1) * inner.length) es2 { u with row := X.length + 2 + 1 + inner.length + 1, turn := 0 } := ⟨rfl, b2.by_, b2.fl, b2.f8, b2.pl, b2.made, b2.len, b2.ok, b2.gd, b2.un⟩
    obtain ⟨v, es3, a3, b3, c3, d3, e3⟩ := mi3.rows (rs := rs) (show J0 es2 _ from ⟨c2.sd, c2.last⟩) hT (by omega) (by show u.many + _ ≤ _; omega) (show u.fs.length + frns T ≤ 8 by omega) (fun i hi => by
      show rs[X.length + 2 + 1 + inner.length + 1 + i]? = _
      rw [show X.length + 2 + 1 + inner.length + 1 + i = X.length + inner.length + 4 + i by omega]
      exact g4 i hi)
    refine ⟨v, es3, Mi.road pr (s1.trans (a1.trans (oc.trans (a2.trans (sk.trans a3))))) b3 (by omega) ⟨d3.out.trans e2, ?_⟩⟩
    rw [d3.row, len]
    show X.length + 2 + 1 + inner.length + 1 + T.length = _
    omega
end DR

/-! DGb: a mill, and the promises of its methods. -/
namespace DR
open PySem PySem.Spec L2 DL DM SX
/-! ### texts of places and steps -/
def plT (p : Rat × Rat) : List Nat := numT p.1 ++ 44 :: numT p.2
def leftT : List Nat := [108, 101, 102, 116]
def rightT : List Nat := [114, 105, 103, 104, 116]
def hopT : List Nat := [104, 111, 112]
def lineT : List Nat := [108, 105, 110, 101]
def stepT : Stp → List Nat
  | .hop _ f => hopT ++ 32 :: plT f
  | .line _ f => lineT ++ 32 :: plT f
  | .arc _ f c w => (if w = 1 then leftT else rightT) ++ 32 :: (plT c ++ 32 :: plT f)
/-- sizes of a way's steps -/
def StW : Stp → Prop
  | .hop b f => Bd2 1400 b ∧ Bd2 1400 f
  | .line b f => Bd2 1400 b ∧ Bd2 1400 f
  | .arc b f c w => Bd2 1400 b ∧ Bd2 1400 f ∧ Bd2 1400 c ∧ (w = 1 ∨ w = -1)
theorem StW.fin {st : Stp} (h : StW st) : Bd2 1400 st.fin := by
  cases st with
  | hop b f => exact h.2
  | line b f => exact h.2
  | arc b f c w => exact h.2.1
theorem intT_bd {i : Int} (h : i.natAbs < 2 ^ 1400) : (intT i).length ≤ 1401 := by
  have a : i.natAbs < 10 ^ 1400 := Nat.lt_of_lt_of_le h (Nat.pow_le_pow_left (by decide) 1400)
  have b := TL.numL_len (k := 1400) (by decide) a
  unfold intT
  split
  · rw [List.length_cons]; omega
  · omega
theorem numT_bd {u : Rat} (h : Bd 1400 u) : (numT u).length ≤ 2803 := by
  have a := intT_bd h.1
  have b := intT_bd (i := (u.den : Int)) (by rw [Int.natAbs_natCast]; exact h.2)
  rw [intT_nn (by omega), Int.natAbs_natCast] at b
  unfold numT
  split
  · omega
  · rw [List.length_append, List.length_cons]; omega
def f_numtextW : FP := fun ds Q => ∃ u : Rat, ds = [numD u] ∧ Bd 1400 u ∧ Q (.d (.str (S (numT u))))
theorem fm_numtextW : FMono f_numtextW := ⟨fun ds Q Q' hq ⟨v, h1, h2, h⟩ => ⟨v, h1, h2, hq _ h⟩⟩
instance : FMono f_numtextW := fm_numtextW
theorem ln_numtextW : ∀ ds Q, f_numtextW ds Q → ds.length = 1 := fun ds Q ⟨v, h, _⟩ => by rw [h]; rfl
/-! ### the mill -/
abbrev FSM : List Str := ["text", "steps", "way", "count", "lines", "here", "back", "gone", "raised", "down"]
structure Ml where
  tx : Str
  k : Nat
  W : List Wy
  n : Nat
  ls : List Stp
  here : Rat × Rat
  back : Rat × Rat
  gone : Bool
  raised : Bool
  down : Bool
def lnD (st : Stp) : PyData := .str (S (stepT st))
def Ml.o (M : Ml) : Ob := .ins "Mill" FSM [.d (.str M.tx), .d (.int (M.k : Nat)), .l (M.W.map Wy.d), .d (.int (M.n : Nat)), .l (M.ls.map lnD), .d (plD M.here), .d (plD M.back), .d (.bool M.gone), .d (.bool M.raised), .d (.bool M.down)]
structure Ml.ok (M : Ml) : Prop where
  n : M.n ≤ M.W.length
  len : M.W.length ≤ 200
  bd : ∀ w ∈ M.W, StW w.st
  ls : M.ls.length ≤ 100000
  hb : Bd2 1400 M.here
  bb : Bd2 1400 M.back
def Ml.go (M : Ml) (st : Stp) : Ml := { M with ls := M.ls ++ [st], here := st.fin }
def Ml.step (M : Ml) (w : Wy) : Ml := { M.go w.st with down := !w.st.isHop }
def Ml.steps (M : Ml) (ws : List Wy) : Ml := ws.foldl Ml.step M
/-- so many entries done -/
def Ml.does (M : Ml) (j : Nat) : Ml := { M.steps ((M.W.drop M.n).take j) with n := M.n + j }
/-- a text and its way -/
structure WayG (rs : List Rc) (t : Rn) (es : List Ec) : Prop where
  pr : PrOk (rs.map Rc.w)
  run : Runs rs (.ok t)
  made : t.made = es.map (·.e)
  ok : ∀ c ∈ es, c.ok
  len : es.length ≤ 60
  wrong : wrongZ es (ledLs es) = []
theorem RoadG.way {rs : List Rc} {t : Rn} {es : List Ec} (h : RoadG rs t es) : WayG rs t es := ⟨h.pr, h.run, h.made, h.ok, h.len, h.wrong⟩
/-- as many as told, or as are left -/
def Ml.due (M : Ml) (k : Nat) : Nat := min k (M.W.length - M.n)
end DR
namespace DR
open PySem PySem.Spec L2 DL DM SX
theorem log_bd {a : Nat} (h : a < 2 ^ 1400) : a.log2 < 1920 := by
  have := log2_lt h (by decide)
  omega
/-! ### sizes of a way's steps -/
theorem z0 : Bd2 1400 ((0 : Rat), (0 : Rat)) := ⟨bd_zero.mono (by decide), bd_zero.mono (by decide)⟩
end DR
namespace DR
open PySem PySem.Spec L2 DL DM SX
end DR
namespace DR
open PySem PySem.Spec L2 DL DM SX
def Ml.leave (M : Ml) : Ml := ({ M with back := M.here, gone := true } : Ml).go (.hop M.here (0, 0))
def Ml.up (M : Ml) : Ml := ({ M with gone := false } : Ml).go (.hop (0, 0) M.back)
end DR

/-! DGc: x.f += e; x.f = x.g = e, x.f = x.g = x.h = e for new fields. -/
namespace DL
open PySem PySem.Spec L2
variable {X : Cx} {Z : Ent} {pos : Pos} {ex : Xd → DSt → Prop}
end DL

/-! DGd: x.m(k = v, ..): a method called with keywords alone. -/
namespace DL
open PySem PySem.Spec L2
section
variable {X : Cx} {CX : CXT} {k n : Nat} {g : Addr} {fd : FuncData} {ps ks : List Str} {sp : Sp} {m : Str} {o : Expr} {pos apos : Pos} {kws : List Keyword} {gv : List Value → List Value → List Value} {gV : List V → List V → List V}
end
section
variable {X : Cx} {Z : Ent} {pos : Pos} {ex : Xd → DSt → Prop}
variable {k : Nat} {g : Addr} {fd : FuncData} {ps ks : List Str} {f : FG} {m : Str} {apos : Pos} {kws : List Keyword} {tk : DL'} {gv : List Value → List Value → List Value}
end
end DL

/-! DHa: what is kept ahead of a step's row: sought from the begin, and run on from it. -/
namespace DR
open PySem PySem.Spec L2 DL DM SX
/-! ### on to the row of a step -/
/-- on to the step's row with so many made ahead of it, or to the end -/
inductive Seek (rs : List Rc) (n : Nat) : Nat → Rn → Rn → Prop
  | fin {m : Nat} {s t : Rn} : Go rs m s (.ok t) → AtEnd rs t ∨ n ≤ t.made.length → Seek rs n 0 s t
  | on {m k : Nat} {s t v u : Rn} : Go rs m s (.ok t) → ¬ AtEnd rs t → t.made.length < n → Dn rs t (.ok v) → Seek rs n k v u → Seek rs n (k + 1) s u
theorem stl_keep {rs : List Rc} {n : Nat} {s t : Rn} (h : Stl rs n s t) : t.made = s.made ∧ t.many = s.many ∧ t.place = s.place ∧ t.by_ = s.by_ ∧ t.pace = s.pace ∧ t.side = s.side := by
  induction h with
  | fin _ => exact ⟨rfl, rfl, rfl, rfl, rfl, rfl⟩
  | row _ _ _ => exact ⟨rfl, rfl, rfl, rfl, rfl, rfl⟩
  | piece _ _ _ _ ih => exact ih
  | leave _ _ _ _ _ _ _ ih =>
    unfold leaveR at ih
    split at ih <;> exact ih
/-- an entry is made, or none -/
def Adds (s t : Rn) (b : Bool) : Prop := (b = true → ∃ e : Ey, t.made = s.made ++ [e] ∧ e.st.beg = s.place ∧ e.pace = s.pace ∧ e.trail = s.trail ∧ t.place = e.st.fin) ∧ (b = false → t.made = s.made ∧ t.place = s.place)
theorem deed_made {rs : List Rc} {s t : Rn} {r : Rc} (h : deedR rs s r = .ok t) : Adds s t r.isStep := by
  cases r with
  | hop x y => unfold deedR at h; cases h; exact ⟨fun _ => ⟨_, rfl, rfl, rfl, rfl, rfl⟩, fun z => Bool.noConfusion z⟩
  | cut x y =>
    unfold deedR at h
    simp only at h
    split at h
    · cases h; exact ⟨fun _ => ⟨_, rfl, rfl, rfl, rfl, rfl⟩, fun z => Bool.noConfusion z⟩
    · cases h
  | run p q l => unfold deedR at h; cases h; exact ⟨fun _ => ⟨_, rfl, rfl, rfl, rfl, rfl⟩, fun z => Bool.noConfusion z⟩
  | arc left x y p q =>
    unfold deedR at h
    simp only at h
    split at h
    · cases h; exact ⟨fun _ => ⟨_, rfl, rfl, rfl, rfl, rfl⟩, fun z => Bool.noConfusion z⟩
    · cases h
  | mode b => unfold deedR at h; cases h; exact ⟨fun z => Bool.noConfusion z, fun _ => ⟨rfl, rfl⟩⟩
  | pace g => unfold deedR at h; cases h; exact ⟨fun z => Bool.noConfusion z, fun _ => ⟨rfl, rfl⟩⟩
  | side u => unfold deedR at h; cases h; exact ⟨fun z => Bool.noConfusion z, fun _ => ⟨rfl, rfl⟩⟩
  | frame f =>
    unfold deedR at h
    simp only at h
    split at h
    · cases h
    · cases h; exact ⟨fun z => Bool.noConfusion z, fun _ => ⟨rfl, rfl⟩⟩
  | back =>
    unfold deedR at h
    simp only at h
    split at h
    · cases h
    · cases h; exact ⟨fun z => Bool.noConfusion z, fun _ => ⟨rfl, rfl⟩⟩
  | piece l => unfold deedR at h; cases h; exact ⟨fun z => Bool.noConfusion z, fun _ => ⟨rfl, rfl⟩⟩
  | end_ => unfold deedR at h; cases h; exact ⟨fun z => Bool.noConfusion z, fun _ => ⟨rfl, rfl⟩⟩
  | call l n =>
    unfold deedR at h
    simp only at h
    split at h
    · cases h
    · split at h <;> cases h <;> exact ⟨fun z => Bool.noConfusion z, fun _ => ⟨rfl, rfl⟩⟩
theorem dn_made {rs : List Rc} {s t : Rn} (d : Dn rs s (.ok t)) : ∃ r, rs[s.row]? = some r ∧ Adds s t r.isStep := by
  cases d with
  | ok h1 h2 h3 h4 h5 h6 h7 h8 =>
    rename_i k t0 r
    obtain ⟨k1, _, k3, _⟩ := stl_keep h8
    have a := deed_made h7
    refine ⟨r, h2, fun z => ?_, fun z => ?_⟩
    · obtain ⟨e, e1, e2, e3, e4, e5⟩ := a.1 z
      refine ⟨e, ?_, e2, e3, e4, ?_⟩
      · rw [k1]; split <;> exact e1
      · rw [k3]; split <;> exact e5
    · obtain ⟨e1, e2⟩ := a.2 z
      refine ⟨?_, ?_⟩
      · rw [k1]; split <;> exact e1
      · rw [k3]; split <;> exact e2
theorem run_made {rs : List Rc} {n : Nat} {s : Rn} {e : Except Xr Rn} (h : Run rs n s e) : ∀ t, e = .ok t → ∃ l, t.made = s.made ++ l := by
  induction h with
  | fin h => intro t q; cases q; exact ⟨[], (List.append_nil _).symm⟩
  | err _ _ _ => intro t q; cases q
  | on h1 h2 d _ ih =>
    intro t q
    obtain ⟨l, e⟩ := ih t q
    obtain ⟨r, hr, ad⟩ := dn_made d
    cases hs : r.isStep with
    | true =>
      obtain ⟨x, e1, _⟩ := ad.1 hs
      exact ⟨x :: l, by rw [e, e1, List.append_assoc]; rfl⟩
    | false => exact ⟨l, by rw [e, (ad.2 hs).1]⟩
/-- so long a run is there, so far it can be sought -/
structure StAt (rs : List Rc) (t : Rn) (n : Nat) (u : Rn) : Prop where
  seek : ∃ k0 k s0, Stl rs k0 rn0 s0 ∧ Seek rs n k s0 u
  run : ∃ m, Run rs m u (.ok t)
  len : u.made.length = n
  ok : RnOk rs u
  at_ : AtEnd rs u ∨ (¬ AtEnd rs u ∧ ∃ r, rs[u.row]? = some r ∧ r.isStep = true)
/-- the entry that is made next -/
theorem StAt.next {rs : List Rc} {t u : Rn} {n : Nat} (h : StAt rs t n u) (hn : n < t.made.length) : ¬ AtEnd rs u ∧ ∃ e, t.made[n]? = some e ∧ e.st.beg = u.place ∧ e.pace = u.pace ∧ e.trail = u.trail := by
  obtain ⟨m, hr⟩ := h.run
  have hl := h.len
  generalize he : (Except.ok t : Except Xr Rn) = x at hr
  cases hr with
  | fin ha =>
    cases he
    omega
  | err _ _ _ => cases he
  | on ha hrow d hr2 =>
    subst he
    refine ⟨ha, ?_⟩
    rcases h.at_ with q | ⟨_, r, hrr, hst⟩
    · exact absurd q ha
    · obtain ⟨r2, hr3, ad⟩ := dn_made d
      rw [hrr] at hr3
      cases hr3
      obtain ⟨e, e1, e2, e3, e4, _⟩ := ad.1 hst
      obtain ⟨l, el⟩ := run_made hr2 t rfl
      refine ⟨e, ?_, e2, e3, e4⟩
      rw [el, e1, List.append_assoc, List.getElem?_append_right (by omega), hl, Nat.sub_self]
      rfl
theorem StAt.pre {rs : List Rc} {t u : Rn} {n : Nat} (h : StAt rs t n u) : u.made = t.made.take n := by
  obtain ⟨m, hr⟩ := h.run
  obtain ⟨l, el⟩ := run_made hr t rfl
  rw [el, ← h.len, List.take_left]
/-! ### run on from a state -/
def Rn.less (s : Rn) (m c : Nat) : Rn := { s with made := s.made.drop m, many := s.many - c }
theorem mk_less {s : Rn} {m c : Nat} {st : Stp} (hm : m ≤ s.made.length) : mkR (s.less m c) st = (mkR s st).less m c := by
  unfold mkR Rn.less
  simp only
  rw [List.drop_append_of_le_length hm]
  rfl
theorem deed_less {rs : List Rc} {s t : Rn} {r : Rc} {m c : Nat} (hm : m ≤ s.made.length) (h : deedR rs s r = .ok t) : deedR rs (s.less m c) r = .ok (t.less m c) := by
  cases r with
  | hop x y => unfold deedR at h ⊢; cases h; simp only; rw [mk_less hm]; rfl
  | cut x y =>
    unfold deedR at h ⊢
    simp only at h ⊢
    split at h
    · rename_i hf
      cases h
      rw [mk_less hm]
      exact if_pos hf
    · cases h
  | run p q l => unfold deedR at h ⊢; cases h; simp only; rw [mk_less hm]; rfl
  | arc left x y p q =>
    unfold deedR at h ⊢
    simp only at h ⊢
    split at h
    · rename_i hf
      cases h
      rw [mk_less hm]
      exact if_pos hf
    · cases h
  | mode b => unfold deedR at h ⊢; cases h; rfl
  | pace g => unfold deedR at h ⊢; cases h; rfl
  | side u => unfold deedR at h ⊢; cases h; rfl
  | frame f =>
    unfold deedR at h ⊢
    simp only at h ⊢
    split at h
    · cases h
    · rename_i hf
      cases h
      exact if_neg hf
  | back =>
    unfold deedR at h ⊢
    simp only at h ⊢
    split at h
    · cases h
    · rename_i hf
      cases h
      exact if_neg hf
  | piece l => unfold deedR at h ⊢; cases h; rfl
  | end_ => unfold deedR at h ⊢; cases h; rfl
  | call l n =>
    unfold deedR at h ⊢
    simp only at h ⊢
    split at h
    · cases h
    · rename_i hf
      rw [if_neg (show ¬ 8 ≤ (s.less m c).out.length from hf)]
      split at h <;> cases h <;> rfl
theorem stl_less {rs : List Rc} {n m c : Nat} {s t : Rn} (h : Stl rs n s t) : Stl rs n (s.less m c) (t.less m c) := by
  induction h with
  | fin h => exact .fin h
  | row h1 h2 h3 => exact .row h1 h2 h3
  | piece h1 h2 h3 _ ih => exact .piece h1 h2 h3 ih
  | leave h1 h2 h3 h4 h5 h6 _ ih =>
    refine .leave h1 h2 h3 h4 h5 h6 ?_
    unfold leaveR at ih ⊢
    split at ih
    · rename_i q
      rw [if_pos q]
      exact ih
    · rename_i q
      rw [if_neg q]
      exact ih
theorem fit_less {s : Rn} {r : Rc} {m c : Nat} (h : Fit s r) : Fit (s.less m c) r := by
  cases r <;> exact h
theorem dn_less {rs : List Rc} {s t : Rn} {m c : Nat} (ok : RnOk rs s) (hm : m ≤ s.made.length) (hc : c ≤ s.many) (d : Dn rs s (.ok t)) : Dn rs (s.less m c) (.ok (t.less m c)) ∧ m ≤ t.made.length ∧ c ≤ t.many := by
  have hmy := ok.mny
  have hmd := ok.md
  cases d with
  | ok h1 h2 h3 h4 h5 h6 h7 h8 =>
    rename_i k t0 r
    obtain ⟨_, o2⟩ := ok.deed (ok.rc _ (List.mem_of_getElem? h2)) h4 h6 h7
    obtain ⟨k1, k2, _⟩ := stl_keep h8
    have ad := deed_made h7
    have l0 : m ≤ t0.made.length := by
      cases hs : r.isStep with
      | true =>
        obtain ⟨e, e1, _⟩ := ad.1 hs
        rw [e1, List.length_append]
        omega
      | false => rw [(ad.2 hs).1]; exact hm
    refine ⟨.ok (k := k) (r := r) (t := t0.less m c) (by show s.many - c ≠ 2000; omega) h2 h3 (fun z => ?_) (fit_less h5) h6 (deed_less hm h7) ?_, ?_, ?_⟩
    · have := h4 z
      show (s.made.drop m).length ≠ 100
      rw [List.length_drop]
      omega
    · have z := stl_less (m := m) (c := c) h8
      have e1 : t0.many + 1 - c = t0.many - c + 1 := by omega
      cases hcall : r.isCall with
      | true =>
        rw [hcall] at z
        simp only [if_true] at z ⊢
        have e : ({ t0 with many := t0.many + 1 } : Rn).less m c = { t0.less m c with many := (t0.less m c).many + 1 } := by
          unfold Rn.less
          simp only
          rw [e1]
        rw [e] at z
        exact z
      | false =>
        rw [hcall] at z
        simp only [Bool.false_eq_true, if_false] at z ⊢
        have e : ({ t0 with many := t0.many + 1, row := t0.row + 1, turn := 0 } : Rn).less m c = { t0.less m c with many := (t0.less m c).many + 1, row := (t0.less m c).row + 1, turn := 0 } := by
          unfold Rn.less
          simp only
          rw [e1]
        rw [e] at z
        exact z
    · rw [k1]
      split <;> exact l0
    · rw [k2]
      split <;> (show c ≤ t0.many + 1; omega)
theorem run_less {rs : List Rc} {n m c : Nat} {s : Rn} {e : Except Xr Rn} (h : Run rs n s e) : ∀ t, e = .ok t → RnOk rs s → m ≤ s.made.length → c ≤ s.many → Run rs n (s.less m c) (.ok (t.less m c)) := by
  induction h with
  | fin h => intro t q _ _ _; cases q; exact .fin h
  | err _ _ _ => intro t q; cases q
  | on h1 h2 d _ ih =>
    intro t q ok hm hc
    obtain ⟨z1, z2, z3⟩ := dn_less ok hm hc d
    exact .on h1 h2 z1 (ih t q (d.ok' ok) z2 z3)
/-- a runner that begins where a run stands -/
def Rn.rest (u : Rn) : Rn := { u with made := [], many := 0 }
theorem StAt.rest {rs : List Rc} {t u : Rn} {n : Nat} (h : StAt rs t n u) : ∃ m c, Run rs m u.rest (.ok (t.less n c)) := by
  obtain ⟨m, hr⟩ := h.run
  have z := run_less (m := n) (c := u.many) hr t rfl h.ok (by rw [h.len]; exact Nat.le_refl _) (Nat.le_refl _)
  have e : u.less n u.many = u.rest := by
    unfold Rn.less Rn.rest
    rw [← h.len, List.drop_length, Nat.sub_self]
  rw [e] at z
  exact ⟨m, _, z⟩
end DR

/-! DHb: str(x) and x == y of shared instances whose class tells them. -/
namespace DL
open PySem PySem.Spec L2
section
variable {X : Cx} {Z : Ent} {pos : Pos} {k : Nat} {g : Addr} {fd : FuncData} {ps : List Str} {f : FP}
end
end DL

/-! DHc: states as data, their texts, and what the defs of states promise. -/
namespace DR
open PySem PySem.Spec L2 DL DM SX
/-! ### texts -/
def frWs : Fr → List (List Nat)
  | .shift a b => [[115, 104, 105, 102, 116], numT a, numT b]
  | .turn p q => [[116, 117, 114, 110], intT p, intT q]
  | .flip => [[102, 108, 105, 112]]
def frT (f : Fr) : List Nat := TL.joinL [58] (frWs f)
/-! ### promises -/
end DR

/-! DHd: states' texts read again: promises. -/
namespace DL
open PySem PySem.Spec L2
section
variable {X : Cx} {Z : Ent} {pos : Pos} {tg tg1 : Expr}
/-! ### [.. for .. in x.values() for .. in ..], x a dict of one's own -/
end
end DL
namespace DR
open PySem PySem.Spec L2 DL DM SX
class DjsMono (ts : List DE) : Prop where
  m : ∀ (acc : Str) (δ : DSt) (Q Q' : Str → DSt → Prop), (∀ s δ', Q s δ' → Q' s δ') → dJs ts acc δ Q → dJs ts acc δ Q'
instance : DjsMono [] := ⟨fun acc δ Q Q' hq q => hq _ _ q⟩
instance {t : DE} {ts : List DE} [EMono t] [DjsMono ts] : DjsMono (t :: ts) := ⟨fun acc δ Q Q' hq q => EMono.m (t := t) _ _ _ (fun d δ' ⟨y, e, l, z⟩ => ⟨y, e, l, DjsMono.m (ts := ts) _ _ _ _ hq z⟩) q⟩
instance {ts : List DE} [DjsMono ts] : EMono (dJoin ts) := ⟨fun δ Q Q' hq q => DjsMono.m (ts := ts) _ _ _ _ (fun s δ' z => hq _ _ z) q⟩
/-! ### reading -/
end DR

/-! DHe: trails of runs: each call stands where it may, and the step's row too. -/
namespace DL
open PySem PySem.Spec L2
section
variable {X : Cx} {Z : Ent} {pos : Pos}
end
end DL
namespace DL
open PySem PySem.Spec L2
section
variable {X : Cx} {Z : Ent} {pos : Pos} {g : Addr} {fd : FuncData} {k : Nat} {ps : List Str} {f : FP} {x : Str} {p : Pos} {dus : List Value} {dvs : List V} {dd : List PyData} {e : Expr} {es : List Expr} {t : DL'}
end
end DL
namespace DR
open PySem PySem.Spec L2 DL DM SX
/-! ### where rows stand -/
def inners (rs : List Rc) : List Nat := ((sps rs).map fun e => List.range' (e.2.1 - 1) (e.2.2 + 1 - (e.2.1 - 1))).flatten
def outer (rs : List Rc) : List Nat := (List.range rs.length).filter fun k => !decide (k ∈ inners rs)
/-! ### trails -/
/-! ### promises -/
/-- the number of the step that leads a mill's next entry -/
def Ml.num (M : Ml) : Nat := match M.W[M.n]? with
  | some w => w.n
  | none => M.k
/-! ### for the readings -/

end DR

/-! DHf: states of runs are of small numbers; a mill between its deeds. -/
namespace DR
open PySem PySem.Spec L2 DL DM SX
/-! ### a mill between its deeds -/
structure MlA (tx : Str) (k : Nat) (W : List Wy) (j m : Nat) (M : Ml) : Prop where
  ok : M.ok
  tx : M.tx = tx
  k : M.k = k
  w : M.W = W
  n : M.n = j
  gone : M.gone = false
  up : M.raised = false
  ls : M.ls.length ≤ m
/-- left -/
structure MlL (tx : Str) (k : Nat) (W : List Wy) (j m : Nat) (M : Ml) : Prop where
  ok : M.ok
  tx : M.tx = tx
  k : M.k = k
  w : M.W = W
  n : M.n = j
  gone : M.gone = true
  up : M.raised = false
  ls : M.ls.length ≤ m
theorem bd00 : Bd2 1400 ((0, 0) : Rat × Rat) := ⟨⟨by decide +kernel, by decide +kernel⟩, ⟨by decide +kernel, by decide +kernel⟩⟩
theorem MlA.leave {tx : Str} {k : Nat} {W : List Wy} {j m : Nat} {M : Ml} (h : MlA tx k W j m M) (hm : m < 99999) : MlL tx k W j (m + 1) M.leave := by
  have l : M.leave.ls.length = M.ls.length + 1 := by show (M.ls ++ [_]).length = _; rw [List.length_append]; rfl
  have hl := h.ls
  exact ⟨⟨h.ok.n, h.ok.len, h.ok.bd, by omega, bd00, h.ok.hb⟩, h.tx, h.k, h.w, h.n, rfl, h.up, by omega⟩
theorem MlL.take {tx : Str} {k : Nat} {W : List Wy} {j m : Nat} {M : Ml} (h : MlL tx k W j m M) (hm : m < 99999) : MlA tx k W j (m + 1) M.up := by
  have l : M.up.ls.length = M.ls.length + 1 := by show (M.ls ++ [_]).length = _; rw [List.length_append]; rfl
  have hl := h.ls
  exact ⟨⟨h.ok.n, h.ok.len, h.ok.bd, by omega, h.ok.bb, h.ok.bb⟩, h.tx, h.k, h.w, h.n, rfl, h.up, by omega⟩
theorem MlA.mono {tx : Str} {k : Nat} {W : List Wy} {j m m' : Nat} {M : Ml} (h : MlA tx k W j m M) (e : m ≤ m') : MlA tx k W j m' M := ⟨h.ok, h.tx, h.k, h.w, h.n, h.gone, h.up, Nat.le_trans h.ls e⟩
/-- one entry done, or none where none is left -/
theorem MlA.one {tx : Str} {k : Nat} {W : List Wy} {j m : Nat} {M : Ml} (h : MlA tx k W j m M) (hm : m < 99999) : (j < W.length → M.due 1 = 1 ∧ MlA tx k W (j + 1) (m + 1) (M.does (M.due 1))) ∧ (j = W.length → M.due 1 = 0 ∧ MlA tx k W j (m + 1) (M.does (M.due 1))) := by
  have e : M.due 1 = min 1 (W.length - j) := by unfold Ml.due; rw [h.w, h.n]
  have hl := h.ls
  constructor
  · intro hj
    have e1 : M.due 1 = 1 := by rw [e]; omega
    refine ⟨e1, ?_⟩
    rw [e1]
    have ew : (M.W.drop M.n).take 1 = [W[j]] := by
      rw [h.w, h.n, List.drop_eq_getElem_cons hj]
      rfl
    have ed : M.does 1 = { M.step W[j] with n := M.n + 1 } := by
      unfold Ml.does
      rw [ew]
      rfl
    rw [ed]
    have mw : W[j] ∈ W := List.getElem_mem hj
    have len : (M.step W[j]).ls.length = M.ls.length + 1 := by show (M.ls ++ [_]).length = _; rw [List.length_append]; rfl
    exact ⟨⟨by show M.n + 1 ≤ M.W.length; rw [h.n, h.w]; omega, h.ok.len, h.ok.bd, by show (M.step W[j]).ls.length ≤ _; omega, (h.ok.bd _ (by rw [h.w]; exact mw)).fin, h.ok.bb⟩, h.tx, h.k, h.w, by show M.n + 1 = _; rw [h.n], h.gone, h.up, by show (M.step W[j]).ls.length ≤ _; omega⟩
  · intro hj
    have e1 : M.due 1 = 0 := by rw [e]; omega
    refine ⟨e1, ?_⟩
    rw [e1]
    have ed : M.does 0 = M := by
      unfold Ml.does
      rw [List.take_zero]
      rfl
    rw [ed]
    exact h.mono (Nat.le_succ m)
/-- the number of the step that leads the next entry -/
def numJ (k : Nat) (W : List Wy) (j : Nat) : Nat := match W[j]? with
  | some w => w.n
  | none => k
theorem MlA.num {tx : Str} {k : Nat} {W : List Wy} {j m : Nat} {M : Ml} (h : MlA tx k W j m M) : M.num = numJ k W j := by
  unfold Ml.num numJ
  rw [h.w, h.n, h.k]
  all_goals cases W[j]? <;> rfl
theorem MlL.num {tx : Str} {k : Nat} {W : List Wy} {j m : Nat} {M : Ml} (h : MlL tx k W j m M) : M.num = numJ k W j := by
  unfold Ml.num numJ
  rw [h.w, h.n, h.k]
  all_goals cases W[j]? <;> rfl
end DR

/-! DHg: the way of a road's rest. -/
namespace DL
open PySem PySem.Spec L2
section
variable {X : Cx} {Z : Ent} {pos : Pos} {g : Addr} {fd : FuncData} {k : Nat} {ps : List Str} {fb : FB} {x : Str} {p : Pos} {e : Expr} {t : DL'}
end
end DL
namespace DR
open PySem PySem.Spec L2 DL DM SX
section
variable {es : List Ec} {k : Nat}
end
end DR

/-! DIa: a lambda handed to a def that calls it without arguments: it has no parameter, or one with a default. -/
namespace DL
open PySem PySem.Spec L2
theorem dp_adr {K : Fg} {H : Hp} {v : V} {a : Addr} (h : Dp K H v (adrD a)) : v = .ref a := by
  generalize e : adrD a = d at h
  unfold adrD at e
  cases h with
  | ins _ _ _ _ _ => unfold insD at e; simp at e
  | dct _ _ _ => unfold dctD at e; simp at e
  | fn _ => unfold fnD at e; simp at e
  | any _ => unfold anyD at e; simp at e
  | adr b => simp only [adrD, PyData.dict.injEq, List.cons.injEq, Prod.mk.injEq, PyData.int.injEq, and_true, true_and] at e; rw [Int.ofNat.inj e]
  | _ => cases e
theorem sl_self {δ : DSt} {i : Nat} {o : Sl} (h : δ[i]? = some (some o)) : δ.set i (some o) = δ := by
  obtain ⟨hi, e⟩ := List.getElem?_eq_some_iff.mp h
  rw [← e]
  exact List.set_getElem_self hi
/-! ### the lambda's object -/
abbrev lamFd (q : Str) (params : Arguments) (body : Expr) (scope : Scope) (cl : List (Str × Addr)) (dV doc pm cv ctv : Value) : FuncData := PySem.W.kdv_fn "<lambda>" q params (.expr body) scope cl dV doc pm cv ctv
/-- the values that parameters have where none is handed in -/
def DflTo (s : Shared) (dV : Value) (dv : List Value) : Prop := (dV = .none ∧ dv = []) ∨ ∃ T, dv ≠ [] ∧ dV = .ref T ∧ s.heap.get? T = some (PySem.W.kdv_tup dv)
/-- how it is called with nothing -/
def LamBd (params : Arguments) (body : Expr) (scope : Scope) (ps : List Str) (n : Nat) : Prop := ∀ (q : Str) (cl : List (Str × Addr)) (dV doc pm cv ctv : Value) (dv : List Value) (s : Shared), dv.length = n → DflTo s dV dv → BindsTo s (lamFd q params body scope cl dV doc pm cv ctv) ⟨[], []⟩ (ps.zip dv)
/-- the names: its parameters, captured ones, globals -/
structure LamP (sc scope : Scope) (ps : List Str) : Prop where
  kind : scope.kind = .function
  co : scope.isCoroutine = false
  gen : scope.isGenerator = false
  cell : ∀ y ∈ scope.names, y.2 ≠ .cell
  loc : ∀ y ∈ scope.names, y.2 = .local → y.1 ∈ ps
  par : ∀ y ∈ ps, scope.names.lookup y = some .local
  free : ∀ y ∈ scope.names, y.2 = .free → sc.names.lookup y.1 = some .cell ∨ sc.names.lookup y.1 = some .free
def lamPB (sc scope : Scope) (ps : List Str) : Bool := decide (scope.kind = .function) && (!scope.isCoroutine && (!scope.isGenerator && (scope.names.all (fun y => decide (y.2 ≠ .cell) && ((!decide (y.2 = .local) || ps.contains y.1) && (!decide (y.2 = .free) || (decide (sc.names.lookup y.1 = some .cell) || decide (sc.names.lookup y.1 = some .free))))) && ps.all fun y => decide (scope.names.lookup y = some .local))))
theorem lamP_by {sc scope : Scope} {ps : List Str} (h : lamPB sc scope ps = true) : LamP sc scope ps := by
  obtain ⟨a, h⟩ := He.ba h
  obtain ⟨b, h⟩ := He.ba h
  obtain ⟨c, h⟩ := He.ba h
  obtain ⟨d, e⟩ := He.ba h
  have d := List.all_eq_true.mp d
  refine ⟨of_decide_eq_true a, by simpa using b, by simpa using c, fun y m => of_decide_eq_true (He.ba (d y m)).1, fun y m z => ?_, fun y m => of_decide_eq_true (List.all_eq_true.mp e y m), fun y m z => ?_⟩
  · have k := (He.ba (He.ba (d y m)).2).1
    rw [z] at k
    simpa using k
  · have k := (He.ba (He.ba (d y m)).2).2
    rw [z] at k
    simpa using k
section
variable {X : Cx} {pins : List (Addr × Obj)} {σ : L2.St} {H : Hp} {s : Shared}
theorem LamP.has {ps : List Str} {scope : Scope} (L : LamP X.env.scope scope ps) (ok : X.Ok) : ∀ y ∈ scope.names, y.2 = .free → ∃ c, X.env.cells.lookup y.1 = some c := fun y m e => ok.has _ (L.free y m e)
/-- what stands behind the making -/
structure Made (X : Cx) (params : Arguments) (body : Expr) (scope : Scope) (dV : Value) (dv : List Value) (H1 : Hp) (s' : Shared) (f c' : Addr) : Prop where
  obj : ∃ doc pm ctv, s'.heap.get? f = some { cls := .type "function", data := .func (lamFd (X.env.qual ++ "<lambda>") params body scope (cloFrom X.env.cells scope.names []) dV doc pm (.ref c') ctv) }
  new : H1 f = none
  nfr : f ∉ frs X.stack
  dfl : (dV = .none ∧ dv = []) ∨ ∃ T, dv ≠ [] ∧ dV = .ref T ∧ s'.heap.get? T = some (PySem.W.kdv_tup dv) ∧ H1 T = none ∧ T ∉ frs X.stack
/-- how the heap's knowledge goes on: the table had the code object, or it has it now -/
def Grown (Hs H H1 : Hp) (P c' : Addr) (ps : Array Value) (nm : Str) (pos : Pos) : Prop := (H1 = H ∧ Hs c' = some (LamX.CodeO c' nm)) ∨ (H c' = none ∧ H1 = upd (upd H P (.tbl (ps ++ #[rawInt pos.line, rawInt pos.col, .ref c']))) c' (LamX.CodeO c' nm))
theorem off_frs (I : Inv X pins σ H s) {f : Addr} (h : s.heap.objs.size ≤ f) : f ∉ frs X.stack := fun z => by
  rcases List.mem_cons.mp (I.stkSub _ z) with e | e
  · have k := I.lt
    rw [← e] at k
    exact Nat.not_le_of_lt k h
  · exact I.nofs h e
/-- the object itself; the defaults stand already -/
theorem made_tail {c P : Addr} {params : Arguments} {body : Expr} {scope : Scope} {pos : Pos} {E : Value → Shared → Prop} {Q : Value → Shared → Prop} {ps : Array Value} {nm : Str} {Hs : Hp} {dV : Value} {dv : List Value} (en : nm = X.env.qual ++ "<lambda>") (I : Inv X pins σ H s) (TB : LamX.TabB X.base X.mg c P) (hcode : X.env.code = .ref c)
    (hP : H P = some (.tbl ps)) (ht : TriplesOk ps.toList) (ha : ∀ (pos : Pos) (cv : Value), codeAmong pos ps.toList = some cv → ∃ c, cv = .ref c ∧ Hs c = some (LamX.CodeO c nm)) (hfree : ∀ y ∈ scope.names, y.2 = .free → ∃ c, X.env.cells.lookup y.1 = some c)
    (hd : (dV = .none ∧ dv = []) ∨ ∃ T, dv ≠ [] ∧ dV = .ref T ∧ s.heap.get? T = some (PySem.W.kdv_tup dv) ∧ H T = none ∧ T ∉ frs X.stack)
    (h : ∀ (f c' : Addr) (H1 : Hp) (s' : Shared), Inv X pins σ H1 s' → Grown Hs H H1 P c' ps nm pos → Made X params body scope dV dv H1 s' f c' → Q (.ref f) s') :
    wpAny (model X.prog X.w) X.A (makeTail "<lambda>" (X.env.qual ++ "<lambda>") params (.expr body) scope X.env dV .none none pos pos.line) Q E s := by
  subst en
  have tb : s.heap.get? P = some { cls := .none, data := .fields ps } := I.hok P _ hP
  have bt : s.heap.BuiltinsAt X.mg P := TB.bm.keeps I.bk
  have later : ∀ {h' : Heap} {f : Addr} {H1 : Hp}, (∀ b o, b ≠ P → s.heap.get? b = some o → h'.get? b = some o) → (∀ b, b < s.heap.objs.size → H b = none → H1 b = none) → ((dV = .none ∧ dv = []) ∨ ∃ T, dv ≠ [] ∧ dV = .ref T ∧ h'.get? T = some (PySem.W.kdv_tup dv) ∧ H1 T = none ∧ T ∉ frs X.stack) := fun {h' f H1} k n => by
    rcases hd with z | ⟨T, e0, e, g1, g2, g3⟩
    · exact .inl z
    · refine .inr ⟨T, e0, e, k T _ (fun z => ?_) g1, n T (Heap.lt_size g1) g2, g3⟩
      rw [z, hP] at g2
      cases g2
  cases hc : codeAmong pos ps.toList with
  | some cv =>
    obtain ⟨c', rfl, hco⟩ := ha pos cv hc
    refine PySem.W.kdv_makeTailHit (mg := X.mg) (c := c) (P := P) (closure_ok hfree) I.ok.glob (I.mod.glob.keeps I.bk) hcode (TB.code.keeps I.bk) tb ht hc bt fun ctv doc h' tk hx hsz => ?_
    have keep : ∀ b o, s.heap.get? b = some o → (h'.push (PySem.W.kdv_obj "<lambda>" (X.env.qual ++ "<lambda>") params (.expr body) scope (cloFrom X.env.cells scope.names []) dV doc ((X.mg "__name__").getD .none) c' ctv)).get? b = some o := fun b o e => Heap.get?_push_of_some _ (hx b o e)
    exact h h'.objs.size c' H _ (I.kept keep) (.inl ⟨rfl, hco⟩) ⟨⟨doc, _, ctv, Heap.get?_push_size _ rfl⟩, I.hok.fresh hsz, off_frs I hsz, later (f := 0) (fun b o _ e => keep b o e) fun _ _ e => e⟩
  | none =>
    refine PySem.W.kdv_makeTail (mg := X.mg) (c := c) (P := P) (closure_ok hfree) I.ok.glob (I.mod.glob.keeps I.bk) hcode (TB.code.keeps I.bk) tb ht hc TB.gP bt fun c' ctv doc h' tk hx hge hlt hrec htb => ?_
    obtain ⟨_, oc, vs, t, e2, hoc, hcd, hv⟩ := hrec
    cases e2
    have big : s.heap.objs.size ≤ h'.objs.size := Nat.le_of_lt (Nat.lt_of_le_of_lt hge hlt)
    have lo : P < s.heap.objs.size := Heap.lt_size tb
    have keep : ∀ b o, b ≠ P → s.heap.get? b = some o → (h'.push (PySem.W.kdv_obj "<lambda>" (X.env.qual ++ "<lambda>") params (.expr body) scope (cloFrom X.env.cells scope.names []) dV doc ((X.mg "__name__").getD .none) c' ctv)).get? b = some o := fun b o n e => Heap.get?_push_of_some _ (hx b o n e)
    have J := LamX.inv_table (q := X.env.qual ++ "<lambda>") (more := #[rawInt pos.line, rawInt pos.col, .ref c']) (t' := tk) I hP keep (Heap.get?_push_of_some _ htb) hge ⟨oc, vs, t, Heap.get?_push_of_some _ hoc, hcd, hv⟩
    have nw : ∀ b, b ≠ c' → b ≠ P → H b = none → upd (upd H P (.tbl (ps ++ #[rawInt pos.line, rawInt pos.col, .ref c']))) c' (LamX.CodeO c' (X.env.qual ++ "<lambda>")) b = none := fun b h1 h2 e => by
      rw [upd_ne h1, upd_ne h2]
      exact e
    refine h h'.objs.size c' _ _ J (.inr ⟨I.hok.fresh hge, rfl⟩) ⟨⟨doc, _, ctv, Heap.get?_push_size _ rfl⟩, nw _ (Nat.ne_of_gt hlt) (Nat.ne_of_gt (Nat.lt_of_lt_of_le lo big)) (I.hok.fresh big), off_frs I big, later (f := 0) keep fun b hb e => nw b (Nat.ne_of_lt (Nat.lt_of_lt_of_le hb hge)) (fun z => ?_) e⟩
    rw [z, hP] at e
    cases e
/-- lambda: .. -/
theorem made0 {c P : Addr} {params : Arguments} {body : Expr} {scope : Scope} {pos : Pos} {E : Value → Shared → Prop} {Q : Value → Shared → Prop} {ps : Array Value} {nm : Str} {Hs : Hp} (en : nm = X.env.qual ++ "<lambda>") (I : Inv X pins σ H s) (TB : LamX.TabB X.base X.mg c P) (hcode : X.env.code = .ref c)
    (hP : H P = some (.tbl ps)) (ht : TriplesOk ps.toList) (ha : ∀ (pos : Pos) (cv : Value), codeAmong pos ps.toList = some cv → ∃ c, cv = .ref c ∧ Hs c = some (LamX.CodeO c nm)) (hfree : ∀ y ∈ scope.names, y.2 = .free → ∃ c, X.env.cells.lookup y.1 = some c) (hdef : defaultsOf params X.env = ([], []))
    (h : ∀ (f c' : Addr) (H1 : Hp) (s' : Shared), Inv X pins σ H1 s' → Grown Hs H H1 P c' ps nm pos → Made X params body scope .none [] H1 s' f c' → Q (.ref f) s') : wpAny (model X.prog X.w) X.A (eval (.Lambda params body scope pos) X.env) Q E s := by
  refine PySem.W.kla_eval hdef ?_
  rw [makeFunction_eq]
  simp only [List.zip_nil_right, List.filterMap_nil, List.isEmpty_nil, if_true, pure_bind]
  exact made_tail en I TB hcode hP ht ha hfree (.inl ⟨rfl, rfl⟩) h
/-! ### its body's context: the maker's slots, then the parameters' -/
abbrev lamCxP (X : Cx) (A : Around) (outer : List Env) (s : Shared) (H : Hp) (E : XK) (scope : Scope) (f c' : Addr) (ps : List Str) : Cx := { LamX.lamCx X A outer s H E scope f c' with N := X.N ++ ps }
/-- the parameters' values as they are bound -/
def Bound (ps : List Str) (dv : List Value) (dvs : List V) : Prop := dvs.length = ps.length ∧ ∀ (k : Nat) (y : Str) (v : V), ps[k]? = some y → dvs[k]? = some v → ∃ u, RelV v u ∧ (ps.zip dv).reverse.lookup y = some u
theorem bound0 : Bound [] [] [] := ⟨rfl, fun k y v e => by simp at e⟩
theorem clo_cell {scope : Scope} (hfree : ∀ y ∈ scope.names, y.2 = .free → ∃ c, X.env.cells.lookup y.1 = some c) {y : Str} {c : Addr} (e : (cloFrom X.env.cells scope.names []).lookup y = some c) : X.env.cells.lookup y = some c := by
  rcases cloFrom_mem (PySem.mem_of_lookup e) with h | ⟨h1, h2⟩
  · cases h
  · obtain ⟨d, hd⟩ := hfree _ h1 rfl
    rw [h2, hd] <;> first | rfl | exact hd
theorem lam_startP {HZ : Hp} {s1 : Shared} {A : Around} {outer : List Env} {E : XK} {scope : Scope} {f c' : Addr} {h₁ : Heap} {tk : Nat} {ps : List Str} {dv : List Value} {dvs : List V} (I : Inv X pins σ H s) (L : LamP X.env.scope scope ps) (e0 : Env0 X.prog X.w X.K X.mg X.base A outer s1 HZ) (hd : A.handled = none)
    (un : Un (frs X.stack) [] H HZ s.heap s1.heap) (hns : h₁.Ns s1.heap.objs.size fun y => (ps.zip dv).reverse.lookup y) (kp : ∀ b o, s1.heap.get? b = some o → h₁.get? b = some o) (bd : Bound ps dv dvs) (fr : ∀ y ∈ ps, y ∉ X.N) :
    Inv (lamCxP X A outer s1 HZ E scope f c' ps) [] (σ ++ dvs.map some) HZ { s1 with heap := h₁, toks := tk } := by
  have hfree := L.has I.ok
  have cc : ∀ {y c}, (cloFrom X.env.cells scope.names []).lookup y = some c → X.env.cells.lookup y = some c := clo_cell hfree
  have own : ∀ {y}, scope.names.lookup y = some .free → ∃ c, (cloFrom X.env.cells scope.names []).lookup y = some c := fun {y} e => mem_lookup (cloFrom_has (cells := X.env.cells) (acc := []) (PySem.mem_of_lookup e))
  have stays : ∀ {c : Addr} {v : Option Value}, H c = none → s.heap.IsCell c v → h₁.IsCell c v := fun {c v} n ⟨o, ho, hdv⟩ => (un.any ho n (by simp)).elim fun sl q => ⟨_, kp _ _ q, hdv⟩
  have none_ex : ∀ b : Addr, b ∉ (lamCxP X A outer s1 HZ E scope f c' ps).ex := fun b z => nomatch (show b ∈ ([] : List Addr) from z)
  have ok : (lamCxP X A outer s1 HZ E scope f c' ps).Ok :=
    { mod := e0.mod, kind := L.kind, glob := rfl, blt := rfl, above := Nat.le_refl _
      inj := fun y z c e1 e2 => I.ok.inj y z c (cc e1) (cc e2)
      has := fun y hy => hy.elim (fun k => absurd rfl (L.cell _ (PySem.mem_of_lookup k))) own
      cab := fun y c z _ => nomatch (show false = true from z)
      hd := fun _ => hd, frames := Around.frames_deeper e0.frames, stk := .inr ⟨rfl, rfl⟩
      exf := fun b z => absurd z (none_ex b), bs := e0.bs, bsz := e0.bsz, noex := fun b _ _ => none_ex b, exfs := fun b z => absurd z (none_ex b), funs := e0.funs, frf := e0.frf }
  refine { ok := ok, os := rfl, bare := e0.bare, base := Un.kept kp, loc := ⟨_, hns, fun i y v e1 e2 e3 => ?_⟩, cell := fun y c e => ?_, free := e0.hok.fresh (Nat.le_refl _), freeC := fun y c e => ?_, pin := fun q hq => absurd (show q ∈ ([] : List (Addr × Obj)) ++ [] from hq) (by simp), hok := e0.hok.kept kp, len := ?_ }
  · have e1 : (X.N ++ ps)[i]? = some y := e1
    by_cases hi : i < X.N.length
    · rw [List.getElem?_append_left hi] at e1
      rw [List.getElem?_append_left (by rw [I.len]; exact hi)] at e2
      have hy : scope.names.lookup y = some .free := by
        rcases (show Vis scope y from e3) with k | k | k
        · exact absurd (List.mem_of_getElem? e1) (fr y (L.loc _ (PySem.mem_of_lookup k) rfl))
        · exact absurd rfl (L.cell _ (PySem.mem_of_lookup k))
        · exact k
      obtain ⟨m, _, hl⟩ := I.loc
      have out := L.free _ (PySem.mem_of_lookup hy) rfl
      obtain ⟨w', r, q⟩ := hl i y v e1 e2 (.inr out)
      obtain ⟨c2, h2⟩ := own hy
      have c1 := cc h2
      refine ⟨w', r, .inr ⟨.inr hy, c2, h2, ?_⟩⟩
      rcases q with ⟨k, _⟩ | ⟨_, c3, e', z⟩
      · have k : X.env.scope.names.lookup y = some .local := k
        rcases out with k2 | k2 <;> rw [show X.env.scope.names.lookup y = _ from k2] at k <;> cases k
      · rw [c1] at e'
        cases e'
        exact stays (I.freeC y _ c1) z
    · have hge : X.N.length ≤ i := Nat.le_of_not_lt hi
      rw [List.getElem?_append_right hge] at e1
      rw [List.getElem?_append_right (by rw [I.len]; exact hge), I.len, List.getElem?_map] at e2
      cases ev : dvs[i - X.N.length]? with
      | none => rw [ev] at e2; cases e2
      | some v' =>
        rw [ev] at e2
        cases e2
        obtain ⟨u, r, k⟩ := bd.2 _ _ _ e1 ev
        exact ⟨u, r, .inl ⟨L.par _ (List.mem_of_getElem? e1), k⟩⟩
  · obtain ⟨w', z⟩ := I.cell y c (cc e)
    exact ⟨w', stays (I.freeC y c (cc e)) z⟩
  · obtain ⟨v, o, ho, _⟩ := I.cell y c (cc e)
    exact un.free c o ho (I.freeC y c (cc e)) (by simp)
  · show (σ ++ dvs.map some).length = (X.N ++ ps).length
    rw [List.length_append, List.length_append, List.length_map, I.len, bd.1]
/-- the same by data: the slot i holds the table -/
theorem Rl.lam {Z : Ent} {Hs : Hp} {δ : DSt} {i : Nat} {p : Bool} {nm : Str} {P c' : Addr} {ps : Array Value} {pos : Pos} {H1 : Hp} (R : Rl X.K Z Hs H σ δ) (e : δ[i]? = some (some (.ob p (.tab nm)))) (hv : σ[i]? = some (some (.ref P))) (hP : H P = some (.tbl ps)) (ht : TriplesOk ps.toList)
    (ha : ∀ (pos : Pos) (cv : Value), codeAmong pos ps.toList = some cv → ∃ c, cv = .ref c ∧ Hs c = some (LamX.CodeO c nm)) (h : H1 = upd (upd H P (.tbl (ps ++ #[rawInt pos.line, rawInt pos.col, .ref c']))) c' (LamX.CodeO c' nm)) (hn : H c' = none) :
    Rl X.K Z (upd Hs c' (LamX.CodeO c' nm)) H1 σ δ := by
  subst h
  have nPc : P ≠ c' := ne_of_none hP hn
  have R1 := R.alloc (o := LamX.CodeO c' nm) hn
  have ee : upd (upd H P (.tbl (ps ++ #[rawInt pos.line, rawInt pos.col, .ref c']))) c' (LamX.CodeO c' nm) = upd (upd H c' (LamX.CodeO c' nm)) P (.tbl (ps ++ #[rawInt pos.line, rawInt pos.col, .ref c'])) := by
    funext b
    by_cases h1 : b = c'
    · rw [h1, upd_same, upd_ne (Ne.symm nPc), upd_same]
    · rw [upd_ne h1]
      by_cases h2 : b = P
      · rw [h2, upd_same, upd_same]
      · rw [upd_ne h2, upd_ne h2, upd_ne h1]
  rw [ee]
  have own : ∀ f, Fps X.K Z (upd Hs c' (LamX.CodeO c' nm)) (upd H c' (LamX.CodeO c' nm)) σ δ f → f i = [P] ∧ upd Hs c' (LamX.CodeO c' nm) P = none := fun f F => by
    obtain ⟨v, e1, e2⟩ := F.at_ i _ e rfl
    rw [hv] at e1
    cases e1
    have : f i = [P] := by
      generalize f i = A at e2
      cases e2 with
      | tab _ _ _ => rfl
    exact ⟨this, F.hs i P (by rw [this]; exact List.mem_singleton.mpr rfl)⟩
  have hsP : upd Hs c' (LamX.CodeO c' nm) P = none := by
    obtain ⟨f, F⟩ := R1.fps
    exact (own f F).2
  have R2 := R1.chg (Hs' := upd Hs c' (LamX.CodeO c' nm)) (H' := upd (upd H c' (LamX.CodeO c' nm)) P (.tbl (ps ++ #[rawInt pos.line, rawInt pos.col, .ref c']))) (s' := .ob p (.tab nm)) (A := [P]) e rfl hv rfl (Same.refl _)
    (fun b o q => by
      have hb : b ≠ P := fun z => by rw [z, hsP] at q; cases q
      rw [upd_ne hb]
      exact R1.sub b o q)
    (fun f F b o hb q => by
      rw [(own f F).1] at hb
      rw [upd_ne fun z => hb (List.mem_singleton.mpr z)]
      exact q)
    (fun b q => by
      by_cases hb : b = P
      · rw [hb, upd_same]
        exact fun z => nomatch z
      · rw [upd_ne hb]
        exact q)
    (fun b q => .inl q)
    (.tab upd_same (by
      have eL : (ps ++ #[rawInt pos.line, rawInt pos.col, .ref c']).toList = ps.toList ++ [rawInt pos.line, rawInt pos.col, .ref c'] := by simp
      rw [eL]
      exact PySem.TriplesOk_snoc _ _ _ _ ht) fun p' cv z => by
      have eL : (ps ++ #[rawInt pos.line, rawInt pos.col, .ref c']).toList = ps.toList ++ [rawInt pos.line, rawInt pos.col, .ref c'] := by simp
      rw [eL] at z
      rcases LamX.among_app _ ht z with z | z
      · obtain ⟨c0, e1, e2⟩ := ha p' cv z
        exact ⟨c0, e1, by rw [upd_ne (ne_of_none e2 (R.hsn hn))]; exact e2⟩
      · exact ⟨c', z, upd_same⟩)
    (fun f F a m => .inl (by rw [(own f F).1]; exact m)) (fun a m => by rw [List.mem_singleton.mp m]; exact hsP)
  rwa [sl_self e] at R2
/-! ### x(), in the def that got the lambda -/
theorem pe_actP {CXg : CXT} {Eg : XK} {Ng : List Str} {qg : Str} {sg : Scope} {g f c' : Addr} {cdg : Value} {params : Arguments} {body : Expr} {scope : Scope} {k i n : Nat} {a nm : Str} {pn : List (Addr × Obj)} {xe : Value → Shared → Prop} {tb : L2.St → TE} {p1 p2 : Pos} {E : L2.St → XK} {dV : Value} {dv : List Value} {dvs : List V} {ps : List Str}
    (en : nm = X.env.qual ++ "<lambda>") (I : Inv X pins σ H s) (L : LamP X.env.scope scope ps) (M : Made X params body scope dV dv H s f c') (hb : LamBd params body scope ps n) (hn : dv.length = n) (bd : Bound ps dv dvs) (fr : ∀ y ∈ ps, y ∉ X.N)
    (hx : ∀ σZ, PassesAt (L2.CX X.prog X.w) ((cxOf CXg X.prog X.w X.K X.mg X.base Ng qg sg g cdg X.A X.stack s H Eg).tr pn xe) σZ (E σZ)) (hr : Room (k + 1) (X.A.deeper (PyProof.Rows.envOfC qg sg s.heap.objs.size g cdg)))
    (hbody : ∀ (σZ : L2.St) (A : Around) (outer : List Env) (s : Shared) (H : Hp), Room k (A.deeper (LamX.lamEnv X scope s.heap.objs.size f c')) → PE (lamCxP X A outer s H (E σZ) scope f c' ps) body (tb σZ))
    (hN : Ng[i]? = some a) (hv : Vis sg a) (hd : (a == ("__debug__" : Str)) = false := by decide) (hcd : (a == ("__classdict__" : Str)) = false := by decide) :
    PE ((cxOf CXg X.prog X.w X.K X.mg X.base Ng qg sg g cdg X.A X.stack s H Eg).tr pn xe) (.Call (.Name a p1) [] [] p2)
      (fun σZ HZ Q => σZ[i]? = some (some (.ref f)) ∧ HZ c' = some (LamX.CodeO c' nm) ∧ tb σZ (σ ++ dvs.map some) HZ Q) := by
  refine ⟨fun pinsZ sZ σZ HZ Q IZ ⟨hs, hc, ht⟩ => ?_⟩
  have look := (pe_var (X := (cxOf CXg X.prog X.w X.K X.mg X.base Ng qg sg g cdg X.A X.stack s H Eg).tr pn xe) (pos := p1) (i := i) hN hv hd hcd).run pinsZ sZ σZ HZ (fun v H1 => v = .ref f ∧ H1 = HZ) IZ ⟨.ref f, hs, rfl, rfl⟩
  refine wpAny_Call_Name_kw (thn look fun u s1 ⟨v, H1, J, r, ev, eH⟩ => ?_)
  subst ev eH
  cases (show u = Value.ref f from r)
  obtain ⟨doc, pm, ctv, of0⟩ := M.obj
  have kept : ∀ {b : Addr} {o : Obj}, s.heap.get? b = some o → H b = none → b ∉ frs X.stack → s1.heap.get? b = some o := fun e n m => J.base.keep _ _ e n m fun z => nomatch (show _ ∈ ([] : List Addr) from z)
  have ofN := kept of0 M.new M.nfr
  refine PySem.W.callWith_F0 ⟨_, _, _, _, ofN⟩ ?_
  obtain ⟨⟨oc, vs, t, hoc, hdc, hvc⟩, _, _⟩ := J.hok c' _ hc
  have dfl : DflTo s1 dV dv := M.dfl.imp id fun ⟨T, e0, e, g1, g2, g3⟩ => ⟨T, e0, e, kept g1 g2 g3⟩
  have bds := hb (X.env.qual ++ "<lambda>") (cloFrom X.env.cells scope.names []) dV doc pm (.ref c') ctv dv s1 hn dfl
  have run : codeAny (model X.prog X.w) (X.A.deeper (PyProof.Rows.envOfC qg sg s.heap.objs.size g cdg)) (.call (.ref f) ⟨[], []⟩) (CR (L2.CX X.prog X.w) (PyProof.Rows.envOfC qg sg s.heap.objs.size g cdg :: X.stack) X.prog X.w H1 s1 Q (E σZ)) s1 := by
    refine PySem.W.kla_callFunE hr.depth ofN rfl L.co L.gen rfl ⟨c', oc, vs, t, rfl, hoc, hdc, by rw [← en]; exact hvc⟩ (bds _ _ _ _ ?_)
    refine wpAny_newFunctionEnv (fun y hy => L.cell y hy) (fun y hy => L.par _ (List.of_mem_zip hy).1) (fun h₁ hns hsb => ⟨J.nolimit.fresh _ hsb, ?_⟩) L.kind
    have B := lam_startP (E := E σZ) (f := f) (c' := c') (tk := s1.toks + (ps.zip dv).length) I L J.env0 hr.hd J.base hns (fun b o e => hsb.extBut b o (Nat.ne_of_lt (Heap.lt_size e)) (Heap.get?_push_of_some _ e)) bd fr
    refine PySem.W.kla_codeExpr (wpAny_mono ((hbody σZ _ _ s1 H1 (hr.deeper _)).run [] _ _ H1 Q B ht) (fun v s' ⟨w', H', J', rv, q⟩ => ?_) fun e s' hq => hq)
    exact ⟨w', H', J'.os, J'.bare, J'.base, J'.hok, rv, q⟩
  refine wpAny_call (codeAny_mono run fun r s' hq => ?_)
  rcases r with e | fl
  · exact hx σZ pinsZ H1 s1 e s' J hq
  · cases fl <;> first | exact J.after hq | exact False.elim hq
end
/-! ### by data -/
def dClo (ex : Xd → DSt → Prop) (i : Nat) (f : Addr) (fl : FX) : DE := fun δ Q => δ[i]? = some (some (.sh (adrD f))) ∧ fl [] (fun r => Q (asD r) δ) (fun x => ex x δ)
/-- a call of what the def got, by data: in contexts that stand behind Hs1 -/
structure Clo (X0 : Cx) (Hs1 : Hp) (a : Str) (i : Nat) (f : Addr) (fl : FX) : Prop where
  run : ∀ (pn : List (Addr × Obj)) (xe : Value → Shared → Prop) (Z : Ent) (ex : Xd → DSt → Prop) (p1 p2 : Pos), Same Hs1 Z.Hs0 → XOk (X0.tr pn xe) Z ex → De (X0.tr pn xe) Z (.Call (.Name a p1) [] [] p2) (dClo ex i f fl)
/-- an expression's reading that may let exceptions out -/
class XEMono (t : (Xd → DSt → Prop) → DE) : Prop where
  m : ∀ (ex ex' : Xd → DSt → Prop) (δ : DSt) (Q Q' : PyData → DSt → Prop), (∀ x δ, ex x δ → ex' x δ) → (∀ d δ', Q d δ' → Q' d δ') → t ex δ Q → t ex' δ Q'
instance {t : DE} [EMono t] : XEMono (fun _ => t) := ⟨fun ex ex' δ Q Q' _ hq q => EMono.m (t := t) _ _ _ hq q⟩
instance {f : FX} {dd : List PyData} {l : DL'} [XMono f] [LMono l] : XEMono (fun ex => dCallX ex f dd l) := ⟨fun ex ex' δ Q Q' hx hq q => LMono.m (t := l) _ _ _ (fun ds δ' z => XMono.m (f := f) _ _ _ _ _ (fun r z => hq _ _ z) (fun x z => hx _ _ z) z) q⟩
/-- what the lambda's names hold: the maker's, then its parameters' values -/
def capt (δ : DSt) (dd : List PyData) : DSt := δ ++ dd.map fun d => some (.sh d)
/-- what a call of the lambda tells: its body over what its names hold -/
def flOf (tb : (Xd → DSt → Prop) → DE) (δ : DSt) : FX := fun ds Q W => ds = [] ∧ tb (fun x _ => W x) δ fun d _ => Q (.d d)
theorem flOf_mono {tb : (Xd → DSt → Prop) → DE} {δ : DSt} (h : XEMono tb) : XMono (flOf tb δ) := ⟨fun ds Q Q' W W' hq hw q => ⟨q.1, h.m _ _ _ _ _ (fun x _ z => hw x z) (fun d _ z => hq _ z) q.2⟩⟩
/-- a promise over what a lambda tells -/
class LamMono (prom : FX → FP) : Prop where
  m : ∀ fl, XMono fl → FMono (prom fl)
/-- the def g, called with the lambda alone -/
def GvOk (P : Program) (w : World) (K : Fg) (mg : Str → Option Value) (base : Heap) (k : Nat) (g : Addr) (N : List Str) (qual a : Str) (scope : Scope) (prom : FX → FP) : Prop :=
  ∀ (A : Around) (outer : List Env) (s : Shared) (H Hs1 : Hp) (f : Addr) (fl : FX) (Q : Res → Prop), Room k A → Env0 P w K mg base A outer s H → XMono fl → Same Hs1 H → (∀ cdv, Room (k - 1) (A.deeper (PyProof.Rows.envOfC qual scope s.heap.objs.size g cdv)) → Clo (cxOf CX0 P w K mg base N qual scope g cdv A outer s H E0) Hs1 a 0 f fl) → prom fl [] Q →
    codeAny (model P w) A (.call (.ref g) ⟨[.ref f], []⟩) (CR CX0 outer P w H s (fun v H' => ∃ r Hs', Rl K (.at H Hs1 [] []) Hs' H' [] [] ∧ ResOk K (.at H Hs1 [] []) Hs' H' [] [] v r ∧ Q r) E0) s
section
variable {P : Program} {w : World} {K : Fg} {mg : Str → Option Value} {base : Heap} {x qual a : Str} {params : Arguments} {body : List Stmt} {scope : Scope} {dvs : List V} {kws : List (Str × V)} {g : Addr} {fd : FuncData} {N : List Str} {k : Nat}
theorem gv_of {prom : FX → FP} (F : FunD K x qual params body scope dvs kws g fd) (S : FnScope N [a] scope) (hbd : Binds K fd [a] [])
    (hb : ∀ (cdv : Value) (A : Around) (outer : List Env) (s : Shared) (H : Hp) (Z : Ent) (f : Addr) (fl : FX), Room k (A.deeper (PyProof.Rows.envOfC qual scope s.heap.objs.size g cdv)) → XMono fl → Clo (cxOf CX0 P w K mg base N qual scope g cdv A outer s H E0) Z.Hs0 a 0 f fl →
      ∃ t, Dss (cxOf CX0 P w K mg base N qual scope g cdv A outer s H E0).nox Z body t ∧ ∀ Q, prom fl [] Q → t (endsP Q) (startD N [adrD f])) : GvOk P w K mg base (k + 1) g N qual a scope prom := by
  intro A outer s H Hs1 f fl Q hr e0 fm sub cl q
  obtain ⟨oc, od, dV, kV, doc, pm, an, cdv, ct, osl, rfl, lk, hcd, _, _⟩ := F.ex
  refine LamX.run_ofS (N := N) (ps := [a]) (us := [.ref f]) (vs := [.ref f]) lk hcd S hr e0 (hbd s [.ref f] (e0.mod.kin.keeps fun b o e => (e0.bs b o e).1) rfl) (.cons rfl .nil) rfl fun hr' => ?_
  obtain ⟨t, ht, hq⟩ := hb cdv A outer s H (.at H Hs1 [] []) f fl hr' fm (cl cdv hr')
  refine ⟨_, ht.run.nox, Hs1, startD N [adrD f], endsP Q, rl_startP sub (.cons (.adr f) .nil), ⟨fun σ δ Hs' H' _ R z => ?_, fun σ δ Hs' H' v e _ R dp z => ?_, fun σ δ Hs' H' v xs _ R fr z => ?_, fun _ _ _ _ _ _ z => z.elim, fun _ _ _ _ _ _ z => z.elim⟩, hq Q q⟩
  · exact ⟨.d .none, Hs', R.nil, .non, z⟩
  · exact ⟨.d e, Hs', R.nil, dp, z⟩
  · obtain ⟨hp, A, fr⟩ := fr
    cases xs with
    | sh d => exact z.elim
    | xn C => exact z.elim
    | ow p ys => cases p with
      | false => exact ⟨.o ys, Hs', R.nil, ⟨A, fr.nil⟩, z⟩
      | true => exact nomatch hp
    | ob p o => cases p with
      | false => exact ⟨.b o, Hs', R.nil, ⟨A, fr.nil⟩, z⟩
      | true => exact nomatch hp
end
/-! ### how lambdas are made -/
/-- the lambda's making: its parameters hold dvs where nothing is handed in -/
def Makes (X : Cx) (params : Arguments) (body : Expr) (scope : Scope) (pos : Pos) (ps : List Str) (dvs : List V) (c : Addr) (nm : Str) : Prop :=
  ∀ (pins : List (Addr × Obj)) (σ : L2.St) (H Hs : Hp) (s : Shared) (P : Addr) (tab : Array Value) (E Q : Value → Shared → Prop), Inv X pins σ H s → LamX.TabB X.base X.mg c P → H P = some (.tbl tab) → TriplesOk tab.toList →
    (∀ (pos : Pos) (cv : Value), codeAmong pos tab.toList = some cv → ∃ c, cv = .ref c ∧ Hs c = some (LamX.CodeO c nm)) →
    (∀ (f c' : Addr) (H1 : Hp) (s' : Shared) (dV : Value) (dv : List Value), dv.length = dvs.length → Bound ps dv dvs → Inv X pins σ H1 s' → Grown Hs H H1 P c' tab nm pos → Made X params body scope dV dv H1 s' f c' → Q (.ref f) s') →
    wpAny (model X.prog X.w) X.A (eval (.Lambda params body scope pos) X.env) Q E s
theorem makes0 {X : Cx} {params : Arguments} {body : Expr} {scope : Scope} {pos : Pos} {c : Addr} {nm : Str} (en : nm = X.env.qual ++ "<lambda>") (hcode : X.env.code = .ref c) (L : LamP X.env.scope scope []) (hdef : defaultsOf params X.env = ([], [])) : Makes X params body scope pos [] [] c nm :=
  fun _ _ _ _ _ _ _ _ _ I TB hP ht ha h => made0 en I TB hcode hP ht ha (L.has I.ok) hdef fun f c' H1 s' J g m => h f c' H1 s' _ _ rfl bound0 J g m
theorem lamBd0 {params : Arguments} {body : Expr} {scope : Scope} (h : ∀ (q : Str) (cl : List (Str × Addr)) (doc pm cv ctv : Value), bindArgs (lamFd q params body scope cl .none doc pm cv ctv) ⟨[], []⟩ = pure []) : LamBd params body scope [] 0 := fun q cl dV doc pm cv ctv dv s e d => by
  rcases d with ⟨rfl, rfl⟩ | ⟨T, e0, rfl, ho⟩
  · exact BindsTo.of_eq (h _ _ _ _ _ _)
  · exact absurd (List.length_eq_zero_iff.mp e) e0
/-! ### x(lambda: ..), in the maker -/
theorem rl_pure {K : Fg} {Hs H : Hp} {σ : L2.St} {δ : DSt} (len : σ.length = δ.length) (sub : Same Hs H) (shr : ∀ (i : Nat) (d : PyData), δ[i]? = some (some (Sl.sh d)) → ∃ v : V, σ[i]? = some (some v) ∧ Dp K Hs v d)
    (no : ∀ (j : Nat) (s : Sl), δ[j]? = some (some s) → ∃ d, s = .sh d) : Rl K (.at H Hs [] []) Hs H σ δ := by
  refine ⟨len, sub, Same.refl _, fun b o e _ => e, fun b n => .inl n, fun b e => (nomatch e), shr, ⟨fun _ => [], ⟨fun j s z o => ?_, fun _ _ => rfl, fun i a m => (nomatch m), fun i a m => (nomatch m), fun i s a _ _ m => (nomatch m), fun i j a n m => (nomatch m), fun i a o m => nomatch m⟩⟩, fun a o m => (nomatch m), fun j s z p => ?_, fun j C z => ?_⟩
  · obtain ⟨d, rfl⟩ := no j s z
    cases o
  · obtain ⟨d, rfl⟩ := no j s z
    cases p
  · obtain ⟨d, e⟩ := no j _ z
    cases e
theorem unown_all {δ : DSt} (j : Nat) (s : Sl) (z : (δ.map unown)[j]? = some (some s)) : ∃ d, s = .sh d := by
  rw [List.getElem?_map] at z
  cases w : δ[j]? with
  | none => rw [w] at z; cases z
  | some o =>
    rw [w] at z
    cases o with
    | none => cases z
    | some s =>
      cases s with
      | sh d => cases z; exact ⟨_, rfl⟩
      | ow p xs => cases z; exact ⟨_, rfl⟩
      | ob p o => cases o <;> first | (cases z; done) | (cases z; exact ⟨_, rfl⟩)
      | xn C => cases z
def dLam (i : Nat) (nm : Str) (dd : List PyData) (prom : FX → FP) (tb : (Xd → DSt → Prop) → DE) : DE := fun δ Q => δ[i]? = some (some (.ob true (.tab nm))) ∧ prom (flOf tb (capt (δ.map unown) dd)) [] fun r => ∃ d, r = .d d ∧ flatD d = true ∧ Q d δ
instance {i : Nat} {nm : Str} {dd : List PyData} {prom : FX → FP} {tb : (Xd → DSt → Prop) → DE} [h : XEMono tb] [pm : LamMono prom] : EMono (dLam i nm dd prom tb) := ⟨fun δ Q Q' hq ⟨e, q⟩ => ⟨e, (pm.m _ (flOf_mono (δ := capt (δ.map unown) dd) h)).m _ _ _ (fun r ⟨d, e1, e2, z⟩ => ⟨d, e1, e2, hq _ _ z⟩) q⟩⟩
theorem lam_mono {i : Nat} {nm : Str} {dd : List PyData} {prom : FX → FP} {tb : (Xd → DSt → Prop) → DE} (h : XEMono tb) (pm : ∀ fl, XMono fl → FMono (prom fl)) : EMono (dLam i nm dd prom tb) := ⟨fun δ Q Q' hq ⟨e, q⟩ => by
  exact ⟨e, (pm _ (flOf_mono (δ := capt (δ.map unown) dd) h)).m _ _ _ (fun r ⟨d, e1, e2, z⟩ => ⟨d, e1, e2, hq _ _ z⟩) q⟩⟩
theorem capt_all {δ : DSt} {dd : List PyData} (h : ∀ (j : Nat) (s : Sl), δ[j]? = some (some s) → ∃ d, s = .sh d) (j : Nat) (s : Sl) (z : (capt δ dd)[j]? = some (some s)) : ∃ d, s = .sh d := by
  unfold capt at z
  by_cases hj : j < δ.length
  · rw [List.getElem?_append_left hj] at z
    exact h j s z
  · rw [List.getElem?_append_right (Nat.le_of_not_lt hj), List.getElem?_map] at z
    cases e : dd[j - δ.length]? with
    | none => rw [e] at z; cases z
    | some d => rw [e] at z; cases z; exact ⟨d, rfl⟩
theorem capt_shr {K : Fg} {Hs : Hp} {σ : L2.St} {δ : DSt} {dd : List PyData} {dvs : List V} (len : σ.length = δ.length) (h : ∀ (i : Nat) (d : PyData), δ[i]? = some (some (Sl.sh d)) → ∃ v : V, σ[i]? = some (some v) ∧ Dp K Hs v d) (hd : DpAll K Hs dvs dd) (i : Nat) (d : PyData) (z : (capt δ dd)[i]? = some (some (Sl.sh d))) :
    ∃ v : V, (σ ++ dvs.map some)[i]? = some (some v) ∧ Dp K Hs v d := by
  unfold capt at z
  by_cases hj : i < δ.length
  · rw [List.getElem?_append_left hj] at z
    obtain ⟨v, e1, e2⟩ := h i d z
    exact ⟨v, by rw [List.getElem?_append_left (by rw [len]; exact hj)]; exact e1, e2⟩
  · rw [List.getElem?_append_right (Nat.le_of_not_lt hj), List.getElem?_map] at z
    cases e : dd[i - δ.length]? with
    | none => rw [e] at z; cases z
    | some d' =>
      rw [e] at z
      cases z
      obtain ⟨v, e1, e2⟩ := hd.get e
      exact ⟨v, by rw [List.getElem?_append_right (by rw [len]; exact Nat.le_of_not_lt hj), List.getElem?_map, len, e1]; rfl, e2⟩
theorem capt_len {σ : L2.St} {δ : DSt} {dd : List PyData} {dvs : List V} (len : σ.length = δ.length) (h : dvs.length = dd.length) : (σ ++ dvs.map some).length = (capt δ dd).length := by
  unfold capt
  rw [List.length_append, List.length_append, List.length_map, List.length_map, len, h]
section
variable {X : Cx} {Z : Ent} {pos lpos p : Pos} {x a nm : Str} {g c P : Addr} {k i : Nat} {Ng ps : List Str} {sg : Scope} {prom : FX → FP} {params : Arguments} {body : Expr} {scope : Scope} {tb : (Xd → DSt → Prop) → DE} {dvs : List V} {dd : List PyData}
theorem de_lam (i : Nat) (mk : Makes X params body scope lpos ps dvs c nm) (en : nm = X.env.qual ++ "<lambda>") (L : LamP X.env.scope scope ps) (hb : LamBd params body scope ps dvs.length) (fr : ∀ y ∈ ps, y ∉ X.N) (hdd : ∀ H, DpAll X.K H dvs dd)
    (G : GvOk X.prog X.w X.K X.mg X.base (k + 2) g Ng x a sg prom) (pm : ∀ fl, XMono fl → FMono (prom fl)) (hg : Gl X x) (hm : X.mg x = some (.ref g)) (hk : PySem.W.keepIn X.K (.ref g) = true) (hNg : Ng[0]? = some a) (hva : Vis sg a)
    (TB : ∀ Q, Z.σ0[i]? = some (some (.ref Q)) → LamX.TabB X.base X.mg c Q) (hr : Room (k + 2) X.A) (hx : XEMono tb)
    (hbody : ∀ (A : Around) (outer : List Env) (s : Shared) (H : Hp) (E : XK) (f c' : Addr) (Z' : Ent) (ex : Xd → DSt → Prop), Room k (A.deeper (LamX.lamEnv X scope s.heap.objs.size f c')) → XOk (lamCxP X A outer s H E scope f c' ps) Z' ex → De (lamCxP X A outer s H E scope f c' ps) Z' body (tb ex))
    (hdb : (x == ("__debug__" : Str)) = false := by decide) (hd : (a == ("__debug__" : Str)) = false := by decide) (hcd : (a == ("__classdict__" : Str)) = false := by decide) :
    De X Z (.Call (.Name x p) [.Lambda params body scope lpos] [] pos) (dLam i nm dd prom tb) := by
  have mo : EMono (dLam i nm dd prom tb) := lam_mono hx pm
  refine ⟨⟨fun pins s σ H Q I ⟨Hs, δ, R, e, q⟩ => ?_⟩, mo.m⟩
  obtain ⟨f0, F0⟩ := R.fps
  obtain ⟨v, hv, at_⟩ := F0.at_ i _ e rfl
  generalize f0 i = A0 at at_
  cases at_ with
  | @tab P _ _ tab hP ht ha =>
  have hσ : Z.σ0[i]? = some (some (.ref P)) := (R.prm i _ e rfl).symm.trans hv
  refine wpAny_Call_Name_kw (ld_glob I hg hm ?_ hdb)
  refine PySem.W.callWith_K (h₀ := X.base) I.ok.mod.kin hk ?_ (by rfl) (by rfl)
  show wpAny _ _ (spliced ((false, eval (.Lambda params body scope lpos) X.env) :: backTo pos (starEach [] X.env))) _ _ s
  refine Calls.spliced_cons (mk pins σ H Hs s P tab _ _ I (TB P hσ) hP ht ha fun f c' H1 s' dV dv hn bd I1 hh M => ?_)
  refine Calls.spliced_nil ⟨I1.kIn, ?_⟩
  obtain ⟨Hs1, s1, R1, hc1⟩ : ∃ Hs1, Same Hs Hs1 ∧ Rl X.K Z Hs1 H1 σ δ ∧ Hs1 c' = some (LamX.CodeO c' nm) := by
    rcases hh with ⟨h1, h2⟩ | ⟨h1, h2⟩
    · exact ⟨Hs, Same.refl _, by rw [h1]; exact R, h2⟩
    · exact ⟨_, same_new (R.hsn h1), R.lam e hv hP ht ha h2 h1, upd_same⟩
  obtain ⟨Hs2, s2, R2⟩ := lend_all R1
  have cl : ∀ cdv, Room (k + 1) (X.A.deeper (PyProof.Rows.envOfC x sg s'.heap.objs.size g cdv)) → Clo (cxOf CX0 X.prog X.w X.K X.mg X.base Ng x sg g cdv X.A X.stack s' H1 E0) Hs2 a 0 f (flOf tb (capt (δ.map unown) dd)) := fun cdv hr2 => by
    refine ⟨fun pn xe Z2 ex p1 p2 hsame xo => ⟨pe_imp (pe_actP (i := 0) (E := fun σZ => WE (canon _) σZ)
      (tb := fun σZ σ H Q => ∃ (Z3 : Ent) (exl : Xd → DSt → Prop), (∀ Hs' H' σl δl cls d y, Rl X.K Z3 Hs' H' σl δl → XAt X.K Hs' cls d y → exl y δl → WE (canon ((cxOf CX0 X.prog X.w X.K X.mg X.base Ng x sg g cdv X.A X.stack s' H1 E0).tr pn xe)) σZ cls d H') ∧ lE X.K Z3 (tb exl) σ H Q)
      en I1 L M hb hn bd fr (fun σZ => passAt (takes_canon _) σZ) hr2 (fun σZ A outer s H hr3 => ⟨fun pins s1 σ1 H1 Q1 J ⟨Z3, exl, hex, q⟩ =>
        (hbody A outer s H _ f c' Z3 exl hr3 (fun Hs' H' σ' δ' cls d y R4 xa z => canon_of (takes_of rfl rfl rfl rfl) (hex Hs' H' σ' δ' cls d y R4 xa z))).run.run pins s1 σ1 H1 Q1 J q⟩) hNg hva hd hcd) fun σZ HZ Qz ⟨HsZ, δZ, RZ, e1, q⟩ => ?_,
      fun δ' Q Q' hq ⟨e1, q⟩ => ⟨e1, (flOf_mono hx).m _ _ _ _ _ (fun r z => hq _ _ z) (fun _ z => z) q⟩⟩⟩
    have sZ : Same Hs2 HsZ := hsame.trans RZ.ext
    obtain ⟨v, e2, dp⟩ := RZ.shr 0 _ e1
    rw [dp_adr dp] at e2
    refine ⟨e2, RZ.sub _ _ (sZ _ _ (s2 _ _ hc1)), .at HZ HsZ [] [], fun y _ => ex y δZ, fun Hs' H' σl δl cls d y R4 xa z => xo Hs' H' σZ δZ cls d y (RZ.after R4.nil) xa z, HsZ, capt (δ.map unown) dd, ?_, ?_⟩
    · exact rl_pure (capt_len R2.len (hdd HsZ).len) RZ.sub (capt_shr R2.len (fun j d z => (R2.shr j d z).elim fun v z => ⟨v, z.1, z.2.up sZ⟩) (hdd HsZ)) (capt_all unown_all)
    · exact hx.m _ _ _ _ _ (fun _ _ z => z) (fun d δ' z v Hs' H' s R4 dp => z v Hs' H' s (RZ.after R4.nil) dp) q.2
  have rc := G X.A X.stack s' H1 Hs2 f _ _ hr I1.env0 (flOf_mono hx) R2.sub cl q
  refine wpAny_call (codeAny_mono rc fun r s3 hq => ?_)
  rcases r with e | fl
  · exact (show False from hq).elim
  · cases fl with
    | ret u =>
      obtain ⟨v, H', I2, rv, r, Hs', R3, c, d, e1, e2, z⟩ := I1.after hq
      subst e1
      exact ⟨v, H', I2, rv, z v Hs1 H' s1 (lend_out R1 (R2.after R3)) (dp_flat e2 c)⟩
    | next => exact False.elim hq
    | brk => exact False.elim hq
    | cont => exact False.elim hq
end
end DL

/-! DIb: a def that makes lambdas: its table stands in a slot that no name tells; the head with tables. -/
namespace DL
open PySem PySem.Spec L2
/-- the slot i, whose name the def's scope does not know, may hold anything -/
theorem inv_ghost {X : Cx} {pins : List (Addr × Obj)} {σ : L2.St} {H : Hp} {s : Shared} {i : Nat} {y : Str} {o : Option V} (I : Inv X pins σ H s) (hN : X.N[i]? = some y) (hv : X.env.scope.names.lookup y = none) : Inv X pins (σ.set i o) H s := by
  refine { I with loc := ?_, len := by rw [List.length_set]; exact I.len }
  obtain ⟨m, h1, h2⟩ := I.loc
  refine ⟨m, h1, fun j x v e1 e2 hx => ?_⟩
  by_cases h : j = i
  · subst h
    rw [hN] at e1
    cases e1
    rcases hx with z | z | z <;> rw [show X.env.scope.names.lookup y = _ from z] at hv <;> cases hv
  · rw [List.getElem?_set_ne (fun z => h z.symm)] at e2
    exact h2 j x v e1 e2 hx
/-- a def that is told by its table: P, empty as yet -/
def spT (K : Fg) (P : Addr) (f : FP) : Sp := fun vs H Q _ => ∃ Hs ds, Same Hs H ∧ Hs P = none ∧ H P = some (.tbl #[]) ∧ DpAll K Hs vs ds ∧ f ds fun r => ∃ d, r = .d d ∧ flatD d = true ∧ ∀ v H', Dp K H' v d → Q v H'
/-- the slots of such a def as it begins -/
def startT (N : List Str) (ds : List PyData) (i : Nat) (nm : Str) : DSt := (startD N ds).set i (some (.ob true (.tab nm)))
theorem rl_startT {K : Fg} {N : List Str} {Hs H : Hp} {vs : List V} {ds : List PyData} {i : Nat} {nm : Str} {P : Addr} (sub : Same Hs H) (d : DpAll K Hs vs ds) (h1 : Hs P = none) (h2 : H P = some (.tbl #[])) (hl : vs.length ≤ i) (hi : i < N.length) :
    Rl K ⟨H, Hs, [P], [], (start N vs).set i (some (.ref P)), none, fun _ => i⟩ Hs H ((start N vs).set i (some (.ref P))) (startT N ds i nm) := by
  have R := rl_startP (N := N) (σ0 := []) (xa := none) (ex := fun _ => 0) sub d
  have len := R.len
  have hi' : i < (startD N ds).length := by
    unfold startD
    rw [List.length_append, List.length_map, List.length_replicate]
    omega
  have get : ∀ (j : Nat) (s : Sl), (startT N ds i nm)[j]? = some (some s) → (j = i ∧ s = .ob true (.tab nm)) ∨ (j ≠ i ∧ ∃ d, s = .sh d ∧ (startD N ds)[j]? = some (some (.sh d))) := fun j s z => by
    unfold startT at z
    rcases get_set z with ⟨e1, e2⟩ | ⟨e1, e2⟩
    · exact .inl ⟨e1.symm, (Option.some.inj e2).symm⟩
    · obtain ⟨d', e3, e4⟩ := startD_get e2
      exact .inr ⟨fun z => e1 z.symm, d', e4, by rw [e2, e4]⟩
  refine ⟨by unfold startT; rw [List.length_set, List.length_set]; exact len, sub, Same.refl _, fun b o e _ => e, fun b n => .inl n, fun b e => ?_, fun j d z => ?_, ⟨fun j => if j = i then [P] else [], ⟨fun j s z o => ?_, fun j z => ?_, fun j a m => ?_, fun j a m => ?_, fun j s a z p m => ?_, fun j k a n m => ?_, fun j a o m => nofun⟩⟩, fun a o m => (nomatch m), fun j s z p => rfl, fun j C z => ?_⟩
  · rw [List.mem_singleton.mp e, h2]
    exact ⟨h1, fun z => nomatch z⟩
  · rcases get j _ z with ⟨_, e⟩ | ⟨n, d', e, e2⟩
    · cases e
    · cases e
      obtain ⟨v, k1, k2⟩ := R.shr j d e2
      exact ⟨v, by rw [List.getElem?_set_ne (fun z => n z.symm)]; exact k1, k2⟩
  · rcases get j s z with ⟨e1, e2⟩ | ⟨n, d', e, _⟩
    · subst e1 e2
      refine ⟨.ref P, ?_, ?_⟩
      · rw [List.getElem?_set_self]
        rw [len]
        exact hi'
      · simp only [if_true]
        exact .tab h2 True.intro fun pos cv z => by simp [codeAmong] at z
    · rw [e] at o
      cases o
  · by_cases q : j = i
    · have := z (.ob true (.tab nm)) (by unfold startT; rw [q, List.getElem?_set_self hi'])
      cases this
    · exact if_neg q
  · by_cases q : j = i
    · simp only [q, if_true] at m
      rw [List.mem_singleton.mp m]
      exact h1
    · simp only [if_neg q] at m
      cases m
  · by_cases q : j = i
    · simp only [q, if_true] at m
      exact .inr ⟨m, q.symm⟩
    · simp only [if_neg q] at m
      cases m
  · rcases get j s z with ⟨e1, e2⟩ | ⟨n, d', e, _⟩
    · rw [e2] at p
      cases p
    · simp only [if_neg n] at m
      cases m
  · by_cases q : j = i
    · have q2 : k ≠ i := fun z => n (q.trans z.symm)
      simp only [if_neg q2]
      exact fun z => nomatch z
    · simp only [if_neg q] at m
      cases m
  · rcases get j _ z with ⟨_, e⟩ | ⟨n, d', e, _⟩ <;> cases e
section
variable {P : Program} {w : World} {K : Fg} {mg : Str → Option Value} {base : Heap} {x qual : Str} {params : Arguments} {body : List Stmt} {scope : Scope} {dvs : List V} {kws : List (Str × V)} {f : Addr} {fd : FuncData} {N ps : List Str} {k : Nat}
/-- a def that makes lambdas keeps its promise -/
theorem ok_tab {fn : FP} {nm y : Str} (i : Nat) (p : He.Defn) (hp : He.fAd K p = f) (F : FunD K x qual params body scope dvs kws f fd) (S : FnScope N ps scope) (hN : N[i]? = some y) (hy : scope.names.lookup y = none) (hpi : ps.length ≤ i) (fm : FMono fn) (len : ∀ ds Q, fn ds Q → ds.length = ps.length)
    (hb : ∀ (cdv : Value) (A : Around) (outer : List Env) (s : Shared) (H : Hp) (Z : Ent), Room k (A.deeper (PyProof.Rows.envOfC qual scope s.heap.objs.size f cdv)) → cdv = .ref (He.cT K p).1 → Z.σ0[i]? = some (some (.ref (He.cT K p).2)) →
      ∃ t, Dss (cxOf CX0 P w K mg base N qual scope f cdv A outer s H E0).nox Z body t ∧ ∀ ds Q, fn ds Q → t (endsP Q) (startT N ds i nm)) : FnOk P w K mg base CX0 (k + 1) f fd ps (spT K (He.cT K p).2 fn) := by
  obtain ⟨oc, od, dV, kV, doc, pm, an, cdv, ct, osl, rfl, lk, hcd, _, _⟩ := F.ex
  obtain ⟨c, rfl⟩ := He.codeIn_ref hcd
  have hc : He.codeOf K p = c := He.codeOf_eq (by rw [hp]; exact lk) rfl
  have hc1 : (He.cT K p).1 = c := hc
  refine fn_of lk hcd S (fun vs H Q E h => ?_) (fun A outer s H vs Q E hr h => ?_)
  · obtain ⟨Hs, ds, _, _, _, d, q⟩ := h
    rw [d.len]
    exact len _ _ q
  · obtain ⟨Hs, ds, sub, h1, h2, d, q⟩ := h
    have hl : vs.length ≤ i := by rw [d.len, len _ _ q]; exact hpi
    have hi : i < N.length := (List.getElem?_eq_some_iff.mp hN).1
    have R := rl_startT (nm := nm) sub d h1 h2 hl hi
    have hσ : ((start N vs).set i (some (V.ref (He.cT K p).2)))[i]? = some (some (.ref (He.cT K p).2)) := by
      have l1 := R.len
      rw [List.length_set] at l1
      rw [List.getElem?_set_self]
      rw [l1]
      unfold startT startD
      rw [List.length_set, List.length_append, List.length_map, List.length_replicate]
      omega
    obtain ⟨t, ht, hq⟩ := hb (.ref c) A outer s H ⟨H, Hs, [(He.cT K p).2], [], (start N vs).set i (some (.ref (He.cT K p).2)), none, fun _ => i⟩ hr (by rw [hc1]) hσ
    have hE : E0 = E ∨ True := .inr trivial
    refine ⟨fun D σ H' => lS K ⟨H, Hs, [(He.cT K p).2], [], (start N vs).set i (some (.ref (He.cT K p).2)), none, fun _ => i⟩ t D (σ.set i (some (.ref (He.cT K p).2))) H', ⟨fun pins s σ H' D I z => ?_⟩, ?_⟩
    · exact ht.run.nox.run pins s _ H' D (inv_ghost I hN hy) z
    · refine ⟨Hs, _, endsP _, R, ⟨fun σ δ Hs' H' _ R z => ?_, fun σ δ Hs' H' v e _ R dp z => ?_, fun σ δ Hs' H' v xs _ R fr z => ?_, fun _ _ _ _ _ _ z => z.elim, fun _ _ _ _ _ _ z => z.elim⟩, hq ds _ q⟩
      · obtain ⟨d, e1, e2, z⟩ := z
        cases e1
        exact z .non H' .non
      · obtain ⟨d, e1, e2, z⟩ := z
        cases e1
        exact z v H' (dp_flat e2 dp)
      · obtain ⟨hp, A, fr⟩ := fr
        cases xs with
        | sh d => exact z.elim
        | xn C => exact z.elim
        | ow p ys => obtain ⟨d, e1, _⟩ := z; cases e1
        | ob p o => obtain ⟨d, e1, _⟩ := z; cases e1
end
theorem tab_at {σ0 : L2.St} {i : Nat} {P c : Addr} {base : Heap} {mg : Str → Option Value} (hZ : σ0[i]? = some (some (V.ref P))) (h : LamX.TabB base mg c P) : ∀ Q, σ0[i]? = some (some (V.ref Q)) → LamX.TabB base mg c Q := fun Q e => by
  rw [hZ] at e
  cases e
  exact h
end DL

/-! DIc: the head of a law whose defs make lambdas: empty tables are left out of what is known to stay. -/
noncomputable section
namespace DL
open PySem PySem.W HandSHeadRun
def obsTG (as : List Addr) (fa : List He.Fa) (fn : List He.DefD) (cs : List (PySem.Str × PyData)) (fb : List Fb) (tf : List He.Defn) (g : Addr → Option Obj) : AlB × Bool := (obsB fa fn cs fb (He.frT g as), He.tabsB g tf (He.frT g as))
/-- what is told of the defs that make lambdas -/
structure SaysTb (tf : List He.Defn) (h : Heap) (K : PySem.W.Frag) : Prop where
  hd : ∀ p ∈ tf, PySem.W.codeHdIn K (He.cT K p).1 (He.cT K p).2 = true
  out : ∀ p ∈ tf, K.lookup (He.cT K p).2 = none
  emp : ∀ p ∈ tf, h.get? (He.cT K p).2 = some { cls := .none, data := .fields #[] }
theorem saysTb_of {as : List Addr} {tf : List He.Defn} {h : Heap} (e : He.tabsB h.get? tf (He.frT h.get? as) = true) : SaysTb tf h (He.frT h.get? as) := by
  have key : ∀ p ∈ tf, PySem.W.codeHdIn (He.frT h.get? as) (He.cT (He.frT h.get? as) p).1 (He.cT (He.frT h.get? as) p).2 = true ∧ ∃ o, h.get? (He.cT (He.frT h.get? as) p).2 = some o ∧ He.emptyTab o = true := fun p hp => by
    obtain ⟨h1, h2⟩ := He.ba (List.all_eq_true.mp e p hp)
    refine ⟨h1, ?_⟩
    cases q : h.get? (He.cT (He.frT h.get? as) p).2 with
    | none =>
      rw [q] at h2
      cases h2
    | some o =>
      rw [q] at h2
      exact ⟨o, rfl, h2⟩
  refine ⟨fun p hp => (key p hp).1, fun p hp => ?_, fun p hp => ?_⟩
  · obtain ⟨_, o, q, z⟩ := key p hp
    exact He.frT_none q z
  · obtain ⟨_, o, q, z⟩ := key p hp
    rw [q, He.emptyTab_eq z]
def hookT (as : List Addr) (fa : List He.Fa) (fn : List He.DefD) (cs : List (PySem.Str × PyData)) (fb : List Fb) (tf : List He.Defn) : PySem.W.Hook where
  α := AlB × Bool
  obs := fun s => obsTG as fa fn cs fb tf s.heap.get?
  val := fun _ => (((He.valD fn, true), true), true)
  says := fun _ h => ∃ K : PySem.W.Frag, K.In h ∧ SaysB fa fn cs fb K ∧ SaysTb tf h K
  of := fun _ _ e => ⟨_, He.frT_in, congrArg Prod.fst e, saysTb_of (congrArg Prod.snd e)⟩
  keeps := fun _ _ _ ⟨K, hK, c, t⟩ k => ⟨K, PySem.W.Frag.In.keeps hK k, c, t.hd, t.out, fun p hp => k _ _ (t.emp p hp)⟩
theorem obsTG_eq {as : List Addr} {fa : List He.Fa} {fn : List He.DefD} {cs : List (PySem.Str × PyData)} {fb : List Fb} {tf : List He.Defn} {g : Addr → Option Obj} {s : Shared} (h : ∀ a, g a = s.heap.get? a) : obsTG as fa fn cs fb tf g = (hookT as fa fn cs fb tf).obs s := by
  have e : g = s.heap.get? := funext h
  rw [e] <;> rfl
end DL
namespace DL
open PySem PySem.Spec L2
theorem law_startT {K : Fg} {H : Hp} {a P : Addr} {ns : List Int} {E : XK} (hl : ns.length ≤ 63) (hP : H P = some (.tbl #[])) (hS : SqL K H a (ns.map V.int)) : spT K P f_law [.ref a] H (fun v _ => v = .bl true) E := by
  have hS' : SqL K (fun b => if b = P then none else H b) a (ns.map V.int) := by
    have ne : ∀ o, H a = some o → (∀ ps, o ≠ .tbl ps) → a ≠ P := fun o e n z => by
      rw [z, hP] at e
      exact n _ (Option.some.inj e).symm
    rcases hS with (h | ⟨o, h⟩) | h
    · exact .inl (.inl ((if_neg (ne _ h fun ps z => nomatch z)).trans h))
    · exact .inl (.inr ⟨o, (if_neg (ne _ h fun ps z => nomatch z)).trans h⟩)
    · exact .inr h
  refine ⟨fun b => if b = P then none else H b, [.list (ns.map .int)], fun b o e => ?_, if_pos rfl, hP, .cons (.lst hS' (DpAll.ints ns)) .nil, ns, rfl, hl, .bool true, rfl, rfl, fun v H' d => ?_⟩
  · by_cases q : b = P
    · have e : (if b = P then none else H b) = some o := e
      rw [if_pos q] at e
      cases e
    · have e : (if b = P then none else H b) = some o := e
      rw [if_neg q] at e
      exact e
  · cases d
    rfl
end DL

/-! DId: a lambda over an object of the maker's own: the def that calls it holds the object in a slot whose name no scope knows. -/
namespace DL
open PySem PySem.Spec L2
section
variable {K : Fg} {Hs H Hs0 H0 : Hp} {σ σ0 : L2.St} {δ : DSt} {j : Nat} {v : V} {s : Sl} {A : List Addr}
end
/-! ### what such a lambda tells -/
abbrev FO := Ob → (Res → Ob → Prop) → (Xd → Ob → Prop) → Prop
class FOMono (f : FO) : Prop where
  m : ∀ (o : Ob) (Q Q' : Res → Ob → Prop) (W W' : Xd → Ob → Prop), (∀ r o, Q r o → Q' r o) → (∀ x o, W x o → W' x o) → f o Q W → f o Q' W'
abbrev PO := FO → Ob → (Res → Ob → Prop) → Prop
class POMono (p : PO) : Prop where
  m : ∀ fl, FOMono fl → ∀ (o : Ob) (Q Q' : Res → Ob → Prop), (∀ r o, Q r o → Q' r o) → p fl o Q → p fl o Q'
section
variable {P : Program} {w : World} {K : Fg} {mg : Str → Option Value} {base : Heap} {x qual a y : Str} {params : Arguments} {body : List Stmt} {scope : Scope} {dvs : List V} {kws : List (Str × V)} {g : Addr} {fd : FuncData} {N : List Str} {k : Nat}
end
/-! ### x(lambda: ..), in the maker -/
section
variable {X : Cx} {Z : Ent} {pos lpos p : Pos} {x a nm : Str} {g c P : Addr} {k i : Nat} {Ng ps : List Str} {sg : Scope} {prom : PO} {params : Arguments} {body : Expr} {scope : Scope} {tb : (Xd → DSt → Prop) → DE} {dvs : List V} {dd : List PyData}
end
end DL

namespace Lw
open PySem PySem.Spec L2 DL DM
open DR SX
def fx_ratio0 : FX := fun ds Q W => ∃ a : Int, ds = [.int a, .int 0] ∧ W ⟨"OverNought", []⟩
instance : XMono fx_ratio0 := ⟨fun ds Q Q' W W' hq hw ⟨a, e, h⟩ => ⟨a, e, hw _ h⟩⟩
def fx_over0 : FX := fun ds Q W => ∃ u : Rat, ds = [numD u, numD 0] ∧ Bd 200 u ∧ W ⟨"OverNought", []⟩
instance : XMono fx_over0 := ⟨fun ds Q Q' W W' hq hw ⟨a, e, e2, h⟩ => ⟨a, e, e2, hw _ h⟩⟩
/-- a deed that is refused with OverNought -/
def f_refo (fl : FX) : FP := fun ds Q => ds = [] ∧ fl [] (fun _ => False) (fun x => x = ⟨"OverNought", []⟩) ∧ Q (.d (.bool true))
theorem refo_mono : LamMono f_refo := ⟨fun fl h => ⟨fun ds Q Q' hq ⟨e, a, b⟩ => ⟨e, a, hq _ b⟩⟩⟩
def f_txright : FP := fun ds Q => ∃ u : Rat, ds = [numD u] ∧ Bd 200 u ∧ Q (.d (.bool true))
instance : FMono f_txright := ⟨fun _ _ _ h' ⟨a, h1, h2, h3⟩ => ⟨a, h1, h2, h' _ h3⟩⟩
-- simp: dClo, dLam, startT, flOf, unown, capt

local macro_rules | `(tactic| walk_at "dl") => `(tactic| simp only [noF_non, noF_bool, noF_int, noF_str, noF_list, noF_tup, noF_ins, noF_num, isStr_s, dSplit, str_i, str_s, dFmt, dJoin, dJs, obD_inj, Ob.nst.injEq, Fv.l.injEq, Fv.la.injEq, forall_const, dAsD, dAsO, dAsB, resO_o, resB_b, dShB, slots_nil, slots_d, slots, Pc.get, Pc.put, Pc.ix, nd_nil, nd_one, outG_nil, outG_sh, outG_ow, outG_ob, frzD_ins, fvD, Sl.ob.injEq, Option.map_some, List.tail_cons, slotsOnly, exists_eq_left', dTryAs, dCallX, dIsE, dRaise, suEnds, unxn, noxn_sh, noxn_ow, noxn_none, noxn_xn, List.getD_cons_zero, List.getD_cons_succ, lent, unown_sh, unown_ow, unown_dct, unown_ins, unown_none, isT_int_dict, isT_bool_dict, isT_tuple_dict, isT_str_dict, isT_list_dict, dI_one, dI_add, dI_sub, dI_mul, dI_div, decide_true, decide_false, dwipe, Option.map_some, List.all_cons, List.all_nil, List.any_cons, List.any_nil, id_eq, dSeq, dSet, dSetO, dIfS, dRet, dRetO, dCall, dCallO, dCallB, dCB, dOp, dVar, dC, dTup, dLst, dCons, dNil, dShare, dTru, dTst, dOr, dNot, dAndV, dNotV, dIxO, dSetIx, dPar, dDrop, dNx, dNever, gNm, dIsi, rEqq, rNeq, rAbs, DL.rMax, DL.rMin, atB, endsP, endsB, startD, startB, List.map_cons, List.map_nil, List.length_cons, List.length_nil, List.append_nil, List.cons_append, List.nil_append, List.reduceReplicate, List.replicate_zero, Nat.reduceAdd, Nat.reduceSub, List.getElem?_cons_zero, List.getElem?_cons_succ, List.set_cons_zero, List.set_cons_succ, exists_eq_left, exists_eq_left', exists_eq_right, Option.some.injEq, true_and, and_true, PyData.int.injEq, PyData.bool.injEq, PyData.tuple.injEq, PyData.list.injEq, Sl.sh.injEq, exists_eq', atI_0, atI_1, atI_2, atI_3, atI_4, ixN_0, ixN_1, ixN_2, ap_over, ap_shared, ap_ratio, List.cons.injEq, and_assoc, exists_and_left, numD_inj,
  rII_int, rIx_tup, rIx_list, rIx_num0, rIx_num1, asD_d, asD_o, tru_none, tru_bool, tru_int, tru_list, tru_tuple, tru_num, rLen_list, rLen_tuple, rLen_str, rLen_num, sh_none, sh_bool, sh_int, sh_num, sh_nn, eqv_nn, eqv_bb, eqv_ii, eqv_ss, eqv_tt, eqv_ll, eqvAll_nil, eqvAll_cons, eqv_num, eqv_num_none, eqv_none_num, isT_int_NoneType, isT_int_bool, isT_int_int, isT_int_str, isT_int_list, isT_int_tuple, isT_int_num, isT_bool_NoneType, isT_bool_bool, isT_bool_int, isT_bool_str, isT_bool_list, isT_bool_tuple, isT_bool_num, isT_tuple_NoneType, isT_tuple_bool, isT_tuple_int, isT_tuple_str, isT_tuple_list, isT_tuple_tuple, isT_tuple_num, isT_str_NoneType, isT_str_bool, isT_str_int, isT_str_str, isT_str_list, isT_str_tuple, isT_str_num, isT_list_NoneType, isT_list_bool, isT_list_int, isT_list_str, isT_list_list, isT_list_tuple, isT_list_num, Bool.not_true, Bool.not_false, Bool.and_true, Bool.true_and, Bool.false_and, Bool.and_false, sizeLine_eq, Nat.reduceLeDiff, Nat.reduceLT, dClo, dLam, startT, flOf, unown, capt])
local macro_rules | `(tactic| walk_at "dk") => `(tactic| simp only [noF_non, noF_bool, noF_int, noF_str, noF_list, noF_tup, noF_ins, noF_num, isStr_s, dSplit, str_i, str_s, dFmt, dJoin, dJs, obD_inj, Ob.nst.injEq, Fv.l.injEq, Fv.la.injEq, forall_const, dAsD, dAsO, dAsB, resO_o, resB_b, dShB, slots_nil, slots_d, slots, Pc.get, Pc.put, Pc.ix, nd_nil, nd_one, outG_nil, outG_sh, outG_ow, outG_ob, frzD_ins, fvD, Sl.ob.injEq, Option.map_some, List.tail_cons, slotsOnly, exists_eq_left', dTryAs, dCallX, dIsE, dRaise, suEnds, unxn, noxn_sh, noxn_ow, noxn_none, noxn_xn, List.getD_cons_zero, List.getD_cons_succ, lent, unown_sh, unown_ow, unown_dct, unown_ins, unown_none, isT_int_dict, isT_bool_dict, isT_tuple_dict, isT_str_dict, isT_list_dict, dI_one, dI_add, dI_sub, dI_mul, dI_div, decide_true, decide_false, dwipe, Option.map_some, List.all_cons, List.all_nil, List.any_cons, List.any_nil, id_eq, dSeq, dSet, dSetO, dIfS, dRet, dRetO, dCall, dCallO, dCallB, dCB, dOp, dVar, dC, dTup, dLst, dCons, dNil, dShare, dTru, dTst, dOr, dNot, dAndV, dNotV, dIxO, dSetIx, dPar, dDrop, dNx, dNever, gNm, dIsi, rEqq, rNeq, rAbs, DL.rMax, DL.rMin, atB, endsP, endsB, startD, startB, List.map_cons, List.map_nil, List.length_cons, List.length_nil, List.append_nil, List.cons_append, List.nil_append, List.reduceReplicate, List.replicate_zero, Nat.reduceAdd, Nat.reduceSub, List.getElem?_cons_zero, List.getElem?_cons_succ, List.set_cons_zero, List.set_cons_succ, exists_eq_left, exists_eq_left', exists_eq_right, Option.some.injEq, true_and, and_true, PyData.int.injEq, PyData.bool.injEq, PyData.tuple.injEq, PyData.list.injEq, Sl.sh.injEq, exists_eq', atI_0, atI_1, atI_2, atI_3, atI_4, ixN_0, ixN_1, ixN_2, ap_over, ap_shared, ap_ratio, List.cons.injEq, and_assoc, exists_and_left, numD_inj,
  rII_int, rIx_tup, rIx_list, rIx_num0, rIx_num1, asD_d, asD_o, tru_none, tru_bool, tru_int, tru_list, tru_tuple, tru_num, rLen_list, rLen_tuple, rLen_str, rLen_num, sh_none, sh_bool, sh_int, sh_num, sh_nn, eqv_nn, eqv_bb, eqv_ii, eqv_ss, eqv_tt, eqv_ll, eqvAll_nil, eqvAll_cons, eqv_num, eqv_num_none, eqv_none_num, isT_int_NoneType, isT_int_bool, isT_int_int, isT_int_str, isT_int_list, isT_int_tuple, isT_int_num, isT_bool_NoneType, isT_bool_bool, isT_bool_int, isT_bool_str, isT_bool_list, isT_bool_tuple, isT_bool_num, isT_tuple_NoneType, isT_tuple_bool, isT_tuple_int, isT_tuple_str, isT_tuple_list, isT_tuple_tuple, isT_tuple_num, isT_str_NoneType, isT_str_bool, isT_str_int, isT_str_str, isT_str_list, isT_str_tuple, isT_str_num, isT_list_NoneType, isT_list_bool, isT_list_int, isT_list_str, isT_list_list, isT_list_tuple, isT_list_num, Bool.not_true, Bool.not_false, Bool.and_true, Bool.true_and, Bool.false_and, Bool.and_false, sizeLine_eq, Nat.reduceLeDiff, Nat.reduceLT, dClo, dLam, startT, flOf, unown, capt])
local macro_rules | `(tactic| walk_at "ds") => `(tactic| simp only [noF_non, noF_bool, noF_int, noF_str, noF_list, noF_tup, noF_ins, noF_num, isStr_s, dSplit, str_i, str_s, dFmt, dJoin, dJs, obD_inj, Ob.nst.injEq, Fv.l.injEq, Fv.la.injEq, forall_const, dAsD, dAsO, dAsB, resO_o, resB_b, dShB, slots_nil, slots_d, slots, Pc.get, Pc.put, Pc.ix, nd_nil, nd_one, outG_nil, outG_sh, outG_ow, outG_ob, frzD_ins, fvD, Sl.ob.injEq, Option.map_some, List.tail_cons, slotsOnly, exists_eq_left', dTryAs, dCallX, dIsE, dRaise, suEnds, unxn, noxn_sh, noxn_ow, noxn_none, noxn_xn, List.getD_cons_zero, List.getD_cons_succ, lent, unown_sh, unown_ow, unown_dct, unown_ins, unown_none, isT_int_dict, isT_bool_dict, isT_tuple_dict, isT_str_dict, isT_list_dict, dI_one, dI_add, dI_sub, dI_mul, dI_div, decide_true, decide_false, dwipe, Option.map_some, List.all_cons, List.all_nil, List.any_cons, List.any_nil, id_eq, dSeq, dSet, dSetO, dIfS, dRet, dRetO, dCall, dCallO, dCallB, dCB, dOp, dVar, dC, dTup, dLst, dCons, dNil, dShare, dTru, dTst, dOr, dNot, dAndV, dNotV, dIxO, dSetIx, dPar, dDrop, dNx, dNever, gNm, dIsi, rEqq, rNeq, rAbs, DL.rMax, DL.rMin, atB, endsP, endsB, startD, startB, List.map_cons, List.map_nil, List.length_cons, List.length_nil, List.append_nil, List.cons_append, List.nil_append, List.reduceReplicate, List.replicate_zero, Nat.reduceAdd, Nat.reduceSub, List.getElem?_cons_zero, List.getElem?_cons_succ, List.set_cons_zero, List.set_cons_succ, exists_eq_left, exists_eq_left', exists_eq_right, Option.some.injEq, true_and, and_true, PyData.int.injEq, PyData.bool.injEq, PyData.tuple.injEq, PyData.list.injEq, Sl.sh.injEq, exists_eq', atI_0, atI_1, atI_2, atI_3, atI_4, ixN_0, ixN_1, ixN_2, ap_over, ap_shared, ap_ratio, List.cons.injEq, and_assoc, exists_and_left, numD_inj,
  rII_int, rIx_tup, rIx_list, rIx_num0, rIx_num1, asD_d, asD_o, tru_none, tru_bool, tru_int, tru_list, tru_tuple, tru_num, rLen_list, rLen_tuple, rLen_str, rLen_num, sh_none, sh_bool, sh_int, sh_num, sh_nn, eqv_nn, eqv_bb, eqv_ii, eqv_ss, eqv_tt, eqv_ll, eqvAll_nil, eqvAll_cons, eqv_num, eqv_num_none, eqv_none_num, isT_int_NoneType, isT_int_bool, isT_int_int, isT_int_str, isT_int_list, isT_int_tuple, isT_int_num, isT_bool_NoneType, isT_bool_bool, isT_bool_int, isT_bool_str, isT_bool_list, isT_bool_tuple, isT_bool_num, isT_tuple_NoneType, isT_tuple_bool, isT_tuple_int, isT_tuple_str, isT_tuple_list, isT_tuple_tuple, isT_tuple_num, isT_str_NoneType, isT_str_bool, isT_str_int, isT_str_str, isT_str_list, isT_str_tuple, isT_str_num, isT_list_NoneType, isT_list_bool, isT_list_int, isT_list_str, isT_list_list, isT_list_tuple, isT_list_num, Bool.not_true, Bool.not_false, Bool.and_true, Bool.true_and, Bool.false_and, Bool.and_false, sizeLine_eq, Nat.reduceLeDiff, Nat.reduceLT, dClo, dLam, startT, flOf, unown, capt, num_negd, num_int, str_beq, String.reduceBEq, sh_str])
local macro_rules | `(tactic| walk_at "bd") => `(tactic| (apply Bd.mono; (repeat' (first | assumption | with_reducible apply Bd.add | with_reducible apply Bd.sub | with_reducible apply Bd.mul | with_reducible apply Bd.neg | with_reducible apply Bd.div)); decide))
local macro_rules | `(tactic| walk_at "sd") => `(tactic| ((repeat' (with_reducible refine And.intro ?_ ?_)) <;> try (first | assumption | exact mul_nd (by assumption) (by assumption) (by decide) | exact mul_nn (by assumption) (by assumption) (by decide) | exact mul_dd (by assumption) (by assumption) (by decide) | exact mul_dn (by assumption) (by assumption) (by decide) | exact den_mul_ne _ _ | exact dd_lt (by assumption) (by assumption) (by decide) | exact dn_lt (by assumption) (by assumption) (by decide) | exact Int.mul_ne_zero (den_ne _) (num_ne (by assumption)) | exact mul64 (by omega) (by omega) (by omega) (by omega) | exact div64 (by omega) (by omega) (by omega) | (walk_at "bd"))))

open DR SX
theorem intT_no47 (i : Int) : 47 ∉ intT i := fun m => by
  have := intT_mem m
  omega
theorem intT_256 (i : Int) : ∀ c ∈ intT i, c < 256 := fun c m => by
  have := intT_mem m
  omega
theorem sh_two {a b : List Nat} (ha : ∀ c ∈ a, c < 256) (hb : ∀ c ∈ b, c < 256) : SeqAt.shaped (.list [.str (S a), .str (S b)]) = true := by
  refine lay_sh (n := 1) (lay_list (n := 0) fun x m => ?_) (by decide)
  rcases List.mem_cons.mp m with e | m
  · rw [e]
    exact ⟨(Bool.and_eq_true_iff.mp (sh_S ha)).1, Nat.le_refl _⟩
  · rw [List.mem_singleton.mp m]
    exact ⟨(Bool.and_eq_true_iff.mp (sh_S hb)).1, Nat.le_refl _⟩
theorem bd_top {u : Rat} {n : Nat} (h : Bd (n + 1) u) : Bd (n + 1) ((u.num : Int) : Rat) := ⟨h.1, by
  show 1 < 2 ^ (n + 1)
  have := Nat.one_lt_two_pow (n := n + 1) (by omega)
  exact this⟩

def tfL : List He.Defn := [("law", none)]
def topS (i : Nat) : Stmt := PySem.Challenge.pw_toolroad_k05_texts_and_over_nought.main.body.getD i (.Pass ⟨0, 0, 0, 0⟩)
abbrev s_shared : Stmt := topS 4
theorem sc_shared : FnScope ["one", "other"] ["one", "other"] (defScope s_shared) := ⟨rfl, rfl, rfl, by decide +kernel, rfl, by decide +kernel, by decide +kernel⟩
abbrev s_number_text : Stmt := topS 7
theorem sc_number_text : FnScope ["u"] ["u"] (defScope s_number_text) := ⟨rfl, rfl, rfl, by decide +kernel, rfl, by decide +kernel, by decide +kernel⟩
abbrev s__law_bag : Stmt := topS 9
theorem sc__law_bag : FnScope ["_law_script", "_law_at", "_law_cell", "_law_great", "_law_mix", "_law_k"] ["_law_script", "_law_at"] (defScope s__law_bag) := ⟨rfl, rfl, rfl, by decide +kernel, rfl, by decide +kernel, by decide +kernel⟩
abbrev s__law_take : Stmt := topS 10
theorem sc__law_take : FnScope ["_law_bag_here", "_law_many", "_law_step", "_law_one", "_law_two", "_law_digit"] ["_law_bag_here", "_law_many"] (defScope s__law_take) := ⟨rfl, rfl, rfl, by decide +kernel, rfl, by decide +kernel, by decide +kernel⟩
abbrev s__law_shared : Stmt := topS 11
theorem sc__law_shared : FnScope ["_law_one", "_law_two"] ["_law_one", "_law_two"] (defScope s__law_shared) := ⟨rfl, rfl, rfl, by decide +kernel, rfl, by decide +kernel, by decide +kernel⟩
abbrev s__law_refused : Stmt := topS 14
theorem sc__law_refused : FnScope ["_law_deed", "e"] ["_law_deed"] (defScope s__law_refused) := ⟨rfl, rfl, rfl, by decide +kernel, rfl, by decide +kernel, by decide +kernel⟩
abbrev s_ratio : Stmt := topS 5
theorem sc_ratio : FnScope ["top", "bottom", "both"] ["top", "bottom"] (defScope s_ratio) := ⟨rfl, rfl, rfl, by decide +kernel, rfl, by decide +kernel, by decide +kernel⟩
abbrev s__law_low : Stmt := topS 12
theorem sc__law_low : FnScope ["_law_top", "_law_bottom", "_law_part"] ["_law_top", "_law_bottom"] (defScope s__law_low) := ⟨rfl, rfl, rfl, by decide +kernel, rfl, by decide +kernel, by decide +kernel⟩
abbrev s__law_text_right : Stmt := topS 15
theorem sc__law_text_right : FnScope ["_law_u", "_law_found", "_law_words"] ["_law_u"] (defScope s__law_text_right) := ⟨rfl, rfl, rfl, by decide +kernel, rfl, by decide +kernel, by decide +kernel⟩
abbrev s_over : Stmt := topS 6
theorem sc_over : FnScope ["u", "v"] ["u", "v"] (defScope s_over) := ⟨rfl, rfl, rfl, by decide +kernel, rfl, by decide +kernel, by decide +kernel⟩
abbrev s__law_number : Stmt := topS 13
theorem sc__law_number : FnScope ["_law_bag_here", "_law_wide", "_law_top"] ["_law_bag_here"] (defScope s__law_number) := ⟨rfl, rfl, rfl, by decide +kernel, rfl, by decide +kernel, by decide +kernel⟩
abbrev s_law : Stmt := topS 16
theorem sc_law : FnScope ["_law_script", "_law_at", "_law_bag_here", "_law_u", "<tab>"] ["_law_script"] (defScope s_law) := ⟨rfl, rfl, rfl, by decide +kernel, rfl, by decide +kernel, by decide +kernel⟩
structure Tx (K : Fg) (mg : Str → Option Value) where
  fd_shared : FuncData
  F_shared : FunD K "shared" "shared" (defArgs s_shared) (defBody s_shared) (defScope s_shared) [] [] (He.fAd K ("shared", none)) fd_shared
  g_shared : mg "shared" = some (.ref (He.fAd K ("shared", none)))
  fd_number_text : FuncData
  F_number_text : FunD K "number_text" "number_text" (defArgs s_number_text) (defBody s_number_text) (defScope s_number_text) [] [] (He.fAd K ("number_text", none)) fd_number_text
  g_number_text : mg "number_text" = some (.ref (He.fAd K ("number_text", none)))
  fd__law_bag : FuncData
  F__law_bag : FunD K "_law_bag" "_law_bag" (defArgs s__law_bag) (defBody s__law_bag) (defScope s__law_bag) [] [] (He.fAd K ("_law_bag", none)) fd__law_bag
  g__law_bag : mg "_law_bag" = some (.ref (He.fAd K ("_law_bag", none)))
  fd__law_take : FuncData
  F__law_take : FunD K "_law_take" "_law_take" (defArgs s__law_take) (defBody s__law_take) (defScope s__law_take) [] [] (He.fAd K ("_law_take", none)) fd__law_take
  g__law_take : mg "_law_take" = some (.ref (He.fAd K ("_law_take", none)))
  fd__law_shared : FuncData
  F__law_shared : FunD K "_law_shared" "_law_shared" (defArgs s__law_shared) (defBody s__law_shared) (defScope s__law_shared) [] [] (He.fAd K ("_law_shared", none)) fd__law_shared
  g__law_shared : mg "_law_shared" = some (.ref (He.fAd K ("_law_shared", none)))
  fd__law_refused : FuncData
  F__law_refused : FunD K "_law_refused" "_law_refused" (defArgs s__law_refused) (defBody s__law_refused) (defScope s__law_refused) [] [] (He.fAd K ("_law_refused", none)) fd__law_refused
  g__law_refused : mg "_law_refused" = some (.ref (He.fAd K ("_law_refused", none)))
  fd_ratio : FuncData
  F_ratio : FunD K "ratio" "ratio" (defArgs s_ratio) (defBody s_ratio) (defScope s_ratio) [.int 1] [] (He.fAd K ("ratio", none)) fd_ratio
  g_ratio : mg "ratio" = some (.ref (He.fAd K ("ratio", none)))
  fd__law_low : FuncData
  F__law_low : FunD K "_law_low" "_law_low" (defArgs s__law_low) (defBody s__law_low) (defScope s__law_low) [] [] (He.fAd K ("_law_low", none)) fd__law_low
  g__law_low : mg "_law_low" = some (.ref (He.fAd K ("_law_low", none)))
  fd__law_text_right : FuncData
  F__law_text_right : FunD K "_law_text_right" "_law_text_right" (defArgs s__law_text_right) (defBody s__law_text_right) (defScope s__law_text_right) [] [] (He.fAd K ("_law_text_right", none)) fd__law_text_right
  g__law_text_right : mg "_law_text_right" = some (.ref (He.fAd K ("_law_text_right", none)))
  fd_over : FuncData
  F_over : FunD K "over" "over" (defArgs s_over) (defBody s_over) (defScope s_over) [] [] (He.fAd K ("over", none)) fd_over
  g_over : mg "over" = some (.ref (He.fAd K ("over", none)))
  fd__law_number : FuncData
  F__law_number : FunD K "_law_number" "_law_number" (defArgs s__law_number) (defBody s__law_number) (defScope s__law_number) [] [] (He.fAd K ("_law_number", none)) fd__law_number
  g__law_number : mg "_law_number" = some (.ref (He.fAd K ("_law_number", none)))
  fd_law : FuncData
  F_law : FunD K "law" "law" (defArgs s_law) (defBody s_law) (defScope s_law) [] [] (He.fAd K ("law", none)) fd_law
  g_law : mg "law" = some (.ref (He.fAd K ("law", none)))
  m_ZeroDivisionError : mg "ZeroDivisionError" = none
  m_abs : mg "abs" = none
  m_isinstance : mg "isinstance" = none
  m_len : mg "len" = none
  m_max : mg "max" = none
  m_min : mg "min" = none
  m_range : mg "range" = none
  m_str : mg "str" = none
  gx_OverNought : mg "OverNought" = some (.ref (He.ga K "OverNought"))
  gx_MillError : mg "MillError" = some (.ref (He.ga K "MillError"))
  x_0 : (Fb.exm (.own "OverNought") [("MillError", false), ("OverNought", true)]).ok K = true
  x_1 : (Fb.exi [("MillError", true), ("OverNought", false)]).ok K = true
  x_2 : (Fb.kit (.own "MillError") [("MillError", true), ("OverNought", false)]).ok K = true
  x_3 : (Fb.exi [("MillError", false), ("OverNought", true)]).ok K = true
  x_4 : (Fb.kit (.ty "ZeroDivisionError") [("MillError", false), ("OverNought", true)]).ok K = true
  x_5 : (Fb.exd "OverNought").ok K = true
theorem b_shared {K : Fg} {mg : Str → Option Value} (T : Tx K mg) : Binds K T.fd_shared ["one", "other"] [] := T.F_shared.bindsN fun _ _ _ _ _ _ us hl => match us, hl with | [_, _], _ => rfl
theorem fm_shared : FMono f_shared := fm2
theorem ln_shared : ∀ ds Q, f_shared ds Q → ds.length = (["one", "other"] : List Str).length := ln2
theorem ok_shared {P : Program} {w : World} {K : Fg} {mg : Str → Option Value} {base : Heap} (T : Tx K mg) : FnOk P w K mg base CX0 1 (He.fAd K ("shared", none)) T.fd_shared ["one", "other"] (spP K f_shared) := by
  refine ok_pure T.F_shared sc_shared fm_shared ln_shared (fun cdv A outer s H E Z hr => ⟨_, (dss_cons (ds_par (i := 0) (j := 1) rfl sc_shared.nd rfl rfl (by decide) rfl rfl (da_cons (de_b cd_abs rfl T.m_abs bb_abs (da_cons (de_var 0) da_nil)) (da_cons (de_b cd_abs rfl T.m_abs bb_abs (da_cons (de_var 1) da_nil)) da_nil)) (fun _ h => ps_par rfl sc_shared.nd rfl rfl (by decide) rfl rfl h (by rfl)))
    (dss_cons (ds_while PassesOwn.never (dt_cmp od_gt (de_var 1) de_int)
    (dss_one (ds_par (i := 0) (j := 1) rfl sc_shared.nd rfl rfl (by decide) rfl rfl (da_cons (de_var 1) (da_cons (de_op od_mod (de_var 0) (de_var 1)) da_nil)) (fun _ h => ps_par rfl sc_shared.nd rfl rfl (by decide) rfl rfl h (by rfl)))))
    (dss_one (ds_ret (de_var 0))))), fun ds Q h => ?_⟩)
  obtain ⟨a, b, rfl, _, hq⟩ := h
  walk_at "dl"
  rw [abs_if, abs_if]
  refine ⟨fun m δ => ∃ x y : Int, δ = [some (.sh (.int x)), some (.sh (.int y))] ∧ 0 ≤ x ∧ 0 ≤ y ∧ Int.gcd x y = Int.gcd a b ∧ m = y.toNat, ⟨_, _, _, rfl, by omega, by omega, rfl, rfl⟩, ?_⟩
  rintro m δ ⟨x, y, rfl, hx, hy, hg, rfl⟩
  walk_at "dl"
  by_cases h : 0 < y
  · simp only [h, decide_true]
    have h1 := Int.fmod_nonneg_of_pos x h
    have h2 := Int.fmod_lt_of_pos x h
    exact ⟨by omega, (x.fmod y).toNat, by omega, hy, h1, by rw [gcd_turn hx h]; exact hg, rfl⟩
  · simp only [h, decide_false]
    have e : y = 0 := by omega
    subst e
    rw [← gcd_zero hx, hg]
    exact hq
theorem b_number_text {K : Fg} {mg : Str → Option Value} (T : Tx K mg) : Binds K T.fd_number_text ["u"] [] := T.F_number_text.bindsN fun _ _ _ _ _ _ us hl => match us, hl with | [_], _ => rfl
theorem fm_number_text : FMono f_numtextW := fm_numtextW
theorem ln_number_text : ∀ ds Q, f_numtextW ds Q → ds.length = (["u"] : List Str).length := ln_numtextW
theorem ok_number_text {P : Program} {w : World} {K : Fg} {mg : Str → Option Value} {base : Heap} (T : Tx K mg) : FnOk P w K mg base CX0 1 (He.fAd K ("number_text", none)) T.fd_number_text ["u"] (spP K f_numtextW) := by
  refine ok_pure T.F_number_text sc_number_text fm_number_text ln_number_text (fun cdv A outer s H E Z hr => ⟨_, (dss_cons (ds_if (dt_cmp (od_eq hr.units) (de_ix (de_var 0) de_int) de_int)
    (dss_one (ds_ret (de_ty cd_str rfl T.m_str bt_str (da_cons (de_ix (de_var 0) de_int) da_nil))))
    dss_nil)
    (dss_one (ds_ret (de_joined (.cons (de_fmt (de_ix (de_var 0) de_int)) (.cons de_str (.cons (de_fmt (de_ix (de_var 0) de_int)) .nil))))))), fun ds Q h => ?_⟩)
  obtain ⟨u, rfl, hu, hq⟩ := h
  have e : numD u = .tuple [.int u.num, .int u.den] := rfl
  have hd := hu.2
  rw [e]
  refine seq_k fun K hK => ?_
  walk_at "dl"
  by_cases h1 : u.den = 1
  · rw [h1]
    refine ⟨log_bd hu.1, ?_⟩
    rw [S_intT]
    rw [show numT u = intT u.num from if_pos h1] at hq
    exact hq
  rw [show ((u.den : Int) == 1) = false by simp only [beq_eq_false_iff_ne]; omega]
  show K _
  refine hK _ ?_
  walk_at "dl"
  have e0 : Str.empty = S [] := rfl
  have a := intT_bd hu.1
  have b := intT_bd (i := (u.den : Int)) (by rw [Int.natAbs_natCast]; exact hu.2)
  rw [S_intT, S_intT, t_slash, e0]
  refine ⟨log_bd hu.1, _, rfl, by rw [S_cat, S_len, List.nil_append]; omega, _, rfl, ?_, log_bd (by rw [Int.natAbs_natCast]; exact hu.2), _, rfl, ?_, ?_⟩
  · rw [S_cat, S_cat, S_len]
    simp
    omega
  · rw [S_cat, S_cat, S_cat, S_len]
    simp
    omega
  rw [S_cat, S_cat, S_cat, List.nil_append, intT_nn (i := (u.den : Int)) (by omega)]
  rw [show numT u = intT u.num ++ 47 :: TL.numL u.den from if_neg h1] at hq
  rw [List.append_assoc]
  exact hq
theorem b__law_bag {K : Fg} {mg : Str → Option Value} (T : Tx K mg) : Binds K T.fd__law_bag ["_law_script", "_law_at"] [] := T.F__law_bag.bindsN fun _ _ _ _ _ _ us hl => match us, hl with | [_, _], _ => rfl
theorem fm__law_bag : FMono f_bag := fm_bag
theorem ln__law_bag : ∀ ds Q, f_bag ds Q → ds.length = (["_law_script", "_law_at"] : List Str).length := ln_bag
theorem ok__law_bag {P : Program} {w : World} {K : Fg} {mg : Str → Option Value} {base : Heap} (T : Tx K mg) : FnOk P w K mg base CX0 1 (He.fAd K ("_law_bag", none)) T.fd__law_bag ["_law_script", "_law_at"] (spP K f_bag) := by
  refine ok_pure T.F__law_bag sc__law_bag fm__law_bag ln__law_bag (fun cdv A outer s H E Z hr => ⟨_, (dss_cons (ds_set (i := 2) sc__law_bag.nd rfl (by first | exact Or.inl rfl | exact Or.inr rfl) de_int)
    (dss_cons (ds_if (dt_cmp od_lt (de_var 1) (de_b cd_len rfl T.m_len bb_len (da_cons (de_var 0) da_nil)))
    (dss_one (ds_set (i := 2) sc__law_bag.nd rfl (by first | exact Or.inl rfl | exact Or.inr rfl) (de_ix (de_var 0) (de_var 1))))
    dss_nil)
    (dss_cons (ds_set (i := 3) sc__law_bag.nd rfl (by first | exact Or.inl rfl | exact Or.inr rfl) (de_b cd_abs rfl T.m_abs bb_abs (da_cons (de_var 2) da_nil)))
    (dss_cons (ds_if (dt_cmp od_lt (de_var 3) (de_op od_powB de_int de_int))
    (dss_one (ds_set (i := 3) sc__law_bag.nd rfl (by first | exact Or.inl rfl | exact Or.inr rfl) de_int))
    dss_nil)
    (dss_cons (ds_set (i := 4) sc__law_bag.nd rfl (by first | exact Or.inl rfl | exact Or.inr rfl) (de_op od_mod (de_op od_powB (de_op od_add (de_op od_add (de_op od_mod (de_var 2) de_int) (de_op od_mul de_int (de_var 1))) de_int) de_int) de_int))
    (dss_cons (ds_for PassesOwn.never rfl (di_range1 rfl T.m_range (da_cons (de_b (cd_min rfl) rfl T.m_min bb_min (da_cons (de_b cd_len rfl T.m_len bb_len (da_cons (de_var 0) da_nil)) (da_cons de_int da_nil))) da_nil)) (dg_name (i := 5) sc__law_bag.nd rfl (by first | exact Or.inl rfl | exact Or.inr rfl))
    (dss_one (ds_set (i := 4) sc__law_bag.nd rfl (by first | exact Or.inl rfl | exact Or.inr rfl) (de_op od_mod (de_op od_add (de_op od_add (de_op od_mul (de_var 4) de_int) (de_op od_mul (de_op od_mod (de_ix (de_var 0) (de_var 5)) de_int) (de_op od_add (de_var 5) de_int))) (de_var 5)) de_int))))
    (dss_one (ds_retO (do_lst (da_cons (de_var 3) (da_cons (de_var 4) (da_cons de_int da_nil)))))))))))), fun ds Q h => ?_⟩)
  obtain ⟨ns, k, rfl, hl, h1, h2, hq⟩ := h
  refine seq_at (fun δ => δ = [some (.sh (.list (ns.map .int))), some (.sh (.int k)), some (.sh (.int 0)), none, none, none]) (by walk_at "dl") ?_
  rintro _ rfl
  refine seq_at (fun δ => ∃ c : Int, δ = [some (.sh (.list (ns.map .int))), some (.sh (.int k)), some (.sh (.int c)), none, none, none]) ?_ ?_
  · walk_at "dl"
    by_cases h : k < ((ns.map PyData.int).length : Int)
    · simp only [h, decide_true]
      rw [List.length_map] at h
      obtain ⟨z, e, _⟩ := atI_ints h1 h
      exact ⟨_, e, z, rfl⟩
    · simp only [h, decide_false]
  rintro _ ⟨c, rfl⟩
  refine seq_at (fun δ => ∃ g : Int, 0 ≤ g ∧ δ = [some (.sh (.list (ns.map .int))), some (.sh (.int k)), some (.sh (.int c)), some (.sh (.int g)), none, none]) ?_ ?_
  · walk_at "dl"
    exact ⟨_, by split <;> omega, rfl⟩
  rintro _ ⟨g, hg, rfl⟩
  refine seq_at (fun δ => ∃ g : Int, 0 ≤ g ∧ δ = [some (.sh (.list (ns.map .int))), some (.sh (.int k)), some (.sh (.int c)), some (.sh (.int g)), none, none]) ?_ ?_
  · walk_at "dl"
    refine ⟨powB64 (by omega) (by omega) (by omega) (by omega), ?_⟩
    split
    · exact ⟨0, by omega, rfl⟩
    · exact ⟨g, hg, rfl⟩
  rintro _ ⟨g, hg, rfl⟩
  refine seq_at (fun δ => ∃ m : Int, 0 ≤ m ∧ m < 2147483647 ∧ δ = [some (.sh (.list (ns.map .int))), some (.sh (.int k)), some (.sh (.int c)), some (.sh (.int g)), some (.sh (.int m)), none]) ?_ ?_
  · walk_at "dl"
    have p1 := fmod_in (a := c) (b := 2147483629) (by omega)
    have p2 := fmod_in (a := (c.fmod 2147483629 + 104729 * k + 17) ^ Int.toNat 5) (b := 2147483647) (by omega)
    exact ⟨by omega, mul64 (by omega) (by omega) (by omega) (by omega), powB64 (by omega) (by omega) (by omega) (by omega), by omega, _, p2.1, p2.2, rfl⟩
  rintro _ ⟨m, hm, hm2, rfl⟩
  refine seq_at (fun δ => ∃ (m : Int) (x : Option Sl), 0 ≤ m ∧ m < 2147483647 ∧ δ = [some (.sh (.list (ns.map .int))), some (.sh (.int k)), some (.sh (.int c)), some (.sh (.int g)), some (.sh (.int m)), x]) ?_ ?_
  · walk_at "dl"
    simp only [dFor, iRg1]
    walk_at "dl"
    have e : ((ns.map PyData.int).length : Int) = ns.length := by rw [List.length_map]
    rw [e]
    refine ⟨by split <;> omega, by split <;> omega, ?_⟩
    refine for_at (fun _ δ => ∃ (m : Int) (x : Option Sl), 0 ≤ m ∧ m < 2147483647 ∧ δ = [some (.sh (.list (ns.map .int))), some (.sh (.int k)), some (.sh (.int c)), some (.sh (.int g)), some (.sh (.int m)), x]) ⟨m, none, hm, hm2, rfl⟩ ?_ (fun δ ⟨m, x, a, b, e⟩ => ⟨m, a, b, x, e⟩)
    rintro i d δ hi ⟨m, x, hm, hm2, rfl⟩
    have hi2 := get_lt hi
    rw [rngD_len] at hi2
    have hi3 : (i : Int) < ns.length := by
      split at hi2 <;> omega
    rw [rngD_get hi2] at hi
    cases hi
    rw [Int.zero_add]
    walk_at "dl"
    obtain ⟨z, e, _⟩ := atI_ints (i := (i : Int)) (by omega) hi3
    rw [e]
    walk_at "dl"
    have p1 := fmod_in (a := z) (b := 2147483587) (by omega)
    generalize z.fmod 2147483587 = y at p1 ⊢
    have p2 := fmod_in (a := m * 48271 + y * (i + 3) + i) (b := 2147483629) (by omega)
    exact ⟨mul64 (by omega) (by omega) (by omega) (by omega), by omega, mul64 (by omega) (by omega) (by omega) (by omega), by omega, _, p2.1, by omega, rfl⟩
  rintro _ ⟨m, x, hm, hm2, rfl⟩
  walk_at "dl"
  exact hq _ ⟨g, m, 0, rfl, hg, hm, by omega, by omega, by omega⟩
theorem b__law_take {K : Fg} {mg : Str → Option Value} (T : Tx K mg) : Binds K T.fd__law_take ["_law_bag_here", "_law_many"] [] := T.F__law_take.bindsN fun _ _ _ _ _ _ us hl => match us, hl with | [_, _], _ => rfl
theorem bm__law_take : BMono f_take := bm1
theorem ln__law_take : ∀ xs ds Q, f_take xs ds Q → ds.length + 1 = (["_law_bag_here", "_law_many"] : List Str).length := bl1
theorem ok__law_take {P : Program} {w : World} {K : Fg} {mg : Str → Option Value} {base : Heap} (T : Tx K mg) : FnOk P w K mg base CX0 1 (He.fAd K ("_law_take", none)) T.fd__law_take ["_law_bag_here", "_law_many"] (spB K f_take) := by
  refine ok_bag T.F__law_take sc__law_take bm__law_take ln__law_take (fun cdv A outer s H E Z hr => ⟨_, (dss_cons (ds_if (dt_cmp od_gt (de_ixo 0 de_int) de_int)
    (dss_cons (ds_set (i := 5) sc__law_take.nd rfl (by first | exact Or.inl rfl | exact Or.inr rfl) (de_op od_mod (de_ixo 0 de_int) (de_var 1)))
    (dss_cons (ds_setix 0 (de_op od_div (de_ixo 0 de_int) (de_var 1)) de_int)
    (dss_one (ds_ret (de_var 5)))))
    dss_nil)
    (dss_cons (ds_setix 0 (de_op od_add (de_ixo 0 de_int) de_int) de_int)
    (dss_cons (ds_set (i := 2) sc__law_take.nd rfl (by first | exact Or.inl rfl | exact Or.inr rfl) (de_ixo 0 de_int))
    (dss_cons (ds_set (i := 3) sc__law_take.nd rfl (by first | exact Or.inl rfl | exact Or.inr rfl) (de_op od_mod (de_op od_powB (de_op od_add (de_op od_add (de_op od_mul (de_ixo 0 de_int) (de_op od_add (de_op od_mul de_int (de_var 2)) de_int)) (de_op od_mul (de_op od_mul de_int (de_var 2)) (de_var 2))) de_int) de_int) de_int))
    (dss_cons (ds_set (i := 4) sc__law_take.nd rfl (by first | exact Or.inl rfl | exact Or.inr rfl) (de_op od_mod (de_op od_powB (de_op od_add (de_op od_mul (de_var 3) (de_op od_add (de_var 2) de_int)) (de_ixo 0 de_int)) de_int) de_int))
    (dss_one (ds_ret (de_op od_mod (de_op od_div (de_op od_add (de_op od_mul (de_var 3) de_int) (de_var 4)) de_int) (de_var 1))))))))), fun xs ds Q h => ?_⟩)
  obtain ⟨n, m, ⟨g, k, st, rfl, h1, h2, h3, h4, h5⟩, hn, rfl, ⟨hm, hm2⟩, hq⟩ := h
  have hn' : n + 1 ≤ 1000000 := hn
  have hm3 : m < 18446744073709551616 := hm2
  walk_at "dl"
  by_cases hg : 0 < g
  · simp only [hg, decide_true]
    refine ⟨by omega, div64 (by omega) (by omega) (by omega), hq _ _ (fmod_in hm) ⟨_, _, _, rfl, fdiv_nn h1 hm, h2, h3, h4, by omega⟩⟩
  · simp only [hg, decide_false]
    have p1 := mul_in (a := k) (b := 2 * (st + 1) + 1) (A := 2305843009213693952) (B := 2000001) h2 (by omega) (by omega) (by omega)
    have p2 := mul_in (a := 6007 * (st + 1)) (b := st + 1) (A := 6007000000) (B := 1000000) (by omega) (by omega) (by omega) (by omega)
    refine ⟨mul64 (by omega) (by omega) (by omega) (by omega), mul64 (by omega) (by omega) (by omega) (by omega), mul64 (by omega) (by omega) (by omega) (by omega), mul64 (by omega) (by omega) (by omega) (by omega), powB90 (by omega) (by omega) (by omega) (by omega), by omega, ?_⟩
    have p3 := fmod_in (a := (k * (2 * (st + 1) + 1) + 6007 * (st + 1) * (st + 1) + 53) ^ Int.toNat 3) (b := 2147483587) (by omega)
    generalize Int.fmod ((k * (2 * (st + 1) + 1) + 6007 * (st + 1) * (st + 1) + 53) ^ Int.toNat 3) 2147483587 = y at p3 ⊢
    have p4 := mul_in (a := y) (b := st + 1 + 8191) (A := 2147483587) (B := 1008191) (by omega) (by omega) (by omega) (by omega)
    refine ⟨mul64 (by omega) (by omega) (by omega) (by omega), powB64 (by omega) (by omega) (by omega) (by omega), by omega, mul64 (by omega) (by omega) (by omega) (by omega), div64 (by omega) (by omega) (by omega), by omega, hq _ _ (fmod_in hm) ⟨_, _, _, rfl, h1, h2, h3, by omega, by omega⟩⟩
theorem b__law_shared {K : Fg} {mg : Str → Option Value} (T : Tx K mg) : Binds K T.fd__law_shared ["_law_one", "_law_two"] [] := T.F__law_shared.bindsN fun _ _ _ _ _ _ us hl => match us, hl with | [_, _], _ => rfl
theorem fm__law_shared : FMono f_shared := fm2
theorem ln__law_shared : ∀ ds Q, f_shared ds Q → ds.length = (["_law_one", "_law_two"] : List Str).length := ln2
theorem ok__law_shared {P : Program} {w : World} {K : Fg} {mg : Str → Option Value} {base : Heap} (T : Tx K mg) : FnOk P w K mg base CX0 1 (He.fAd K ("_law_shared", none)) T.fd__law_shared ["_law_one", "_law_two"] (spP K f_shared) := by
  refine ok_pure T.F__law_shared sc__law_shared fm__law_shared ln__law_shared (fun cdv A outer s H E Z hr => ⟨_, (dss_cons (ds_par (i := 0) (j := 1) rfl sc__law_shared.nd rfl rfl (by decide) rfl rfl (da_cons (de_b cd_abs rfl T.m_abs bb_abs (da_cons (de_var 0) da_nil)) (da_cons (de_b cd_abs rfl T.m_abs bb_abs (da_cons (de_var 1) da_nil)) da_nil)) (fun _ h => ps_par rfl sc__law_shared.nd rfl rfl (by decide) rfl rfl h (by rfl)))
    (dss_cons (ds_while PassesOwn.never (dt_cmp od_gt (de_var 1) de_int)
    (dss_one (ds_par (i := 0) (j := 1) rfl sc__law_shared.nd rfl rfl (by decide) rfl rfl (da_cons (de_var 1) (da_cons (de_op od_mod (de_var 0) (de_var 1)) da_nil)) (fun _ h => ps_par rfl sc__law_shared.nd rfl rfl (by decide) rfl rfl h (by rfl)))))
    (dss_one (ds_ret (de_var 0))))), fun ds Q h => ?_⟩)
  obtain ⟨a, b, rfl, _, hq⟩ := h
  walk_at "dl"
  rw [abs_if, abs_if]
  refine ⟨fun m δ => ∃ x y : Int, δ = [some (.sh (.int x)), some (.sh (.int y))] ∧ 0 ≤ x ∧ 0 ≤ y ∧ Int.gcd x y = Int.gcd a b ∧ m = y.toNat, ⟨_, _, _, rfl, by omega, by omega, rfl, rfl⟩, ?_⟩
  rintro m δ ⟨x, y, rfl, hx, hy, hg, rfl⟩
  walk_at "dl"
  by_cases h : 0 < y
  · simp only [h, decide_true]
    have h1 := Int.fmod_nonneg_of_pos x h
    have h2 := Int.fmod_lt_of_pos x h
    exact ⟨by omega, (x.fmod y).toNat, by omega, hy, h1, by rw [gcd_turn hx h]; exact hg, rfl⟩
  · simp only [h, decide_false]
    have e : y = 0 := by omega
    subst e
    rw [← gcd_zero hx, hg]
    exact hq
theorem b__law_refused {K : Fg} {mg : Str → Option Value} (T : Tx K mg) : Binds K T.fd__law_refused ["_law_deed"] [] := T.F__law_refused.bindsN fun _ _ _ _ _ _ us hl => match us, hl with | [_], _ => rfl
theorem lm__law_refused : LamMono f_refo := refo_mono
instance : LamMono f_refo := lm__law_refused
theorem gv__law_refused {P : Program} {w : World} {K : Fg} {mg : Str → Option Value} {base : Heap} (T : Tx K mg) (n : Nat) : GvOk P w K mg base (n + 1) (He.fAd K ("_law_refused", none)) ["_law_deed", "e"] "_law_refused" "_law_deed" (defScope s__law_refused) f_refo := by
  refine gv_of T.F__law_refused sc__law_refused (b__law_refused T) (fun cdv A outer s H Z f fl hr fm cl => ⟨_, (dss_cons (ds_tryAsS (i := 1) (M := fun C => List.lookup C [("MillError", false), ("OverNought", true)]) XOk.none rfl rfl sc__law_refused.nd rfl rfl ⟨rfl, by decide, .inl T.gx_OverNought⟩ (exm_okB T.x_0)
    (fun ex' pn xe Z' xo po hS => (dss_one (ds_expr (cl.run pn xe Z' ex' _ _ hS.1 xo))))
    (fun a oe dz x pn Z' hxa hz hf hx => (dss_one (ds_ret (de_and (de_isE1 1 (l := [("MillError", false), ("OverNought", true)]) hxa hz hf hx.xd (exi_ok T.x_3) (kit_okB T.x_4) rfl (.inr ⟨_, rfl, T.m_ZeroDivisionError, rfl, by decide⟩) rfl T.m_isinstance bb_isinstance) (de_one (de_not (de_isE1 1 (l := [("MillError", true), ("OverNought", false)]) hxa hz hf hx.xd (exi_ok T.x_1) (kit_okB T.x_2) rfl (.inl ⟨rfl, T.gx_MillError⟩) rfl T.m_isinstance bb_isinstance))))))))
    (dss_one (ds_ret de_bl))), fun Q h => ?_⟩)
  obtain ⟨_, hf, hq⟩ := h
  walk_at "dl"
  refine fm.m _ _ _ _ _ (fun _ z => z.elim) (fun x e => ?_) hf
  subst e
  exact ⟨true, by decide +kernel, fun _ => ⟨true, by decide +kernel, ⟨false, by decide +kernel, hq⟩⟩, fun h => nomatch h⟩
theorem bx_ratio_1 {K : Fg} {mg : Str → Option Value} (T : Tx K mg) : ∃ ds, Vals [V.int 1] ds ∧ Binds K T.fd_ratio ["top", "bottom"] ds := T.F_ratio.binds1 1 0 (List.cons_ne_nil _ _) rfl (fun T kV doc pm an cdv ct us its h1 h2 => match us, its, h1, h2 with | [_], [_], _, _ => ⟨_, rfl, rfl⟩)
theorem b_ratio_1 {K : Fg} {mg : Str → Option Value} (T : Tx K mg) : Vals [V.int 1] (Classical.choose (bx_ratio_1 T)) ∧ Binds K T.fd_ratio ["top", "bottom"] (Classical.choose (bx_ratio_1 T)) := Classical.choose_spec (bx_ratio_1 T)
theorem dd_ratio_1 {K : Fg} : ∀ H, DL.DpAll K H [V.int 1] [PyData.int 1] := fun _ => .cons (.int 1) .nil
theorem bx_ratio_2 {K : Fg} {mg : Str → Option Value} (T : Tx K mg) : ∃ ds, Vals [] ds ∧ Binds K T.fd_ratio ["top", "bottom"] ds := T.F_ratio.binds1 2 1 (List.cons_ne_nil _ _) rfl (fun T kV doc pm an cdv ct us its h1 h2 => match us, its, h1, h2 with | [_, _], [_], _, _ => ⟨_, rfl, rfl⟩)
theorem b_ratio_2 {K : Fg} {mg : Str → Option Value} (T : Tx K mg) : Vals [] (Classical.choose (bx_ratio_2 T)) ∧ Binds K T.fd_ratio ["top", "bottom"] (Classical.choose (bx_ratio_2 T)) := Classical.choose_spec (bx_ratio_2 T)
theorem dd_ratio_2 {K : Fg} : ∀ H, DL.DpAll K H [] [] := fun _ => .nil
theorem b_ratio_1_bottom {K : Fg} {mg : Str → Option Value} (T : Tx K mg) : KBn K T.fd_ratio ["top", "bottom"] 1 ["bottom"] (fun us ws => us ++ ws) (fun vs zs => vs ++ zs) := kb1 T.F_ratio 1 ["bottom"] (List.cons_ne_nil _ _) (fun T kV doc pm an cdv ct us its ws h1 h2 h3 => match us, its, ws, h1, h2, h3 with | [_], [_], [_], _, _, _ => ⟨_, rfl, rfl⟩)
theorem fm_ratio : FMono f_ratio := fm2
theorem ln_ratio : ∀ ds Q, f_ratio ds Q → ds.length = (["top", "bottom"] : List Str).length := ln2
theorem ok_ratio {P : Program} {w : World} {K : Fg} {mg : Str → Option Value} {base : Heap} (T : Tx K mg) : FnOk P w K mg base CX0 2 (He.fAd K ("ratio", none)) T.fd_ratio ["top", "bottom"] (spP K f_ratio) := by
  refine ok_pure T.F_ratio sc_ratio fm_ratio ln_ratio (fun cdv A outer s H E Z hr => ⟨_, (dss_cons (ds_if (dt_cmp (od_eq hr.units) (de_var 1) de_int)
    (dss_one ds_never)
    dss_nil)
    (dss_cons (ds_set (i := 2) sc_ratio.nd rfl (by first | exact Or.inl rfl | exact Or.inr rfl) (de_call (ok_shared T) fm_shared (hr.mono (by decide)) rfl T.g_shared T.F_shared.kp (b_shared T) .nil (fun _ => .nil) (da_cons (de_var 0) (da_cons (de_var 1) da_nil))))
    (dss_cons (ds_if (dt_cmp od_lt (de_var 1) de_int)
    (dss_one (ds_set (i := 2) sc_ratio.nd rfl (by first | exact Or.inl rfl | exact Or.inr rfl) (de_op od_sub de_int (de_var 2))))
    dss_nil)
    (dss_one (ds_ret (de_tup (da_cons (de_op od_div (de_var 0) (de_var 2)) (da_cons (de_op od_div (de_var 1) (de_var 2)) da_nil)))))))), fun ds Q h => ?_⟩)
  obtain ⟨a, b, rfl, ⟨hb, hz⟩, hq⟩ := h
  walk_at "dl"
  have hb0 : (b == 0) = false := by simpa using hb
  rw [hb0]
  have hg : 0 < Int.gcd a b := Int.gcd_pos_of_ne_zero_right _ hb
  have hs : Int.gcd a b < 2 ^ 9000 := Nat.lt_of_le_of_lt (Nat.le_of_dvd (by omega) (Int.gcd_dvd_natAbs_right a b)) hz
  have e1 : (0 - (Int.gcd a b : Int)).natAbs = Int.gcd a b := by omega
  have e2 : ((Int.gcd a b : Nat) : Int).natAbs = Int.gcd a b := by omega
  by_cases h : b < 0
  · simp only [h, decide_true]
    refine ⟨divA (b := 9000) (by omega) (by rw [e1]; exact hs) (Nat.le_refl _), divA (b := 9000) (by omega) (by rw [e1]; exact hs) (Nat.le_refl _), ?_⟩
    rw [num_neg h, den_neg h]
    exact hq
  · simp only [h, decide_false]
    refine ⟨divA (b := 9000) (by omega) (by rw [e2]; exact hs) (Nat.le_refl _), divA (b := 9000) (by omega) (by rw [e2]; exact hs) (Nat.le_refl _), ?_⟩
    rw [num_pos (show 0 < b by omega), den_pos' (show 0 < b by omega)]
    exact hq
theorem xm_ratio : XMono fx_ratio0 := inferInstance
theorem lx_ratio : ∀ ds Q W, fx_ratio0 ds Q W → ds.length = (["top", "bottom"] : List Str).length := (fun ds Q W ⟨a, h, _⟩ => by rw [h]; rfl)
theorem okx_ratio {P : Program} {w : World} {K : Fg} {mg : Str → Option Value} {base : Heap} (T : Tx K mg) : FnOk P w K mg base (L2.CX P w) 2 (He.fAd K ("ratio", none)) T.fd_ratio ["top", "bottom"] (spX K fx_ratio0) := by
  refine ok_pureX T.F_ratio sc_ratio xm_ratio lx_ratio (fun cdv A outer s H E Z ex hr xo po => ⟨_, (dss_cons (ds_if (dt_cmp (od_eq hr.units) (de_var 1) de_int)
    (dss_one (ds_raise xo rfl (exd_ok T.x_5) T.gx_OverNought rfl))
    dss_nil)
    (dss_cons (ds_set (i := 2) sc_ratio.nd rfl (by first | exact Or.inl rfl | exact Or.inr rfl) (de_call (ok_shared T) fm_shared (hr.mono (by decide)) rfl T.g_shared T.F_shared.kp (b_shared T) .nil (fun _ => .nil) (da_cons (de_var 0) (da_cons (de_var 1) da_nil))))
    (dss_cons (ds_if (dt_cmp od_lt (de_var 1) de_int)
    (dss_one (ds_set (i := 2) sc_ratio.nd rfl (by first | exact Or.inl rfl | exact Or.inr rfl) (de_op od_sub de_int (de_var 2))))
    dss_nil)
    (dss_one (ds_ret (de_tup (da_cons (de_op od_div (de_var 0) (de_var 2)) (da_cons (de_op od_div (de_var 1) (de_var 2)) da_nil)))))))), fun ds Q W h hW => ?_⟩)
  obtain ⟨a, rfl, hw⟩ := h
  walk_at "dl"
  exact hW _ _ hw
theorem b__law_low {K : Fg} {mg : Str → Option Value} (T : Tx K mg) : Binds K T.fd__law_low ["_law_top", "_law_bottom"] [] := T.F__law_low.bindsN fun _ _ _ _ _ _ us hl => match us, hl with | [_, _], _ => rfl
theorem fm__law_low : FMono f_ratio := fm2
theorem ln__law_low : ∀ ds Q, f_ratio ds Q → ds.length = (["_law_top", "_law_bottom"] : List Str).length := ln2
theorem ok__law_low {P : Program} {w : World} {K : Fg} {mg : Str → Option Value} {base : Heap} (T : Tx K mg) : FnOk P w K mg base CX0 2 (He.fAd K ("_law_low", none)) T.fd__law_low ["_law_top", "_law_bottom"] (spP K f_ratio) := by
  refine ok_pure T.F__law_low sc__law_low fm__law_low ln__law_low (fun cdv A outer s H E Z hr => ⟨_, (dss_cons (ds_set (i := 2) sc__law_low.nd rfl (by first | exact Or.inl rfl | exact Or.inr rfl) (de_call (ok__law_shared T) fm__law_shared (hr.mono (by decide)) rfl T.g__law_shared T.F__law_shared.kp (b__law_shared T) .nil (fun _ => .nil) (da_cons (de_var 0) (da_cons (de_var 1) da_nil))))
    (dss_cons (ds_if (dt_cmp od_lt (de_var 1) de_int)
    (dss_one (ds_set (i := 2) sc__law_low.nd rfl (by first | exact Or.inl rfl | exact Or.inr rfl) (de_op od_sub de_int (de_var 2))))
    dss_nil)
    (dss_one (ds_ret (de_tup (da_cons (de_op od_div (de_var 0) (de_var 2)) (da_cons (de_op od_div (de_var 1) (de_var 2)) da_nil))))))), fun ds Q h => ?_⟩)
  obtain ⟨a, b, rfl, ⟨hb, hz⟩, hq⟩ := h
  walk_at "dl"
  have hg : 0 < Int.gcd a b := Int.gcd_pos_of_ne_zero_right _ hb
  have hs : Int.gcd a b < 2 ^ 9000 := Nat.lt_of_le_of_lt (Nat.le_of_dvd (by omega) (Int.gcd_dvd_natAbs_right a b)) hz
  have e1 : (0 - (Int.gcd a b : Int)).natAbs = Int.gcd a b := by omega
  have e2 : ((Int.gcd a b : Nat) : Int).natAbs = Int.gcd a b := by omega
  by_cases h : b < 0
  · simp only [h, decide_true]
    refine ⟨divA (b := 9000) (by omega) (by rw [e1]; exact hs) (Nat.le_refl _), divA (b := 9000) (by omega) (by rw [e1]; exact hs) (Nat.le_refl _), ?_⟩
    rw [num_neg h, den_neg h]
    exact hq
  · simp only [h, decide_false]
    refine ⟨divA (b := 9000) (by omega) (by rw [e2]; exact hs) (Nat.le_refl _), divA (b := 9000) (by omega) (by rw [e2]; exact hs) (Nat.le_refl _), ?_⟩
    rw [num_pos (show 0 < b by omega), den_pos' (show 0 < b by omega)]
    exact hq
theorem b__law_text_right {K : Fg} {mg : Str → Option Value} (T : Tx K mg) : Binds K T.fd__law_text_right ["_law_u"] [] := T.F__law_text_right.bindsN fun _ _ _ _ _ _ us hl => match us, hl with | [_], _ => rfl
theorem fm__law_text_right : FMono f_txright := inferInstance
theorem ln__law_text_right : ∀ ds Q, f_txright ds Q → ds.length = (["_law_u"] : List Str).length := (fun ds Q ⟨u, h, _⟩ => by rw [h]; rfl)
theorem ok__law_text_right {P : Program} {w : World} {K : Fg} {mg : Str → Option Value} {base : Heap} (T : Tx K mg) : FnOk P w K mg base CX0 2 (He.fAd K ("_law_text_right", none)) T.fd__law_text_right ["_law_u"] (spP K f_txright) := by
  refine ok_pure T.F__law_text_right sc__law_text_right fm__law_text_right ln__law_text_right (fun cdv A outer s H E Z hr => ⟨_, (dss_cons (ds_set (i := 1) sc__law_text_right.nd rfl (by first | exact Or.inl rfl | exact Or.inr rfl) (de_call (ok_number_text T) fm_number_text (hr.mono (by decide)) rfl T.g_number_text T.F_number_text.kp (b_number_text T) .nil (fun _ => .nil) (da_cons (de_var 0) da_nil)))
    (dss_cons (ds_if (dt_not (dt_val (de_isi (de_var 1) kf_str rfl T.m_isinstance rfl T.m_str bt_str bb_isinstance)))
    (dss_one (ds_ret de_bl))
    dss_nil)
    (dss_cons (ds_set (i := 2) sc__law_text_right.nd rfl (by first | exact Or.inl rfl | exact Or.inr rfl) (Do.sh (do_split (de_var 1) de_str)))
    (dss_cons (ds_if (dt_cmp (od_eq hr.units) (de_b cd_len rfl T.m_len bb_len (da_cons (de_var 2) da_nil)) de_int)
    (dss_one (ds_ret (de_and (de_cmp (od_eq hr.units) (de_ix (de_var 0) de_int) de_int) (de_one (de_cmp (od_eq hr.units) (de_ix (de_var 2) de_int) (de_ty cd_str rfl T.m_str bt_str (da_cons (de_ix (de_var 0) de_int) da_nil)))))))
    dss_nil)
    (dss_one (ds_ret (de_and (de_cmp (od_eq hr.units) (de_b cd_len rfl T.m_len bb_len (da_cons (de_var 2) da_nil)) de_int) (de_and (de_cmp od_gt (de_ix (de_var 0) de_int) de_int) (de_one (de_cmp (od_eq hr.units) (de_var 2) (Do.sh (do_lst (da_cons (de_ty cd_str rfl T.m_str bt_str (da_cons (de_ix (de_var 0) de_int) da_nil)) (da_cons (de_ty cd_str rfl T.m_str bt_str (da_cons (de_ix (de_var 0) de_int) da_nil)) da_nil)))))))))))))), fun ds Q h => ?_⟩)
  obtain ⟨u, rfl, hu, hq⟩ := h
  walk_at "dl"
  refine ⟨u, rfl, hu.mono (by decide), ?_⟩
  walk_at "dl"
  have hl := numT_bd (hu.mono (n := 1400) (by decide))
  have hb : Bd 1400 u := hu.mono (by decide)
  rw [t_slash]
  refine ⟨by decide, by rw [S_len]; omega, ?_⟩
  by_cases h1 : u.den = 1
  · have e : numT u = intT u.num := if_pos h1
    have sp : Txt.split (S (numT u)) (S [47]) = [S (intT u.num)] := by
      have := split_c (c := 47) (parts := [intT u.num]) (by decide) (by simp) (by
        intro p m
        rw [List.mem_singleton.mp m]
        exact intT_no47 u.num)
      rw [e]
      exact this
    rw [sp, h1]
    walk_at "dl"
    refine ⟨log_bd hb.1, sh_S (intT_256 _), sh_str, ?_⟩
    rw [S_intT, beq_self_eq_true]
    exact hq
  · have e : numT u = intT u.num ++ 47 :: TL.numL u.den := if_neg h1
    have sp : Txt.split (S (numT u)) (S [47]) = [S (intT u.num), S (intT (u.den : Int))] := by
      have := split_c (c := 47) (parts := [intT u.num, intT (u.den : Int)]) (by decide) (by simp) (by
        intro p m
        rcases List.mem_cons.mp m with z | z
        · rw [z]
          exact intT_no47 _
        · rw [List.mem_singleton.mp z]
          exact intT_no47 _)
      rw [e]
      rw [intT_nn (i := (u.den : Int)) (by omega)] at this ⊢
      exact this
    rw [sp]
    walk_at "dl"
    rw [show (((2 : Nat) : Int) == 1) = false from rfl, show (((2 : Nat) : Int) == 2) = true from rfl, show decide (1 < (u.den : Int)) = true from decide_eq_true (by have := u.den_pos; omega)]
    refine ⟨log_bd hb.1, log_bd (by rw [Int.natAbs_natCast]; exact hb.2), sh_two (intT_256 _) (intT_256 _), ?_, ?_⟩
    · rw [S_intT, S_intT]
      exact sh_two (intT_256 _) (intT_256 _)
    · rw [S_intT, S_intT, beq_self_eq_true, beq_self_eq_true]
      exact hq
theorem b_over {K : Fg} {mg : Str → Option Value} (T : Tx K mg) : Binds K T.fd_over ["u", "v"] [] := T.F_over.bindsN fun _ _ _ _ _ _ us hl => match us, hl with | [_, _], _ => rfl
theorem fm_over : FMono f_over := fm2
theorem ln_over : ∀ ds Q, f_over ds Q → ds.length = (["u", "v"] : List Str).length := ln2
theorem ok_over {P : Program} {w : World} {K : Fg} {mg : Str → Option Value} {base : Heap} (T : Tx K mg) : FnOk P w K mg base CX0 3 (He.fAd K ("over", none)) T.fd_over ["u", "v"] (spP K f_over) := by
  refine ok_pure T.F_over sc_over fm_over ln_over (fun cdv A outer s H E Z hr => ⟨_, (dss_one (ds_ret (de_call (ok_ratio T) fm_ratio (hr.mono (by decide)) rfl T.g_ratio T.F_ratio.kp (b_ratio_2 T).2 (b_ratio_2 T).1 (dd_ratio_2) (da_cons (de_op od_mul (de_ix (de_var 0) de_int) (de_ix (de_var 1) de_int)) (da_cons (de_op od_mul (de_ix (de_var 0) de_int) (de_ix (de_var 1) de_int)) da_nil))))), fun ds Q h => ?_⟩)
  obtain ⟨u, v, rfl, ⟨h0, hu, hv⟩, hq⟩ := h
  walk_at "dl"
  exact ⟨mul_nd hu hv (by decide), mul_dn hu hv (by decide), Int.mul_ne_zero (den_ne u) (num_ne h0), dn_lt hu hv (by decide), hq⟩
theorem xm_over : XMono fx_over0 := inferInstance
theorem lx_over : ∀ ds Q W, fx_over0 ds Q W → ds.length = (["u", "v"] : List Str).length := (fun ds Q W ⟨u, h, _⟩ => by rw [h]; rfl)
theorem okx_over {P : Program} {w : World} {K : Fg} {mg : Str → Option Value} {base : Heap} (T : Tx K mg) : FnOk P w K mg base (L2.CX P w) 3 (He.fAd K ("over", none)) T.fd_over ["u", "v"] (spX K fx_over0) := by
  refine ok_pureX T.F_over sc_over xm_over lx_over (fun cdv A outer s H E Z ex hr xo po => ⟨_, (dss_one (ds_ret (de_callX (okx_ratio T) xm_ratio xo (hr.mono (by decide)) rfl T.g_ratio T.F_ratio.kp (b_ratio_2 T).2 (b_ratio_2 T).1 (dd_ratio_2) (da_cons (de_op od_mul (de_ix (de_var 0) de_int) (de_ix (de_var 1) de_int)) (da_cons (de_op od_mul (de_ix (de_var 0) de_int) (de_ix (de_var 1) de_int)) da_nil))))), fun ds Q W h hW => ?_⟩)
  obtain ⟨u, rfl, hu, hw⟩ := h
  walk_at "dl"
  have h0 : Bd 200 (0 : Rat) := ⟨by decide, by decide⟩
  exact ⟨mul_nd hu h0 (by decide), mul_dn hu h0 (by decide), _, by rw [show ((u.den : Int) * Rat.num 0) = 0 by simp], hW _ _ hw⟩
theorem b__law_number {K : Fg} {mg : Str → Option Value} (T : Tx K mg) : Binds K T.fd__law_number ["_law_bag_here"] [] := T.F__law_number.bindsN fun _ _ _ _ _ _ us hl => match us, hl with | [_], _ => rfl
theorem bm__law_number : BMono f_number := bm0
theorem ln__law_number : ∀ xs ds Q, f_number xs ds Q → ds.length + 1 = (["_law_bag_here"] : List Str).length := bl0
theorem ok__law_number {P : Program} {w : World} {K : Fg} {mg : Str → Option Value} {base : Heap} (T : Tx K mg) : FnOk P w K mg base CX0 3 (He.fAd K ("_law_number", none)) T.fd__law_number ["_law_bag_here"] (spB K f_number) := by
  refine ok_bag T.F__law_number sc__law_number bm__law_number ln__law_number (fun cdv A outer s H E Z hr => ⟨_, (dss_cons (ds_set (i := 1) sc__law_number.nd rfl (by first | exact Or.inl rfl | exact Or.inr rfl) (de_ix (Do.sh (do_lst (da_cons de_int (da_cons de_int (da_cons de_int (da_cons de_int da_nil)))))) (de_callB 0 (ok__law_take T) bm__law_take (hr.mono (by decide)) rfl T.g__law_take T.F__law_take.kp (b__law_take T) (da_cons de_int da_nil))))
    (dss_cons (ds_set (i := 2) sc__law_number.nd rfl (by first | exact Or.inl rfl | exact Or.inr rfl) (de_op od_sub (de_callB 0 (ok__law_take T) bm__law_take (hr.mono (by decide)) rfl T.g__law_take T.F__law_take.kp (b__law_take T) (da_cons (de_op od_add (de_op od_mul de_int (de_var 1)) de_int) da_nil)) (de_var 1)))
    (dss_one (ds_ret (de_call (ok__law_low T) fm__law_low (hr.mono (by decide)) rfl T.g__law_low T.F__law_low.kp (b__law_low T) .nil (fun _ => .nil) (da_cons (de_var 2) (da_cons (de_op od_add de_int (de_callB 0 (ok__law_take T) bm__law_take (hr.mono (by decide)) rfl T.g__law_take T.F__law_take.kp (b__law_take T) (da_cons (de_ix (Do.sh (do_lst (da_cons de_int (da_cons de_int (da_cons de_int (da_cons de_int da_nil)))))) (de_callB 0 (ok__law_take T) bm__law_take (hr.mono (by decide)) rfl T.g__law_take T.F__law_take.kp (b__law_take T) (da_cons de_int da_nil))) da_nil))) da_nil))))))), fun xs ds Q h => ?_⟩)
  obtain ⟨n, hb, hn, rfl, hq⟩ := h
  have hn' : n + 4 ≤ 1000000 := hn
  walk_at "dl"
  refine take_at hb (show _ ≤ 1000000 by omega) (by omega) (by decide) fun d1 x1 p1 p2 hb => ?_
  walk_at "dl"
  obtain ⟨z, hz, e⟩ := pick4 (a := 3) (b := 12) (c := 1000) (f := 999999999) p1 p2
  rw [e]
  walk_at "dl"
  refine ⟨mul64 (by omega) (by omega) (by omega) (by omega), ?_⟩
  refine take_at hb (show _ ≤ 1000000 by omega) (by omega) (by omega) fun d2 x2 q1 q2 hb => ?_
  walk_at "dl"
  refine take_at hb (show _ ≤ 1000000 by omega) (by omega) (by decide) fun d3 x3 r1 r2 hb => ?_
  walk_at "dl"
  obtain ⟨y, hy, e⟩ := pick4 (a := 1) (b := 6) (c := 30) (f := 999999999) r1 r2
  rw [e]
  walk_at "dl"
  refine take_at hb (show _ ≤ 1000000 by omega) (by omega) (by omega) fun d4 x4 s1 s2 hb => ?_
  walk_at "dl"
  refine ⟨by omega, ?_, hq _ _ (ratio_bd (by omega) (by omega) (by omega)) hb⟩
  exact Nat.lt_of_lt_of_le (show _ < 2 ^ 64 by omega) (Nat.pow_le_pow_right (by omega) (by omega))
theorem b_law {K : Fg} {mg : Str → Option Value} (T : Tx K mg) : Binds K T.fd_law ["_law_script"] [] := T.F_law.bindsN fun _ _ _ _ _ _ us hl => match us, hl with | [_], _ => rfl
theorem fm_law : FMono f_law := DL.fm_law
theorem ln_law : ∀ ds Q, f_law ds Q → ds.length = (["_law_script"] : List Str).length := DL.ln_law
def nmT_law : Str := (PyProof.Rows.envOfC "law" (defScope s_law) 0 0 .none).qual ++ "<lambda>"
theorem ok_law {P : Program} {w : World} {K : Fg} {mg : Str → Option Value} {base : Heap} (T : Tx K mg) (hT : ∀ p ∈ tfL, LamX.TabB base mg (He.cT K p).1 (He.cT K p).2) : FnOk P w K mg base CX0 6 (He.fAd K ("law", none)) T.fd_law ["_law_script"] (spT K (He.cT K ("law", none)).2 f_law) := by
  refine ok_tab (nm := nmT_law) 4 ("law", none) rfl T.F_law sc_law rfl (by decide +kernel) (by decide) fm_law ln_law (fun cdv A outer s H Z hr hcode hZ => ⟨_, (dss_cons (ds_for PassesOwn.never rfl (di_range1 rfl T.m_range (da_cons (de_b (cd_max rfl) rfl T.m_max bb_max (da_cons de_int (da_cons (de_b (cd_min rfl) rfl T.m_min bb_min (da_cons (de_b cd_len rfl T.m_len bb_len (da_cons (de_var 0) da_nil)) (da_cons de_int da_nil))) da_nil))) da_nil)) (dg_name (i := 1) sc_law.nd rfl (by first | exact Or.inl rfl | exact Or.inr rfl))
    (dss_cons (ds_setO (i := 2) sc_law.nd rfl (by first | exact Or.inl rfl | exact Or.inr rfl) (do_call (ok__law_bag T) fm__law_bag (hr.mono (by decide)) rfl T.g__law_bag T.F__law_bag.kp (b__law_bag T) .nil (fun _ => .nil) (da_cons (de_var 0) (da_cons (de_var 1) da_nil))))
    (dss_cons (ds_set (i := 3) sc_law.nd rfl (by first | exact Or.inl rfl | exact Or.inr rfl) (de_callB 2 (ok__law_number T) bm__law_number (hr.mono (by decide)) rfl T.g__law_number T.F__law_number.kp (b__law_number T) da_nil))
    (dss_cons (ds_if (Dw.pt (dw_or (dt_not (dt_val (de_call (ok__law_text_right T) fm__law_text_right (hr.mono (by decide)) rfl T.g__law_text_right T.F__law_text_right.kp (b__law_text_right T) .nil (fun _ => .nil) (da_cons (de_var 3) da_nil)))) (dw_or1 (dt_not (dt_val (de_call (ok__law_text_right T) fm__law_text_right (hr.mono (by decide)) rfl T.g__law_text_right T.F__law_text_right.kp (b__law_text_right T) .nil (fun _ => .nil) (da_cons (de_tup (da_cons (de_ix (de_var 3) de_int) (da_cons de_int da_nil))) da_nil)))))))
    (dss_one (ds_ret de_bl))
    dss_nil)
    (dss_cons (ds_if (dt_not (dt_val (de_lam (k := 3) (prom := f_refo) (dd := []) 4 (makes0 (nm := nmT_law) rfl hcode (lamP_by (show lamPB (defScope s_law) _ [] = true by decide +kernel)) rfl) rfl (lamP_by (show lamPB (defScope s_law) _ [] = true by decide +kernel)) (lamBd0 fun _ _ _ _ _ _ => rfl) (fun _ m => nomatch m) (fun _ => .nil) (gv__law_refused T 4) (fun fl => lm__law_refused.m fl) rfl T.g__law_refused T.F__law_refused.kp rfl (Or.inl rfl) (tab_at hZ (hT _ (by decide))) (hr.mono (by decide)) (by infer_instance)
    (fun A outer s H E f c' Z' ex hr xo => (de_callX (okx_ratio T) xm_ratio xo (hr.mono (by decide)) rfl T.g_ratio T.F_ratio.kp (b_ratio_2 T).2 (b_ratio_2 T).1 (dd_ratio_2) (da_cons (de_ix (de_var 3) de_int) (da_cons de_int da_nil)))))))
    (dss_one (ds_ret de_bl))
    dss_nil)
    (dss_cons (ds_if (dt_not (dt_val (de_lam (k := 3) (prom := f_refo) (dd := []) 4 (makes0 (nm := nmT_law) rfl hcode (lamP_by (show lamPB (defScope s_law) _ [] = true by decide +kernel)) rfl) rfl (lamP_by (show lamPB (defScope s_law) _ [] = true by decide +kernel)) (lamBd0 fun _ _ _ _ _ _ => rfl) (fun _ m => nomatch m) (fun _ => .nil) (gv__law_refused T 4) (fun fl => lm__law_refused.m fl) rfl T.g__law_refused T.F__law_refused.kp rfl (Or.inl rfl) (tab_at hZ (hT _ (by decide))) (hr.mono (by decide)) (by infer_instance)
    (fun A outer s H E f c' Z' ex hr xo => (de_callX (okx_over T) xm_over xo (hr.mono (by decide)) rfl T.g_over T.F_over.kp (b_over T) .nil (fun _ => .nil) (da_cons (de_var 3) (da_cons (de_tup (da_cons de_int (da_cons de_int da_nil))) da_nil)))))))
    (dss_one (ds_ret de_bl))
    dss_nil)
    (dss_one (ds_if (Dw.pt (dw_or (dt_cmp (od_ne hr.units) (de_call (ok_ratio T) fm_ratio (hr.mono (by decide)) rfl T.g_ratio T.F_ratio.kp (b_ratio_2 T).2 (b_ratio_2 T).1 (dd_ratio_2) (da_cons (de_op od_mul (de_ix (de_var 3) de_int) de_int) (da_cons (de_op od_mul (de_ix (de_var 3) de_int) de_int) da_nil))) (de_var 3)) (dw_or1 (dt_not (dt_val (de_lam (k := 3) (prom := f_refo) (dd := []) 4 (makes0 (nm := nmT_law) rfl hcode (lamP_by (show lamPB (defScope s_law) _ [] = true by decide +kernel)) rfl) rfl (lamP_by (show lamPB (defScope s_law) _ [] = true by decide +kernel)) (lamBd0 fun _ _ _ _ _ _ => rfl) (fun _ m => nomatch m) (fun _ => .nil) (gv__law_refused T 4) (fun fl => lm__law_refused.m fl) rfl T.g__law_refused T.F__law_refused.kp rfl (Or.inl rfl) (tab_at hZ (hT _ (by decide))) (hr.mono (by decide)) (by infer_instance)
    (fun A outer s H E f c' Z' ex hr xo => (de_callX (okx_over T) xm_over xo (hr.mono (by decide)) rfl T.g_over T.F_over.kp (b_over T) .nil (fun _ => .nil) (da_cons (de_tup (da_cons de_int (da_cons de_int da_nil))) (da_cons (de_tup (da_cons de_int (da_cons de_int da_nil))) da_nil))))))))))
    (dss_one (ds_ret de_bl))
    dss_nil))))))))
    (dss_one (ds_ret de_bl))), fun ds Q h => ?_⟩)
  obtain ⟨ns, rfl, hl, hq⟩ := h
  simp only [dSeq, dFor, iRg1]
  walk_at "dl"
  have e : ((ns.map PyData.int).length : Int) = ns.length := by rw [List.length_map]
  rw [e]
  refine ⟨by split <;> (try split) <;> omega, by split <;> (try split) <;> omega, ?_⟩
  refine for_op (fun _ δ => ∃ a1 a2 a3, δ = [some (.sh (.list (ns.map .int))), a1, a2, a3, some (.ob true (.tab nmT_law))]) ⟨_, _, _, rfl⟩ ?_ (fun δ ⟨_, _, _, e⟩ => by subst e; walk_at "dl"; exact hq)
  rintro W hW i d δ hi ⟨a1, a2, a3, rfl⟩
  have hi2 := get_lt hi
  rw [rngD_len] at hi2
  have hi3 : (i : Int) < 1000 := by
    split at hi2 <;> (try split at hi2) <;> omega
  rw [rngD_get hi2] at hi
  cases hi
  rw [Int.zero_add]
  walk_at "dl"
  refine ⟨ns, i, rfl, hl, by omega, by omega, fun xs hb => ?_⟩
  walk_at "dl"
  refine number_at hb (by decide) fun u x1 hu hb => ?_
  walk_at "dl"
  have hu2 : Bd 200 u := hu.mono (by decide)
  refine ⟨u, rfl, hu2, ?_⟩
  walk_at "dl"
  refine ⟨((u.num : Int) : Rat), rfl, bd_top hu2, ?_⟩
  walk_at "dl"
  refine ⟨rfl, ⟨rfl, ?_⟩, _, rfl, rfl, ?_⟩
  · walk_at "dl"
    exact ⟨_, rfl, rfl⟩
  walk_at "dl"
  refine ⟨rfl, ⟨rfl, ?_⟩, _, rfl, rfl, ?_⟩
  · walk_at "dl"
    exact ⟨u, rfl, hu2, rfl⟩
  walk_at "dl"
  have a1 : u.num.natAbs < 2 ^ 30 := hu.1
  have a2 : u.den < 2 ^ 30 := hu.2
  have a3 := u.den_pos
  have h9 : (2 : Nat) ^ 31 ≤ 2 ^ 9000 := Nat.pow_le_pow_right (by omega) (by decide)
  have e1 : Rat.divInt (u.num * 2) ((u.den : Int) * 2) = u := by rw [Rat.divInt_mul_right (by decide), Rat.num_divInt_den]
  rw [e1]
  refine ⟨mul64 (by omega) (by omega) (by omega) (by omega), mul64 (by omega) (by omega) (by omega) (by omega), by omega, by omega, ?_⟩
  simp only [decide_true, Bool.not_true]
  refine ⟨rfl, ⟨rfl, ?_⟩, _, rfl, rfl, ?_⟩
  · walk_at "dl"
    exact ⟨0, rfl, ⟨by decide, by decide⟩, rfl⟩
  walk_at "dl"
  exact hW _ _ ⟨_, _, _, rfl⟩
def fnL : List He.DefD := [⟨("shared", none), "shared", "shared", defArgs s_shared, defBody s_shared, defScope s_shared, [], []⟩, ⟨("number_text", none), "number_text", "number_text", defArgs s_number_text, defBody s_number_text, defScope s_number_text, [], []⟩, ⟨("_law_bag", none), "_law_bag", "_law_bag", defArgs s__law_bag, defBody s__law_bag, defScope s__law_bag, [], []⟩, ⟨("_law_take", none), "_law_take", "_law_take", defArgs s__law_take, defBody s__law_take, defScope s__law_take, [], []⟩, ⟨("_law_shared", none), "_law_shared", "_law_shared", defArgs s__law_shared, defBody s__law_shared, defScope s__law_shared, [], []⟩, ⟨("_law_refused", none), "_law_refused", "_law_refused", defArgs s__law_refused, defBody s__law_refused, defScope s__law_refused, [], []⟩, ⟨("ratio", none), "ratio", "ratio", defArgs s_ratio, defBody s_ratio, defScope s_ratio, [.int 1], []⟩, ⟨("_law_low", none), "_law_low", "_law_low", defArgs s__law_low, defBody s__law_low, defScope s__law_low, [], []⟩, ⟨("_law_text_right", none), "_law_text_right", "_law_text_right", defArgs s__law_text_right, defBody s__law_text_right, defScope s__law_text_right, [], []⟩, ⟨("over", none), "over", "over", defArgs s_over, defBody s_over, defScope s_over, [], []⟩, ⟨("_law_number", none), "_law_number", "_law_number", defArgs s__law_number, defBody s__law_number, defScope s__law_number, [], []⟩, ⟨("law", none), "law", "law", defArgs s_law, defBody s_law, defScope s_law, [], []⟩]
def faL : List He.Fa := [.glo "shared", .glo "number_text", .glo "_law_bag", .glo "_law_take", .glo "_law_shared", .glo "_law_refused", .glo "ratio", .glo "_law_low", .glo "_law_text_right", .glo "over", .glo "_law_number", .glo "law", .free "ZeroDivisionError", .free "abs", .free "isinstance", .free "len", .free "max", .free "min", .free "range", .free "str", .glo "OverNought", .glo "MillError"]
abbrev R : PySem.W.OpenRow := PySem.W.OpenLaw.row PySem.Challenge.rw_toolroad_k05_texts_and_over_nought
def csL : List (Str × PyData) := []
def fbL : List DL.Fb := [.exm (.own "OverNought") [("MillError", false), ("OverNought", true)], .exi [("MillError", true), ("OverNought", false)], .kit (.own "MillError") [("MillError", true), ("OverNought", false)], .exi [("MillError", false), ("OverNought", true)], .kit (.ty "ZeroDivisionError") [("MillError", false), ("OverNought", true)], .exd "OverNought"]
abbrev hk : PySem.W.Hook := DL.hookT (List.range 3000) faL fnL csL fbL tfL
def ob (s : PySem.W.SharedT) : DL.AlB × Bool := DL.obsTG (List.range 3000) faL fnL csL fbL tfL (HandSHeadRun.getT s)
theorem ob_eq (s : PySem.W.SharedT) : ob s = hk.obs s.abs := DL.obsTG_eq (HandSHeadRun.getT_eq s)
def loose : List PySem.Str := [("MillError" : PySem.Str), ("OverNought" : PySem.Str), ("shared" : PySem.Str), ("ratio" : PySem.Str), ("over" : PySem.Str), ("number_text" : PySem.Str), ("_law_bag" : PySem.Str), ("_law_take" : PySem.Str), ("_law_shared" : PySem.Str), ("_law_low" : PySem.Str), ("_law_number" : PySem.Str), ("_law_refused" : PySem.Str), ("_law_text_right" : PySem.Str)]
theorem run (w : World) : HandSHeadRun.RunEq R (PySem.W.view R.prog [16]) hk ob 20000 loose w := by
  intro os
  kernel_rfl
open PySem PySem.W PySem.Calls PyProof.Rows in
theorem fin_all (call : WalkO (view (OpenLaw.row PySem.Challenge.rw_toolroad_k05_texts_and_over_nought).prog [16]) loose (XL (view (OpenLaw.row PySem.Challenge.rw_toolroad_k05_texts_and_over_nought).prog [16]) []) hk.says (OpenLaw.row PySem.Challenge.rw_toolroad_k05_texts_and_over_nought).toRowW (HandSHeadRun.topDef (OpenLaw.row PySem.Challenge.rw_toolroad_k05_texts_and_over_nought).prog 16) [] fun f vs => PySem.call f vs) : PySem.Challenge.rw_toolroad_k05_texts_and_over_nought.Holds := by
  w_on; o_law
  refine HandSHeadRun.head_any (r := OpenLaw.row PySem.Challenge.rw_toolroad_k05_texts_and_over_nought) (q := view (OpenLaw.row PySem.Challenge.rw_toolroad_k05_texts_and_over_nought).prog [16]) (H := hk) (ob := ob) (M := 20000) (loose := loose) (d := HandSHeadRun.topDef (OpenLaw.row PySem.Challenge.rw_toolroad_k05_texts_and_over_nought).prog 16) (kwd := []) ob_eq
    (by kernel_rfl) (fun s => by kernel_rfl) run (by kernel_rfl) (by kernel_rfl) (by kernel_rfl) (by rfl) (by first | assumption | decide +kernel) (by decide +kernel) ⟨rfl, rfl, rfl, rfl, rfl, by decide +kernel⟩ ?hw call
  case hw => w_witness2
theorem facts {P : Program} {w : World} {K : Fg} {h : Heap} {mg : Str → Option Value} {f : Addr} (X : K.In h) (G : h.Ns mainGlobals mg) (hfa : mg ("law" : Str) = some (.ref f)) (cB : DL.SaysB faL fnL csL fbL K) :
    ∃ fd : FuncData, (∀ (s : Shared) (v : Value), BindsTo s fd ⟨[v], []⟩ [("_law_script", v)]) ∧ ∀ base : Heap, K.In base → base.Ns mainGlobals mg → (∀ p ∈ tfL, LamX.TabB base mg (He.cT K p).1 (He.cT K p).2) → FnOk P w K mg base CX0 6 f fd ["_law_script"] (spT K (He.cT K ("law", none)).2 f_law) := by
  have cC := cB.c
  have c := cC.d
  obtain ⟨fd_shared, F_shared⟩ := c.def_ 0 (d := fnL[0]) rfl
  obtain ⟨fd_number_text, F_number_text⟩ := c.def_ 1 (d := fnL[1]) rfl
  obtain ⟨fd__law_bag, F__law_bag⟩ := c.def_ 2 (d := fnL[2]) rfl
  obtain ⟨fd__law_take, F__law_take⟩ := c.def_ 3 (d := fnL[3]) rfl
  obtain ⟨fd__law_shared, F__law_shared⟩ := c.def_ 4 (d := fnL[4]) rfl
  obtain ⟨fd__law_refused, F__law_refused⟩ := c.def_ 5 (d := fnL[5]) rfl
  obtain ⟨fd_ratio, F_ratio⟩ := c.def_ 6 (d := fnL[6]) rfl
  obtain ⟨fd__law_low, F__law_low⟩ := c.def_ 7 (d := fnL[7]) rfl
  obtain ⟨fd__law_text_right, F__law_text_right⟩ := c.def_ 8 (d := fnL[8]) rfl
  obtain ⟨fd_over, F_over⟩ := c.def_ 9 (d := fnL[9]) rfl
  obtain ⟨fd__law_number, F__law_number⟩ := c.def_ 10 (d := fnL[10]) rfl
  obtain ⟨fd_law, F_law⟩ := c.def_ 11 (d := fnL[11]) rfl
  have T : Tx K mg := ⟨fd_shared, F_shared, He.glo_ok X G (c.fact 0 (f := .glo "shared") rfl), fd_number_text, F_number_text, He.glo_ok X G (c.fact 1 (f := .glo "number_text") rfl), fd__law_bag, F__law_bag, He.glo_ok X G (c.fact 2 (f := .glo "_law_bag") rfl), fd__law_take, F__law_take, He.glo_ok X G (c.fact 3 (f := .glo "_law_take") rfl), fd__law_shared, F__law_shared, He.glo_ok X G (c.fact 4 (f := .glo "_law_shared") rfl), fd__law_refused, F__law_refused, He.glo_ok X G (c.fact 5 (f := .glo "_law_refused") rfl), fd_ratio, F_ratio, He.glo_ok X G (c.fact 6 (f := .glo "ratio") rfl), fd__law_low, F__law_low, He.glo_ok X G (c.fact 7 (f := .glo "_law_low") rfl), fd__law_text_right, F__law_text_right, He.glo_ok X G (c.fact 8 (f := .glo "_law_text_right") rfl), fd_over, F_over, He.glo_ok X G (c.fact 9 (f := .glo "over") rfl), fd__law_number, F__law_number, He.glo_ok X G (c.fact 10 (f := .glo "_law_number") rfl), fd_law, F_law, He.glo_ok X G (c.fact 11 (f := .glo "law") rfl), He.free_ok X G (c.fact 12 (f := .free "ZeroDivisionError") rfl), He.free_ok X G (c.fact 13 (f := .free "abs") rfl), He.free_ok X G (c.fact 14 (f := .free "isinstance") rfl), He.free_ok X G (c.fact 15 (f := .free "len") rfl), He.free_ok X G (c.fact 16 (f := .free "max") rfl), He.free_ok X G (c.fact 17 (f := .free "min") rfl), He.free_ok X G (c.fact 18 (f := .free "range") rfl), He.free_ok X G (c.fact 19 (f := .free "str") rfl), He.glo_ok X G (c.fact 20 (f := .glo "OverNought") rfl), He.glo_ok X G (c.fact 21 (f := .glo "MillError") rfl), cB.b 0 rfl, cB.b 1 rfl, cB.b 2 rfl, cB.b 3 rfl, cB.b 4 rfl, cB.b 5 rfl⟩
  have e := hfa.symm.trans T.g_law
  cases e
  have b := FunD.bindsA (ps := ["_law_script"]) T.F_law fun _ _ _ _ _ _ us hl => match us, hl with | [_], _ => rfl
  exact ⟨T.fd_law, fun s v => b s [v] rfl, fun base _ _ hT => ok_law T hT⟩
end Lw
open PySem PySem.W PySem.Calls PyProof.Rows
theorem PySem.Challenge.cw_toolroad_k05_texts_and_over_nought_holds : PySem.Challenge.rw_toolroad_k05_texts_and_over_nought.Holds := by
  refine Lw.fin_all ?hc
  case hc =>
    refine LamX.walk_ofTsE (l := PySem.Challenge.rw_toolroad_k05_texts_and_over_nought) (n := 63) (k := 6) (x := "_law_script") (CX := fun _ => L2.CX0) rfl (by decide) (by kernel_rfl) ⟨rfl, by decide, by decide⟩ ?F (fun _ _ _ _ _ z => z)
    intro w mg fa h Y G hmg0
    obtain ⟨K, KX, c, t⟩ := Y
    have hmg : mg ("law" : PySem.Str) = some (.ref fa) := by
      have e : (HandSHeadRun.topDef (OpenLaw.row PySem.Challenge.rw_toolroad_k05_texts_and_over_nought).prog 16).name = ("law" : PySem.Str) := by kernel_rfl
      rw [← e]
      exact hmg0
    obtain ⟨fd, hb, hF⟩ := Lw.facts (P := (PySem.Challenge.rw_toolroad_k05_texts_and_over_nought).prog) (w := w) KX G hmg c
    have mem : ∀ q ∈ Lw.tfL.map (He.cT K), ∃ p ∈ Lw.tfL, He.cT K p = q := fun q hq => (List.mem_map.mp hq).elim fun p z => ⟨p, z.1, z.2⟩
    refine ⟨K, KX, fd, Lw.tfL.map (He.cT K), DL.spT K (He.cT K ("law", none)).2 DL.f_law, fun q hq => ?_, fun q hq => ?_, fun q hq => ?_, hb, fun H a ns hl _ hH hS => DL.law_startT hl (hH _ (List.mem_map.mpr ⟨_, by decide, rfl⟩)) hS, fun base h1 h2 h3 => hF base h1 h2 fun p hp => h3 _ (List.mem_map.mpr ⟨p, hp, rfl⟩)⟩
    · obtain ⟨p, hp, rfl⟩ := mem q hq
      exact t.emp p hp
    · obtain ⟨p, hp, rfl⟩ := mem q hq
      exact t.out p hp
    · obtain ⟨p, hp, rfl⟩ := mem q hq
      exact PySem.W.codeHd_of_K KX (t.hd p hp)


